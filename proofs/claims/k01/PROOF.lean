import PyProof.Rows.All
import Wide.All
import OpenK.AllK
import Wide.FinOn
import HandS.ForMost
import KE.SortKeyed
import HandS.Lambda
import HandS.CallLocal
import HandS.TupAny
import HandS.Walk
import HandS.Zip
import HandS.IsInst
import HandS.Deep
import HandS.Style
import HandS.HeadHook4
import HandS.List
import HandS.Star
import KE.KRevSl
import HandS.Iter
import KE.GoesEnum
import HandS.More
import HandS.HeadHook3
import HandS.HeadWalk
import HandS.Head0
import HandS.Head1
import HandS.Head2
import HandS.Words
import HandS.WordsExc
import HandS.Ends
import PySem.Challenge.RW_toldanew_k01_whole_worlds_and_sentences
set_option Elab.async false
set_option linter.all false
section
set_option maxRecDepth 100000
/-! Mi: a small evaluator over plain data. The core syntax. -/
namespace Mi
open PySem

inductive Cn where
  | non | bl (b : Bool) | int (i : Int) | str (x : Str)
inductive BOp where
  | add | sub | mul | fdiv | mod | pow | shl | shr | band | bor
inductive UOp where
  | neg | inv
inductive COp where
  | eq | ne | lt | le | gt | ge | mem | nmem | isn | isnn | ist | isf
inductive Bi where
  | len | abs | int | divmod | sum | any | all | max | min | sorted | list | tuple
inductive Ty where
  | tuple | list | bool | int | str
inductive Mt where
  | index | count
mutual
/-- expressions -/
inductive CE where
  | cst (c : Cn)
  | gcn (k : Nat)
  | gfn (g : Nat)
  | var (i : Nat)
  | tup (es : CEs)
  | lst (es : CEs)
  | bin (op : BOp) (a b : CE)
  | un (op : UOp) (a : CE)
  | cmp (op : COp) (a b : CE)
  | chn (o1 o2 : COp) (a b c : CE)
  | and (a b : CE)
  | or (a b : CE)
  | not (a : CE)
  | ife (c : CB) (a b : CE)
  | ix (a i : CE)
  | sl (a : CE) (lo hi : CO)
  | rev (a : CE)
  | call (g : Nat) (es : CEs)
  | calll (g : Nat) (es : CEs) (np ns : Nat) (body : CE) (caps : List Nat)
  | callk (g : Nat) (ord : List Nat) (es ks : CEs)
  | cal (i : Nat) (es : CEs)
  | bi (b : Bi) (es : CEs)
  | isi (a : CE) (t : Ty)
  | app (i : Nat) (a : CE)
  | ext (i : Nat) (a : CE)
  | pop (i : Nat)
  | mth (m : Mt) (a b : CE)
  | lc (elt : CE) (tg : CT) (it : CI) (ifs : CF) (own : List Nat)
  | lc2 (elt : CE) (tg : CT) (it : CI) (ifs : CF) (tg1 : CT) (it1 : CE) (ifs1 : CF) (own own1 : List Nat)
  | look (kvs : List (Str × Cn)) (e : CE)
  | emp
  | bad
/-- tests -/
inductive CB where
  | tv (e : CE)
  | and (a b : CB)
  | or (a b : CB)
  | not (a : CB)
inductive CF where
  | no
  | yes (t : CB)
inductive CO where
  | no
  | yes (e : CE)
/-- items, arguments: starred or not -/
inductive CEs where
  | nil
  | cons (star : Bool) (e : CE) (r : CEs)
/-- targets -/
inductive CT where
  | nm (i : Nat)
  | tp (ts : CTs)
inductive CTs where
  | nil
  | cons (t : CT) (r : CTs)
/-- what is walked -/
inductive CI where
  | ex (e : CE)
  | rg (k : Nat) (es : CEs)
  | en (es : CEs)
  | zp (es : CEs)
end
mutual
inductive CS where
  | asg (t : CT) (e : CE)
  | sset (i : Nat) (k v : CE)
  | sasg (i : Nat) (k : CE) (j : Nat) (v : CE)
  | par (i j : Nat) (a b : CE)
  | par3 (i j k : Nat) (a b c : CE)
  | expr (e : CE)
  | ret (e : CE)
  | retN
  | iff (c : CB) (a b : CSs)
  | forr (t : CT) (it : CI) (b : CSs)
  | whil (c : CB) (b : CSs)
  | pass | brk | cont
  | bad
inductive CSs where
  | nil
  | cons (s : CS) (r : CSs)
end

def CEs.len : CEs → Nat
  | .nil => 0
  | .cons _ _ r => r.len + 1
/-- data; a list is one that stands as it is -/
abbrev D := PySem.PyData

/-- slots: nothing known; data; a def; a lambda with what it captured; a list of one's own, a lent one, one that is only read now -/
inductive Sl where
  | no | val (d : D) | fn (g : Nat) | clo (np ns : Nat) (body : CE) (caps : List Sl) | own (xs : List D) | lent (xs : List D) | lock (xs : List D)
abbrev En := List Sl
/-- an expression's value: data; a new list; a list that is only read now -/
inductive EV where
  | val (d : D) | fr (xs : List D) | bor (xs : List D)
def EV.dat : EV → D
  | .val d => d
  | .fr xs => .list xs
  | .bor xs => .list xs
/-- what stays: data, a list from now on still -/
def EV.keep : EV → Option D
  | .val d => some d
  | .fr xs => some (.list xs)
  | .bor _ => none
/-- an exception: its class, what it keeps -/
structure Ex where
  c : Nat
  a : Option D
inductive Rs (α : Type) where
  | ok (a : α) (e : En)
  | exc (x : Ex) (e : En)
abbrev M (α : Type) := En → Option (Rs α)
def M.ret {α : Type} (a : α) : M α := fun e => some (.ok a e)
def M.fail {α : Type} : M α := fun _ => none
def M.bnd {α β : Type} (m : M α) (f : α → M β) : M β := fun e => match m e with
  | none => none
  | some (.exc x e') => some (.exc x e')
  | some (.ok a e') => f a e'
def M.of {α : Type} (o : Option α) : M α := fun e => match o with
  | some a => some (.ok a e)
  | none => none
def kp (m : M EV) : M D := m.bnd fun x => M.of x.keep
def En.g (e : En) (i : Nat) : Sl := e.getD i .no
/-- flows -/
inductive Fl where
  | nx (e : En) | rt (v : EV) (e : En) | bk (e : En) | ct (e : En) | exc (x : Ex) (e : En)
/-- a call's end -/
inductive Cr where
  | ok (v : EV) (outs : List Sl) | exc (x : Ex)
structure Fd where
  np : Nat
  ns : Nat
  body : CSs
/-- what an evaluation leans on: the module's constants, the calls -/
structure Gm where
  con : Nat → Option D
  call : Nat → List Sl → Option Cr
  clo : Nat → Nat → CE → List Sl → List Sl → Option Cr

/-! ### data -/
def Cn.d : Cn → D
  | .non => .none
  | .bl b => .bool b
  | .int i => .int i
  | .str x => .str x
/-- data no deeper than n -/
def shal : Nat → D → Bool
  | _, .none => true
  | _, .bool _ => true
  | _, .int _ => true
  | _, .str _ => true
  | n + 1, .list xs => xs.all (shal n)
  | n + 1, .tuple xs => xs.all (shal n)
  | _, _ => false
def truth : D → Option Bool
  | .none => some false
  | .bool b => some b
  | .int i => some (i != 0)
  | .str x => some (x.length != 0)
  | .tuple xs => some (!xs.isEmpty)
  | .list xs => some (!xs.isEmpty)
  | _ => none
def lenOk (n : Nat) : Bool := Nat.ble n 16777216
def big : Int := 18446744073709551616
def smallI (i : Int) : Bool := decide (-big < i) && decide (i < big)
def intsL : List D → Option (List Int)
  | [] => some []
  | .int i :: r => (intsL r).map (i :: ·)
  | _ :: _ => none
def boolsL : List D → Option (List Bool)
  | [] => some []
  | .bool b :: r => (boolsL r).map (b :: ·)
  | _ :: _ => none
def strsL : List D → Option (List Str)
  | [] => some []
  | .str x :: r => (strsL r).map (x :: ·)
  | _ :: _ => none
def items : D → Option (List D)
  | .tuple xs => some xs
  | .list xs => some xs
  | _ => none
def maxL : List Int → Option Int
  | [] => none
  | i :: r => some (r.foldl (fun a b => if b > a then b else a) i)
def minL : List Int → Option Int
  | [] => none
  | i :: r => some (r.foldl (fun a b => if b < a then b else a) i)
def insB {α : Type} (lt : α → α → Bool) (x : α) : List α → List α
  | [] => [x]
  | y :: r => if lt y x then y :: insB lt x r else x :: y :: r
def sortB {α : Type} (lt : α → α → Bool) : List α → List α
  | [] => []
  | x :: r => insB lt x (sortB lt r)
def ltS (a b : Str) : Bool := decide (a.cps.toList < b.cps.toList)
def ltI (a b : Int) : Bool := decide (a < b)
/-- what can be sorted, by the kit's order of data -/
def tupNe : D → Bool
  | .tuple (_ :: _) => true
  | _ => false
def notTup : D → Bool
  | .none => false
  | .tuple _ => false
  | _ => true
def sortD (ds : List D) : Option (List D) := if (ds.all fun d => ds.all fun d' => PySem.W.alike d d') && (ds.all tupNe || ds.all notTup) && (ds.all fun d => decide (d.depth ≤ 20)) && lenOk ds.length then some (ds.mergeSort (PySem.W.dataLe false id)) else none
/-- intsL in a row: lo, lo + c, .. -/
def rangeL (lo c : Int) : Nat → List D
  | 0 => []
  | n + 1 => .int lo :: rangeL (lo + c) c n
/-! ### operators, by data -/
/-- a text so many times -/
def repS (x : Str) (n : Nat) : Str := ⟨(List.replicate n x.cps).foldl (· ++ ·) #[]⟩
def binD (op : BOp) (a b : D) : Option EV := match op, a, b with
  | .add, .int i, .int j => some (.val (.int (i + j)))
  | .sub, .int i, .int j => some (.val (.int (i - j)))
  | .mul, .int i, .int j => if smallI i || smallI j then some (.val (.int (i * j))) else none
  | .fdiv, .int i, .int j => if decide (j ≠ 0) && decide (j.natAbs < 1073741824) then some (.val (.int (i.fdiv j))) else none
  | .mod, .int i, .int j => if decide (j ≠ 0) then some (.val (.int (i.fmod j))) else none
  | .pow, .int i, .int j => if decide (0 ≤ j) && decide (j ≤ 1000000) && decide (i.natAbs < 18446744073709551616) then some (.val (.int (i ^ j.toNat))) else none
  | .shl, .int i, .int j => if decide (0 ≤ j) && decide (j ≤ 1000000) && decide (i.natAbs < 18446744073709551616) then some (.val (.int (i * 2 ^ j.toNat))) else none
  | .shr, .int i, .int j => if decide (0 ≤ j) then some (.val (.int (i / 2 ^ j.toNat))) else none
  | .band, .int i, .int j => some (.val (.int (Builtin.bitAnd i j)))
  | .bor, .int i, .int j => some (.val (.int (Builtin.bitOr i j)))
  | .add, .str x, .str y => if lenOk (x.length + y.length) then some (.val (.str (x ++ y))) else none
  | .add, .tuple xs, .tuple ys => if lenOk (xs.length + ys.length) then some (.val (.tuple (xs ++ ys))) else none
  | .add, .list xs, .list ys => if lenOk (xs.length + ys.length) then some (.fr (xs ++ ys)) else none
  | .mul, .list xs, .int k => if smallI (k * 2) && lenOk (xs.length * k.toNat) then some (.fr (List.replicate k.toNat xs).flatten) else none
  | .mul, .str x, .int k => if decide (2 ≤ k) && decide (k ≤ 1000) && decide (1 ≤ x.length) && decide (x.length ≤ 1000) then some (.val (.str (repS x k.toNat))) else none
  | _, _, _ => none
def unD (op : UOp) (a : D) : Option EV := match op, a with
  | .neg, .int i => some (.val (.int (-i)))
  | .inv, .int i => some (.val (.int (Builtin.bitNot i)))
  | _, _ => none
mutual
/-- no dict within -/
def nod : D → Bool
  | .list xs => nodL xs
  | .tuple xs => nodL xs
  | .dict _ => false
  | _ => true
def nodL : List D → Bool
  | [] => true
  | x :: r => nod x && nodL r
end
def eqOk (a b : D) : Bool := (shal 60 a || shal 60 b) && (nod a && nod b)
/-- equal; a list, a tuple against an empty one by its length -/
def eqD (a b : D) : Option Bool := match a, b with
  | .list xs, .list [] => some xs.isEmpty
  | .tuple xs, .tuple [] => some xs.isEmpty
  | a, b => if eqOk a b then some (PyData.eqv a b) else none
def hasSub (i j : Str) : Bool := !(Builtin.Str.occurrences j i 0 j.length 1).isEmpty
def memD (a : D) (xs : List D) : Option Bool := if (shal 60 a || xs.all (shal 60)) && (nod a && nodL xs) then some (xs.any fun y => PyData.eqv y a) else none
def isNone : D → Bool
  | .none => true
  | _ => false
def cmpD (op : COp) (a b : D) : Option Bool := match op, a, b with
  | .eq, a, b => eqD a b
  | .ne, a, b => (eqD a b).map (!·)
  | .lt, .int i, .int j => some (decide (i < j))
  | .le, .int i, .int j => some (decide (i ≤ j))
  | .gt, .int i, .int j => some (decide (j < i))
  | .ge, .int i, .int j => some (decide (j ≤ i))
  | .lt, .str i, .str j => some (ltS i j)
  | .mem, .str i, .str j => some (hasSub i j)
  | .mem, a, .list xs => memD a xs
  | .mem, a, .tuple xs => memD a xs
  | .nmem, .str i, .str j => some (!hasSub i j)
  | .nmem, a, .list xs => (memD a xs).map (!·)
  | .nmem, a, .tuple xs => (memD a xs).map (!·)
  | .isn, a, .none => some (isNone a)
  | .isnn, a, .none => some (!isNone a)
  | .ist, .bool a, .bool b => some (decide (a = b))
  | .isf, .bool a, .bool b => some (!decide (a = b))
  | _, _, _ => none
def ixD (a i : D) : Option D := match a, i with
  | .list xs, .int k => L2.atI xs k
  | .tuple xs, .int k => L2.atI xs k
  | .str z, .int k => (L2.atI z.cps.toList k).map fun c => .str ⟨#[c]⟩
  | _, _ => none
def someI : D → Option (Option Int)
  | .int i => some (some i)
  | _ => none
def cutL {α : Type} (xs : List α) (lo hi : Option Int) : List α := (xs.drop (HT.sIx xs.length 0 lo)).take (HT.sIx xs.length xs.length hi - HT.sIx xs.length 0 lo)
def slD (a : D) (lo hi : Option Int) : Option EV := match a with
  | .list xs => some (.fr (cutL xs lo hi))
  | .tuple xs => some (.val (.tuple (cutL xs lo hi)))
  | .str z => some (.val (.str (L2.cutS z lo hi)))
  | _ => none
def revD : D → Option EV
  | .list xs => some (.fr xs.reverse)
  | .tuple xs => some (.val (.tuple xs.reverse))
  | _ => none
def lenD : D → Option D
  | .list xs => some (.int xs.length)
  | .tuple xs => some (.int xs.length)
  | .str z => some (.int z.length)
  | _ => none
def tyD (t : Ty) (d : D) : Bool := match t, d with
  | .tuple, .tuple _ => true
  | .list, .list _ => true
  | .bool, .bool _ => true
  | .int, .bool _ => true
  | .int, .int _ => true
  | .str, .str _ => true
  | _, _ => false
def biD (b : Bi) (as : List D) : Option EV := match b, as with
  | .len, [a] => (lenD a).map EV.val
  | .abs, [.int i] => some (.val (.int (if i < 0 then -i else i)))
  | .int, [.int i] => some (.val (.int i))
  | .int, [.bool k] => some (.val (.int (if k then 1 else 0)))
  | .divmod, [.int i, .int j] => if decide (0 < j) && decide (j < 1073741824) then some (.val (.tuple [.int (i / j), .int (i % j)])) else none
  | .sum, [.list xs] => (intsL xs).map fun ns => .val (.int ns.sum)
  | .any, [.list xs] => (boolsL xs).map fun bs => .val (.bool (bs.any id))
  | .all, [.list xs] => (boolsL xs).map fun bs => .val (.bool (bs.all id))
  | .max, [.list xs] => ((intsL xs).bind maxL).map fun i => .val (.int i)
  | .min, [.list xs] => ((intsL xs).bind minL).map fun i => .val (.int i)
  | .max, [.int i, .int j] => some (.val (.int (if j > i then j else i)))
  | .min, [.int i, .int j] => some (.val (.int (if j < i then j else i)))
  | .sorted, [.list xs] => if Nat.blt xs.length 64 then match intsL xs with
      | some ns => some (.fr ((sortB ltI ns).map PySem.PyData.int))
      | none => match strsL xs with
        | some ss => some (.fr ((sortB ltS ss).map PySem.PyData.str))
        | none => if nodL xs then (sortD xs).map EV.fr else none
    else none
  | .sorted, [.tuple xs] => if nodL xs then (sortD xs).map EV.fr else none
  | .list, [a] => (items a).map EV.fr
  | .tuple, [a] => (items a).map fun xs => .val (.tuple xs)
  | _, _ => none
def findEq (d : D) : List D → Nat → Option Nat
  | [], _ => none
  | x :: r, k => if PyData.eqv x d then some k else findEq d r (k + 1)
def mtD (m : Mt) (a b : D) : Option EV := match m, a with
  | .index, .list xs => if (shal 60 b || xs.all (shal 60)) && (nod b && nodL xs) then (findEq b xs 0).map fun k => .val (.int k) else none
  | .index, .tuple xs => if (shal 60 b || xs.all (shal 60)) && (nod b && nodL xs) then (findEq b xs 0).map fun k => .val (.int k) else none
  | _, _ => none

/-! ### slots -/
/-- a name's value, kept from now on: a list of one's own stands still -/
def getV (i : Nat) : M EV := fun e => match e.g i with
  | .val d => some (.ok (.val d) e)
  | .own xs => some (.ok (.val (.list xs)) (e.set i (.val (.list xs))))
  | _ => none
/-- what is to be unlocked -/
abbrev Lks := List (Nat × Sl)
def unlock (ls : Lks) (e : En) : En := ls.foldl (fun e p => e.set p.1 p.2) e
/-- a name's value, only read; its list is locked from now on -/
def peek (i : Nat) : M (EV × Lks) := fun e => match e.g i with
  | .val d => some (.ok (.val d, []) e)
  | .lock xs => some (.ok (.bor xs, []) e)
  | .own xs => some (.ok (.bor xs, [(i, .own xs)]) (e.set i (.lock xs)))
  | .lent xs => some (.ok (.bor xs, [(i, .lent xs)]) (e.set i (.lock xs)))
  | _ => none
def lk (a : CE) (m : M EV) : M (EV × Lks) := match a with
  | .var i => peek i
  | _ => m.bnd fun v => M.ret (v, [])
def unl {β : Type} (ls : Lks) (m : M β) : M β := fun e => match m e with
  | some (.ok b e') => some (.ok b (unlock ls e'))
  | some (.exc x e') => some (.exc x (unlock ls e'))
  | none => none
def pk {β : Type} (a : CE) (m : M EV) (k : EV → M β) : M β := (lk a m).bnd fun p => unl p.2 (k p.1)
/-- the list of a name, changed -/
def chg (i : Nat) (f : List D → Option (List D × D)) : M EV := fun e => match e.g i with
  | .own xs => match f xs with
    | some (ys, d) => some (.ok (.val d) (e.set i (.own ys)))
    | none => none
  | .lent xs => match f xs with
    | some (ys, d) => some (.ok (.val d) (e.set i (.lent ys)))
    | none => none
  | _ => none
/-- a list of one's own stands there -/
def chk (i : Nat) : M Unit := fun e => match e.g i with
  | .own _ => some (.ok () e)
  | .lent _ => some (.ok () e)
  | _ => none
def putV (i : Nat) (v : EV) : M Unit := fun e => match e.g i with
  | .lent _ => none
  | .lock _ => none
  | _ => match v with
    | .val d => some (.ok () (e.set i (.val d)))
    | .fr xs => some (.ok () (e.set i (.own xs)))
    | .bor _ => none
/-- return of a name: its list goes along -/
def appF (d : D) (xs : List D) : Option (List D × D) := if lenOk (xs.length + 1) then some (xs ++ [d], .none) else none
def popF (xs : List D) : Option (List D × D) := match xs.getLast? with
  | some x => some (xs.dropLast, x)
  | none => none
def extF (d : D) (xs : List D) : Option (List D × D) := match items d with
  | some ys => if lenOk (xs.length + ys.length) then some (xs ++ ys, .none) else none
  | none => none
def setF (k x : D) (xs : List D) : Option (List D × D) := match k with
  | .int k => (L2.ixN xs.length k).map fun j => (xs.set j x, .none)
  | _ => none
def retV (a : CE) (e : En) : Option (List D × En) := match a with
  | .var i => match e.g i with
    | .own xs => some (xs, e.set i .no)
    | _ => none
  | _ => none
/-- an argument: what is handed on; a list of a name is lent, and put back -/
abbrev Arg := Sl × Option (Nat × Sl)
def argV (i : Nat) : M Arg := fun e => match e.g i with
  | .val d => some (.ok (.val d, none) e)
  | .fn g => some (.ok (.fn g, none) e)
  | .clo np ns b cs => some (.ok (.clo np ns b cs, none) e)
  | .own xs => some (.ok (.lent xs, some (i, .own xs)) (e.set i .no))
  | .lent xs => some (.ok (.lent xs, some (i, .lent xs)) (e.set i .no))
  | .lock xs => some (.ok (.lock xs, some (i, .lock xs)) e)
  | .no => none
def argE (v : EV) : M Arg := match v with
  | .val d => M.ret (.val d, none)
  | .fr xs => M.ret (.own xs, none)
  | .bor _ => M.fail
def argM (a : CE) (m : M EV) : M Arg := match a with
  | .var i => argV i
  | .gfn g => M.ret (.fn g, none)
  | _ => m.bnd argE
/-- what a lambda captures: data, defs -/
def capV (i : Nat) : M Sl := fun e => match e.g i with
  | .val d => some (.ok (.val d) e)
  | .fn g => some (.ok (.fn g) e)
  | _ => none
def Sl.pl : Sl → Bool
  | .clo _ _ _ _ => false
  | _ => true
def capsV : List Nat → M (List Sl)
  | [] => M.ret []
  | i :: r => (capV i).bnd fun s => (capsV r).bnd fun ss => M.ret (s :: ss)
/-- behind a call the lent lists are back -/
def back : List Arg → List Sl → En → Option En
  | [], _, e => some e
  | (_, none) :: r, o, e => back r o.tail e
  | (_, some (i, s)) :: r, o, e => match s, o.head? with
    | .own _, some (.lent ys) => back r o.tail (e.set i (.own ys))
    | .lent _, some (.lent ys) => back r o.tail (e.set i (.lent ys))
    | .lock xs, _ => back r o.tail (e.set i (.lock xs))
    | _, _ => none
def permute {α : Type} (ord : List Nat) (as : List α) : Option (List α) := ord.mapM fun k => as[k]?
/-- no list goes to two parameters -/
def apart (as : List Arg) : Bool := decide ((as.filterMap fun a => a.2.map (·.1)).Nodup)
def callM (f : List Sl → Option Cr) (as : List Arg) : M EV := fun e => if apart as then match f (as.map (·.1)) with
  | some (.ok v outs) => match back as outs e with
    | some e' => match v with
      | .bor _ => none
      | v => some (.ok v e')
    | none => none
  | _ => none else none
def callK (ord : List Nat) (f : List Sl → Option Cr) (as : List Arg) : M EV := match permute ord as with
  | some bs => callM f bs
  | none => M.fail
def fnOf (G : Gm) (i : Nat) (e : En) : Option (List Sl → Option Cr) := match e.g i with
  | .fn g => some (G.call g)
  | .clo np ns b cs => some (G.clo np ns b cs)
  | _ => none
def wipe : List Nat → En → En
  | [], e => e
  | v :: vs, e => (wipe vs e).set v .no
def Sl.ly : Sl → Bool
  | .own _ => true
  | .lent _ => true
  | .lock _ => true
  | _ => false
def comp (own : List Nat) (m : M (List D)) : M EV := fun e0 => if own.all fun i => !(e0.g i).ly then match m (wipe own e0) with
  | some (.ok ys e) => some (.ok (.fr ys) (wipe own e))
  | _ => none else none
def loopM (own : List Nat) (tg : D → M Unit) (tt : M Bool) (te : M D) : List D → List D → M (List D)
  | [], acc => M.ret acc
  | x :: r, acc => fun e => ((tg x).bnd fun _ => tt.bnd fun b => if b then te.bnd fun y => if lenOk (acc.length + 1) then loopM own tg tt te r (acc ++ [y]) else M.fail else loopM own tg tt te r acc) (wipe own e)
def compI (own : List Nat) (m : M (List D)) : M (List D) := fun e0 => if own.all fun i => !(e0.g i).ly then match m (wipe own e0) with
  | some (.ok ys e) => some (.ok ys (wipe own e))
  | _ => none else none
/-- two loops, one within the other -/
def loop2M (own : List Nat) (tg : D → M Unit) (tt : M Bool) (inn : List D → M (List D)) : List D → List D → M (List D)
  | [], acc => M.ret acc
  | x :: r, acc => fun e => ((tg x).bnd fun _ => tt.bnd fun b => if b then (inn acc).bnd fun a => loop2M own tg tt inn r a else loop2M own tg tt inn r acc) (wipe own e)
def lookD (kvs : List (Str × Cn)) : D → Option EV
  | .str x => (kvs.lookup x).map fun c => .val c.d
  | _ => none
def zipL : List D → List D → List D
  | x :: xs, y :: ys => .tuple [x, y] :: zipL xs ys
  | _, _ => []
def enumL : Nat → List D → List D
  | _, [] => []
  | k, x :: r => .tuple [.int k, x] :: enumL (k + 1) r
def rgOk (i : Int) : Bool := decide (-4611686018427387904 ≤ i) && decide (i < 4611686018427387904)
def signsL (z : Str) : List D := z.cps.toList.map fun c => .str ⟨#[c]⟩
def walkD : D → Option (List D)
  | .tuple xs => some xs
  | .list xs => some xs
  | .str z => some (signsL z)
  | _ => none
def rangeD : Nat → List D → Option (List D)
  | 1, [.int n] => if rgOk n then some (rangeL 0 1 n.toNat) else none
  | 2, [.int m, .int n] => if rgOk m && rgOk n then some (rangeL m 1 (n - m).toNat) else none
  | 3, [.int m, .int n, .int c] => if rgOk m && rgOk n && decide (c = -1) then some (rangeL m c (m - n).toNat) else none
  | _, _ => none
def enumD : List D → Option (List D)
  | [.list xs] => some (enumL 0 xs)
  | [.tuple xs] => some (enumL 0 xs)
  | _ => none
def zipD : List D → Option (List D)
  | [.list xs, .list ys] => some (zipL xs ys)
  | [.tuple xs, .tuple ys] => some (zipL xs ys)
  | _ => none
/-- what data that stands still is walked by -/
def walkM (m : M D) : M (List D) := m.bnd fun d => M.of (walkD d)
/-- no exception leaves (a comprehension) -/
def M.nox {α : Type} (m : M α) : M α := fun e => match m e with
  | some (.ok a e') => some (.ok a e')
  | _ => none

/-! ### the evaluation -/
mutual
def evT : CT → D → M Unit
  | .nm i, x => putV i (.val x)
  | .tp ts, x => match x with
      | .tuple xs => evTs ts xs
      | _ => M.fail
def evTs : CTs → List D → M Unit
  | .nil, [] => M.ret ()
  | .cons t r, x :: xs => (evT t x).bnd fun _ => evTs r xs
  | _, _ => M.fail
end
mutual
def CT.names : CT → List Nat
  | .nm i => [i]
  | .tp ts => CTs.names ts
def CTs.names : CTs → List Nat
  | .nil => []
  | .cons t r => CT.names t ++ CTs.names r
end
mutual
def evE (G : Gm) : CE → M EV
  | .cst c => M.ret (.val c.d)
  | .gcn k => M.of ((G.con k).map EV.val)
  | .gfn _ => M.fail
  | .var i => getV i
  | .tup es => (evEs G es).bnd fun xs => if lenOk xs.length then M.ret (.val (.tuple xs)) else M.fail
  | .lst es => (evEs G es).bnd fun xs => if lenOk xs.length then M.ret (.fr xs) else M.fail
  | .bin op a b => pk a (evE G a) fun x => pk b (evE G b) fun y => M.of (binD op x.dat y.dat)
  | .un op a => pk a (evE G a) fun x => M.of (unD op x.dat)
  | .cmp op a b => pk a (evE G a) fun x => pk b (evE G b) fun y => M.of ((cmpD op x.dat y.dat).map fun c => .val (.bool c))
  | .chn o1 o2 a b c => (evE G a).bnd fun x => (evE G b).bnd fun y => (M.of (cmpD o1 x.dat y.dat)).bnd fun k =>
      if k then (evE G c).bnd fun z => M.of ((cmpD o2 y.dat z.dat).map fun c => .val (.bool c)) else M.ret (.val (.bool false))
  | .and a b => (evE G a).bnd fun x => match x with
      | .val (.bool true) => evE G b
      | .val (.bool false) => M.ret (.val (.bool false))
      | _ => M.fail
  | .or a b => (evE G a).bnd fun x => match x with
      | .val (.bool false) => evE G b
      | .val (.bool true) => M.ret (.val (.bool true))
      | _ => M.fail
  | .not a => (evE G a).bnd fun x => match x with
      | .val (.bool c) => M.ret (.val (.bool (!c)))
      | _ => M.fail
  | .ife c a b => (evB G c).bnd fun k => if k then evE G a else evE G b
  | .ix a i => pk a (evE G a) fun x => pk i (evE G i) fun y => M.of ((ixD x.dat y.dat).map EV.val)
  | .sl a lo hi => pk a (evE G a) fun x => (evO G lo).bnd fun l => (evO G hi).bnd fun h => M.of (slD x.dat l h)
  | .rev a => pk a (evE G a) fun x => M.of (revD x.dat)
  | .call g es => (evAs G es).bnd fun as => callM (G.call g) as
  | .callk g ord es ks => (evAs G es).bnd fun as => (evAs G ks).bnd fun bs => callK ord (G.call g) (as ++ bs)
  | .calll g es np ns b caps => (evAs G es).bnd fun as => (capsV caps).bnd fun ss => callM (G.call g) (as ++ [(.clo np ns b ss, none)])
  | .cal i es => fun e => match fnOf G i e with
      | some f => ((evAs G es).bnd fun as => callM f as) e
      | none => none
  | .bi b es => (evPs G es).bnd fun p => unl p.2 (M.of (biD b p.1))
  | .isi a t => pk a (evE G a) fun x => M.of (some (.val (.bool (tyD t x.dat))))
  | .app i a => (chk i).bnd fun _ => (kp (evE G a)).bnd fun x => chg i (appF x)
  | .ext i a => (chk i).bnd fun _ => (kp (evE G a)).bnd fun x => chg i (extF x)
  | .pop i => chg i popF
  | .mth m a b => pk a (evE G a) fun x => (evE G b).bnd fun y => M.of (mtD m x.dat y.dat)
  | .lc elt tg it ifs own => (evI G it).bnd fun p => unl p.2 (comp own (loopM own (evT tg) (evF G ifs) (kp (evE G elt)) p.1 []))
  | .lc2 elt tg it ifs tg1 it1 ifs1 own own1 => (evI G it).bnd fun p => unl p.2 (comp own (loop2M own (evT tg) (evF G ifs) (fun acc => (walkM (kp (evE G it1))).bnd fun q => compI own1 (loopM own1 (evT tg1) (evF G ifs1) (kp (evE G elt)) q acc)) p.1 []))
  | .look kvs e => pk e (evE G e) fun x => M.of (lookD kvs x.dat)
  | .emp => M.ret (.val (.dict []))
  | .bad => M.fail
def evB (G : Gm) : CB → M Bool
  | .tv a => pk a (evE G a) fun x => M.of (truth x.dat)
  | .and a b => (evB G a).bnd fun k => if k then evB G b else M.ret false
  | .or a b => (evB G a).bnd fun k => if k then M.ret true else evB G b
  | .not a => (evB G a).bnd fun k => M.ret (!k)
def evF (G : Gm) : CF → M Bool
  | .no => M.ret true
  | .yes t => evB G t
def evO (G : Gm) : CO → M (Option Int)
  | .no => M.ret none
  | .yes e => (kp (evE G e)).bnd fun x => M.of (someI x)
/-- items -/
def evEs (G : Gm) : CEs → M (List D)
  | .nil => M.ret []
  | .cons false e r => (kp (evE G e)).bnd fun x => (evEs G r).bnd fun xs => M.ret (x :: xs)
  | .cons true e r => pk e (evE G e) fun x => (M.of (items x.dat)).bnd fun ys => (evEs G r).bnd fun xs => M.ret (ys ++ xs)
/-- a built-in's arguments, only read -/
def evPs (G : Gm) : CEs → M (List D × Lks)
  | .nil => M.ret ([], [])
  | .cons _ e r => (lk e (evE G e)).bnd fun p => (evPs G r).bnd fun q => M.ret (p.1.dat :: q.1, p.2 ++ q.2)
/-- a def's arguments -/
def evAs (G : Gm) : CEs → M (List Arg)
  | .nil => M.ret []
  | .cons _ e r => (argM e (evE G e)).bnd fun a => (evAs G r).bnd fun as => M.ret (a :: as)
/-- what is walked, its items; the list of a name is locked from now on -/
def evI (G : Gm) : CI → M (List D × Lks)
  | .ex a => (lk a (evE G a)).bnd fun p => M.of ((walkD p.1.dat).map fun xs => (xs, p.2))
  | .rg k es => (evEs G es).bnd fun ds => M.of ((rangeD k ds).map fun xs => (xs, []))
  | .en es => (evPs G es).bnd fun p => M.of ((enumD p.1).map fun xs => (xs, p.2))
  | .zp es => (evPs G es).bnd fun p => M.of ((zipD p.1).map fun xs => (xs, p.2))
end
/-- a loop's items, one behind the other -/
def forM (tg : D → M Unit) (b : En → Option Fl) : List D → En → Option Fl
  | [], e => some (.nx e)
  | x :: r, e => match tg x e with
    | none => none
    | some (.exc x e1) => some (.exc x e1)
    | some (.ok _ e1) => match b e1 with
      | some (.nx e2) => forM tg b r e2
      | some (.ct e2) => forM tg b r e2
      | some (.bk e2) => some (.nx e2)
      | o => o
def whileM (c : M Bool) (b : En → Option Fl) : Nat → En → Option Fl
  | 0, _ => none
  | n + 1, e => match c e with
    | none => none
    | some (.exc x e1) => some (.exc x e1)
    | some (.ok false e1) => some (.nx e1)
    | some (.ok true e1) => match b e1 with
      | some (.nx e2) => whileM c b n e2
      | some (.ct e2) => whileM c b n e2
      | some (.bk e2) => some (.nx e2)
      | o => o
def Fl.unl (ls : Lks) : Fl → Fl
  | .nx e => .nx (unlock ls e)
  | .rt v e => .rt v (unlock ls e)
  | .bk e => .bk (unlock ls e)
  | .ct e => .ct (unlock ls e)
  | .exc x e => .exc x (unlock ls e)
def flow {α : Type} (m : M α) (k : α → En → Option Fl) : En → Option Fl := fun e => match m e with
  | none => none
  | some (.exc x e1) => some (.exc x e1)
  | some (.ok a e1) => k a e1
def asgV (v : EV) (t : M Unit) : M Unit := t
def turns : Nat := 1000000000
mutual
def evS (G : Gm) : CS → En → Option Fl
  | .asg (.nm i) a => flow ((evE G a).bnd fun v => putV i v) fun _ e => some (.nx e)
  | .asg t a => flow ((kp (evE G a)).bnd fun v => evT t v) fun _ e => some (.nx e)
  | .sset i k v => flow ((kp (evE G v)).bnd fun x => (chk i).bnd fun _ => (kp (evE G k)).bnd fun j => chg i (setF j x)) fun _ e => some (.nx e)
  | .sasg i k j v => flow ((kp (evE G v)).bnd fun x => match x with
      | .tuple [a, b] => (chk i).bnd fun _ => (kp (evE G k)).bnd fun kk => (chg i (setF kk a)).bnd fun _ => putV j (.val b)
      | _ => M.fail) fun _ e => some (.nx e)
  | .par i j a b => flow ((evE G a).bnd fun v => (evE G b).bnd fun w => (putV i v).bnd fun _ => putV j w) fun _ e => some (.nx e)
  | .par3 i j k a b c => flow ((evE G a).bnd fun v => (evE G b).bnd fun w => (evE G c).bnd fun u => (putV i v).bnd fun _ => (putV j w).bnd fun _ => putV k u) fun _ e => some (.nx e)
  | .expr a => flow (evE G a) fun _ e => some (.nx e)
  | .ret a => fun e => match retV a e with
      | some (xs, e1) => some (.rt (.fr xs) e1)
      | none => flow (evE G a) (fun v e => match v with
        | .bor _ => none
        | v => some (.rt v e)) e
  | .retN => fun e => some (.rt (.val .none) e)
  | .iff c a b => flow (evB G c) fun k e => if k then evSs G a e else evSs G b e
  | .forr t it b => flow (evI G it) fun p e => (forM (evT t) (evSs G b) p.1 e).map (Fl.unl p.2)
  | .whil c b => whileM (evB G c) (evSs G b) turns
  | .pass => fun e => some (.nx e)
  | .brk => fun e => some (.bk e)
  | .cont => fun e => some (.ct e)
  | .bad => fun _ => none
def evSs (G : Gm) : CSs → En → Option Fl
  | .nil => fun e => some (.nx e)
  | .cons s r => fun e => match evS G s e with
      | some (.nx e1) => evSs G r e1
      | o => o
end
/-- what was lent, at a def's end -/
def outs (np : Nat) (e : En) : List Sl := (e.take np).map fun s => match s with
  | .lent xs => .lent xs
  | _ => .no
def endF (np : Nat) : Option Fl → Option Cr
  | some (.rt v e) => some (.ok v (outs np e))
  | some (.nx e) => some (.ok (.val .none) (outs np e))
  | _ => none
def startE (ns : Nat) (as : List Sl) : En := as ++ List.replicate (ns - as.length) .no
/-- the calls, so many levels deep -/
def gmOf (con : Nat → Option D) (fn : Nat → Option Fd) : Nat → Gm
  | 0 => ⟨con, fun _ _ => none, fun _ _ _ _ _ => none⟩
  | n + 1 => ⟨con, fun g as => match fn g with
      | some f => if as.length == f.np then endF f.np (evSs (gmOf con fn n) f.body (startE f.ns as)) else none
      | none => none,
    fun np ns b caps as => if as.length == np && as.all Sl.pl then match evE (gmOf con fn n) b (startE ns (as ++ caps)) with
      | some (.ok (.bor _) _) => none
      | some (.ok v e) => some (.ok v (outs np e))
      | _ => none else none⟩
end Mi
end

section
set_option maxRecDepth 100000
/-! Mi: how values and the abstract heap bear data. -/
namespace Mi
open PySem PySem.Spec PyProof.Rows L2

def StrOk (x : Str) : Prop := PyData.strOk x = true ∧ x.length ≤ sizeLine
/-- a list that stands still: locked for good -/
def PerL (K : PySem.W.Frag) (H : Hp) (a : Addr) (xs : List V) : Prop := ∃ o, H a = some (.frz o (.lst xs))
mutual
/-- a value bears data -/
inductive RD (K : PySem.W.Frag) (H : Hp) : V → D → Prop
  | non : RD K H .non .none
  | bl (b : Bool) : RD K H (.bl b) (.bool b)
  | int (i : Int) : RD K H (.int i) (.int i)
  | str (x : Str) : StrOk x → RD K H (.str x) (.str x)
  | tup {a : Addr} {xs : List V} {ds : List D} : SqT K H a xs → RDs K H xs ds → RD K H (.ref a) (.tuple ds)
  | lst {a : Addr} {xs : List V} {ds : List D} : PerL K H a xs → RDs K H xs ds → RD K H (.ref a) (.list ds)
  | emp {a : Addr} {o : Obj} : H a = some (.frz o (.dK [])) → RD K H (.ref a) (.dict [])
inductive RDs (K : PySem.W.Frag) (H : Hp) : List V → List D → Prop
  | nil : RDs K H [] []
  | cons {v : V} {vs : List V} {d : D} {ds : List D} : RD K H v d → RDs K H vs ds → RDs K H (v :: vs) (d :: ds)
end
/-- what never changes -/
def Per (H H' : Hp) : Prop := (∀ a xs, H a = some (.tup xs) → H' a = some (.tup xs)) ∧ ∀ a o u, H a = some (.frz o u) → H' a = some (.frz o u)
theorem Per.refl (H : Hp) : Per H H := ⟨fun _ _ h => h, fun _ _ _ h => h⟩
theorem Per.trans {H H1 H2 : Hp} (a : Per H H1) (b : Per H1 H2) : Per H H2 := ⟨fun c xs h => b.1 c xs (a.1 c xs h), fun c o u h => b.2 c o u (a.2 c o u h)⟩
section
variable {K : PySem.W.Frag} {H H' : Hp}
theorem PerL.per {a : Addr} {xs : List V} (p : Per H H') (h : PerL K H a xs) : PerL K H' a xs := by
  obtain ⟨o, h⟩ := h
  exact ⟨o, p.2 _ _ _ h⟩
theorem PerL.rd {a : Addr} {xs : List V} (h : PerL K H a xs) : Rd H a (.lst xs) := .inr h
theorem PerL.sq {a : Addr} {xs : List V} (h : PerL K H a xs) : SqL K H a xs := .inl (.inr h)
theorem sqT_per {a : Addr} {xs : List V} (p : Per H H') (h : SqT K H a xs) : SqT K H' a xs := by
  rcases h with (h | ⟨o, h⟩) | h
  · exact .inl (.inl (p.1 _ _ h))
  · exact .inl (.inr ⟨o, p.2 _ _ _ h⟩)
  · exact .inr h
mutual
theorem RD.per (p : Per H H') : ∀ {d : D} {v : V}, RD K H v d → RD K H' v d
  | _, _, .non => .non
  | _, _, .bl b => .bl b
  | _, _, .int i => .int i
  | _, _, .str x h => .str x h
  | _, _, .tup h r => .tup (sqT_per p h) (RDs.per p r)
  | _, _, .lst h r => .lst (h.per p) (RDs.per p r)
  | _, _, .emp h => .emp (p.2 _ _ _ h)
theorem RDs.per (p : Per H H') : ∀ {ds : List D} {vs : List V}, RDs K H vs ds → RDs K H' vs ds
  | _, _, .nil => .nil
  | _, _, .cons h r => .cons (RD.per p h) (RDs.per p r)
end
theorem RDs.length : ∀ {ds : List D} {vs : List V}, RDs K H vs ds → vs.length = ds.length
  | _, _, .nil => rfl
  | _, _, .cons _ r => by rw [List.length_cons, List.length_cons, RDs.length r]
theorem RDs.append : ∀ {ds es : List D} {vs us : List V}, RDs K H vs ds → RDs K H us es → RDs K H (vs ++ us) (ds ++ es)
  | _, _, _, _, .nil, s => s
  | _, _, _, _, .cons h r, s => .cons h (RDs.append r s)
theorem RDs.get : ∀ {ds : List D} {vs : List V} {i : Nat} {d : D}, RDs K H vs ds → ds[i]? = some d → ∃ v, vs[i]? = some v ∧ RD K H v d
  | _, _, _, _, .nil, e => by simp at e
  | _, _, 0, _, .cons h _, e => by simp at e; subst e; exact ⟨_, rfl, h⟩
  | _, _, i + 1, d, .cons _ r, e => by
    obtain ⟨v, h1, h2⟩ := RDs.get (i := i) (d := d) r (by simpa using e)
    exact ⟨v, by simpa using h1, h2⟩
theorem RDs.getV : ∀ {ds : List D} {vs : List V} {i : Nat} {v : V}, RDs K H vs ds → vs[i]? = some v → ∃ d, ds[i]? = some d ∧ RD K H v d
  | _, _, _, _, .nil, e => by simp at e
  | _, _, 0, _, .cons h _, e => by simp at e; subst e; exact ⟨_, rfl, h⟩
  | _, _, i + 1, v, .cons _ r, e => by
    obtain ⟨d, h1, h2⟩ := RDs.getV (i := i) (v := v) r (by simpa using e)
    exact ⟨d, by simpa using h1, h2⟩
theorem RDs.set {v : V} {d : D} (h : RD K H v d) : ∀ {ds : List D} {vs : List V} (i : Nat), RDs K H vs ds → RDs K H (vs.set i v) (ds.set i d)
  | _, _, _, .nil => .nil
  | _, _, 0, .cons _ r => .cons h r
  | _, _, i + 1, .cons q r => .cons q (RDs.set h i r)
theorem RDs.take : ∀ {ds : List D} {vs : List V} (n : Nat), RDs K H vs ds → RDs K H (vs.take n) (ds.take n)
  | _, _, 0, _ => .nil
  | _, _, _ + 1, .nil => .nil
  | _, _, n + 1, .cons h r => .cons h (RDs.take n r)
theorem RDs.drop : ∀ {ds : List D} {vs : List V} (n : Nat), RDs K H vs ds → RDs K H (vs.drop n) (ds.drop n)
  | _, _, 0, r => r
  | _, _, _ + 1, .nil => .nil
  | _, _, n + 1, .cons _ r => RDs.drop n r
theorem RDs.reverse : ∀ {ds : List D} {vs : List V}, RDs K H vs ds → RDs K H vs.reverse ds.reverse
  | _, _, .nil => .nil
  | _, _, .cons h r => by
    rw [List.reverse_cons, List.reverse_cons]
    exact (RDs.reverse r).append (.cons h .nil)
theorem RDs.rep {ds : List D} {vs : List V} (r : RDs K H vs ds) : ∀ k : Nat, RDs K H (List.replicate k vs).flatten (List.replicate k ds).flatten
  | 0 => .nil
  | k + 1 => by
    rw [List.replicate_succ, List.replicate_succ, List.flatten_cons, List.flatten_cons]
    exact r.append (RDs.rep r k)
theorem RDs.cut {ds : List D} {vs : List V} (r : RDs K H vs ds) (lo hi : Option Int) : RDs K H (cutV vs lo hi) (cutL ds lo hi) := by
  unfold cutV cutL
  rw [← r.length]
  exact (r.drop _).take _
theorem RDs.atI {ds : List D} {vs : List V} {k : Int} {d : D} (r : RDs K H vs ds) (h : L2.atI ds k = some d) : ∃ v, L2.atI vs k = some v ∧ RD K H v d := by
  unfold L2.atI at h ⊢
  rw [r.length]
  cases e : ixN ds.length k with
  | none => rw [e] at h; cases h
  | some j =>
    rw [e] at h
    exact r.get h
theorem RDs.dropLast {ds : List D} {vs : List V} (r : RDs K H vs ds) : RDs K H vs.dropLast ds.dropLast := by
  rw [List.dropLast_eq_take, List.dropLast_eq_take, r.length]
  exact r.take _
mutual
theorem RD.dp : ∀ {d : D} {v : V}, RD K H v d → nod d = true → Dp K H v d
  | _, _, .non, _ => .non
  | _, _, .bl b, _ => .bl b
  | _, _, .int i, _ => .int i
  | _, _, .str x _, _ => .str x
  | _, _, .tup h r, n => .tup h (RDs.dp r (by simpa only [nod] using n))
  | _, _, .lst h r, n => .lst h.sq (RDs.dp r (by simpa only [nod] using n))
  | _, _, .emp _, n => by simp [nod] at n
theorem RDs.dp : ∀ {ds : List D} {vs : List V}, RDs K H vs ds → nodL ds = true → DpAll K H vs ds
  | _, _, .nil, _ => .nil
  | _, _, .cons h r, n => by
    simp only [nodL, Bool.and_eq_true] at n
    exact .cons (RD.dp h n.1) (RDs.dp r n.2)
end
mutual
theorem RD.lay : ∀ {d : D} {v : V}, RD K H v d → nod d = true → d.canLay0 = true
  | _, _, .non, _ => by simp [PyData.canLay0]
  | _, _, .bl b, _ => by simp [PyData.canLay0]
  | _, _, .int i, _ => by simp [PyData.canLay0]
  | _, _, .str x h, _ => by simp [PyData.canLay0, h.1]
  | _, _, .tup _ r, n => by simp only [PyData.canLay0]; exact RDs.lay r (by simpa only [nod] using n)
  | _, _, .lst _ r, n => by simp only [PyData.canLay0]; exact RDs.lay r (by simpa only [nod] using n)
  | _, _, .emp _, n => by simp [nod] at n
theorem RDs.lay : ∀ {ds : List D} {vs : List V}, RDs K H vs ds → nodL ds = true → PyData.canLayAll0 ds = true
  | _, _, .nil, _ => by simp [PyData.canLayAll0]
  | _, _, .cons h r, n => by
    simp only [nodL, Bool.and_eq_true] at n
    simp [PyData.canLayAll0, RD.lay h n.1, RDs.lay r n.2]
end
end
/-- the depth told by shal -/
theorem shal_depth : ∀ (n : Nat) (d : D), shal n d = true → d.depth ≤ n := by
  intro n
  induction n with
  | zero =>
    intro d h
    cases d with
    | list xs => exact nomatch (show false = true from h)
    | tuple xs => exact nomatch (show false = true from h)
    | dict _ => exact nomatch (show false = true from h)
    | none => simp [PyData.depth]
    | bool _ => simp [PyData.depth]
    | int _ => simp [PyData.depth]
    | str _ => simp [PyData.depth]
  | succ n ih =>
    have all : ∀ xs : List D, xs.all (shal n) = true → PyData.depthAll xs ≤ n := by
      intro xs
      induction xs with
      | nil => intro _; simp [PyData.depthAll]
      | cons x r ihr =>
        intro h
        rw [List.all_cons, Bool.and_eq_true] at h
        simp only [PyData.depthAll]
        exact Nat.max_le.mpr ⟨ih x h.1, ihr h.2⟩
    intro d h
    cases d with
    | list xs => simp only [shal] at h; simp only [PyData.depth]; have := all xs h; omega
    | tuple xs => simp only [shal] at h; simp only [PyData.depth]; have := all xs h; omega
    | dict _ => exact nomatch (show false = true from h)
    | none => simp [PyData.depth]
    | bool _ => simp [PyData.depth]
    | int _ => simp [PyData.depth]
    | str _ => simp [PyData.depth]
theorem shal_all {xs : List D} {n : Nat} (h : xs.all (shal n) = true) : PyData.depthAll xs ≤ n := by
  induction xs with
  | nil => simp [PyData.depthAll]
  | cons x r ihr =>
    rw [List.all_cons, Bool.and_eq_true] at h
    simp only [PyData.depthAll]
    exact Nat.max_le.mpr ⟨shal_depth n x h.1, ihr h.2⟩

/-! ### slots -/
/-- a lambda as it stands: the maker's facts are the context's matter (Clo) -/
abbrev CloP := Hp → Addr → Nat → Nat → CE → List Sl → Prop
def Sl.mt : Sl → Bool
  | .own _ => true
  | .lent _ => true
  | _ => false
/-- what is fixed: where the defs stand, what a lambda's object bears -/
def Sl.ln : Sl → Bool
  | .lent _ => true
  | _ => false
def Sl.ow : Sl → Bool
  | .own _ => true
  | _ => false
structure Fx where
  K : PySem.W.Frag
  fa : Nat → Addr
  clo : CloP
  T : List (Addr × Str)
  par : Nat → List Str
def RLst (K : PySem.W.Frag) (H : Hp) (x : Option (Option V)) (xs : List D) : Prop := ∃ (a : Addr) (vs : List V), x = some (some (.ref a)) ∧ H a = some (.lst vs) ∧ RDs K H vs xs
def RSl (F : Fx) (H : Hp) (x : Option (Option V)) : Sl → Prop
  | .no => True
  | .val d => ∃ v, x = some (some v) ∧ RD F.K H v d
  | .fn g => x = some (some (.ref (F.fa g)))
  | .clo np ns b cs => ∃ f, x = some (some (.ref f)) ∧ F.clo H f np ns b cs
  | .own xs => RLst F.K H x xs
  | .lent xs => RLst F.K H x xs
  | .lock xs => RLst F.K H x xs
/-- the lambdas' facts stay -/
structure Fx.Ok (F : Fx) : Prop where
  clo : ∀ H H' f np ns b cs, (∀ a o, H a = some o → (∀ xs, o ≠ .lst xs) → (∀ ps, o ≠ .tbl ps) → H' a = some o) → F.clo H f np ns b cs → F.clo H' f np ns b cs
structure StOk (F : Fx) (e : En) (σ : L2.St) (H : Hp) : Prop where
  len : e.length ≤ σ.length
  sl : ∀ i, RSl F H σ[i]? (e.g i)
  ap : ∀ i j a b, i ≠ j → (e.g i).ly = true → (e.g j).ly = true → σ[i]? = some (some (.ref a)) → σ[j]? = some (some (.ref b)) → a ≠ b
/-- the lists that an evaluation may change -/
def MutAt (e : En) (σ : L2.St) (a : Addr) : Prop := ∃ i, (e.g i).mt = true ∧ σ[i]? = some (some (.ref a))
/-- all but these (and the tables) stays -/
structure Ext (O : Addr → Prop) (H H' : Hp) : Prop where
  keep : ∀ a o, H a = some o → ¬ O a → (∀ ps, o ≠ .tbl ps) → H' a = some o
  trk : ∀ a, H' a = none → H a = none
theorem Ext.refl (O : Addr → Prop) (H : Hp) : Ext O H H := ⟨fun _ _ h _ _ => h, fun _ h => h⟩
/-- how the slots' roles may turn -/
structure Evo (e e' : En) : Prop where
  mt : ∀ i, (e'.g i).mt = true → (e.g i).mt = true
  ly : ∀ i, (e'.g i).ly = true → (e.g i).ly = true
  lk : ∀ i xs, e.g i = .lock xs → e'.g i = .lock xs
  ln : ∀ i, (e'.g i).ln = true → (e.g i).ln = true
  ow : ∀ i, (e'.g i).ow = true → (e.g i).ow = true
theorem Evo.refl (e : En) : Evo e e := ⟨fun _ h => h, fun _ h => h, fun _ _ h => h, fun _ h => h, fun _ h => h⟩
theorem Evo.trans {e e1 e2 : En} (a : Evo e e1) (b : Evo e1 e2) : Evo e e2 := ⟨fun i h => a.mt i (b.mt i h), fun i h => a.ly i (b.ly i h), fun i xs h => b.lk i xs (a.lk i xs h), fun i h => a.ln i (b.ln i h), fun i h => a.ow i (b.ow i h)⟩
theorem mt_ly {s : Sl} (h : s.mt = true) : s.ly = true := by cases s <;> first | rfl | cases h
theorem StOk.mutLst {F : Fx} {e : En} {σ : L2.St} {H : Hp} (S : StOk F e σ H) {a : Addr} (h : MutAt e σ a) : ∃ vs, H a = some (.lst vs) := by
  obtain ⟨i, h1, h2⟩ := h
  have q := S.sl i
  cases e1 : e.g i with
  | own xs =>
    rw [e1] at q
    obtain ⟨b, vs, q1, q2, _⟩ := q
    rw [h2] at q1
    cases q1
    exact ⟨vs, q2⟩
  | lent xs =>
    rw [e1] at q
    obtain ⟨b, vs, q1, q2, _⟩ := q
    rw [h2] at q1
    cases q1
    exact ⟨vs, q2⟩
  | _ => rw [e1] at h1; cases h1
theorem Ext.per {F : Fx} {e : En} {σ : L2.St} {H H' : Hp} (S : StOk F e σ H) (x : Ext (MutAt e σ) H H') : Per H H' := by
  have key : ∀ a o, H a = some o → (∀ vs, o ≠ .lst vs) → ¬ MutAt e σ a := fun a o h n m => by
    obtain ⟨vs, q⟩ := S.mutLst m
    rw [h] at q
    exact n vs (Option.some.inj q)
  exact ⟨fun a xs h => x.keep a _ h (key a _ h (by intro _ z; cases z)) (by intro _ z; cases z), fun a o u h => x.keep a _ h (key a _ h (by intro _ z; cases z)) (by intro _ z; cases z)⟩
/-- behind an evaluation -/
structure Pst (F : Fx) (e : En) (σ : L2.St) (H : Hp) (e' : En) (H' : Hp) : Prop where
  st : StOk F e' σ H'
  evo : Evo e e'
  ext : Ext (MutAt e σ) H H'
  tabs : LamX.Tabs F.T H'
theorem Evo.mutAt {e e' : En} {σ : L2.St} (v : Evo e e') {a : Addr} (h : MutAt e' σ a) : MutAt e σ a := let ⟨i, h1, h2⟩ := h; ⟨i, v.mt i h1, h2⟩
theorem Pst.trans {F : Fx} {e e1 e2 : En} {σ : L2.St} {H H1 H2 : Hp} (p : Pst F e σ H e1 H1) (q : Pst F e1 σ H1 e2 H2) : Pst F e σ H e2 H2 :=
  ⟨q.st, p.evo.trans q.evo, ⟨fun a o h n t => q.ext.keep a o (p.ext.keep a o h n t) (fun m => n (p.evo.mutAt m)) t, fun a h => p.ext.trk a (q.ext.trk a h)⟩, q.tabs⟩
theorem Pst.refl {F : Fx} {e : En} {σ : L2.St} {H : Hp} (S : StOk F e σ H) (t : LamX.Tabs F.T H) : Pst F e σ H e H := ⟨S, Evo.refl e, Ext.refl _ _, t⟩
/-- data, or a list as it stands now -/
def RB (K : PySem.W.Frag) (H : Hp) (v : V) (d : D) : Prop := RD K H v d ∨ ∃ a vs xs, v = .ref a ∧ d = .list xs ∧ H a = some (.lst vs) ∧ RDs K H vs xs
inductive RBs (K : PySem.W.Frag) (H : Hp) : List V → List D → Prop
  | nil : RBs K H [] []
  | cons {v : V} {vs : List V} {d : D} {ds : List D} : RB K H v d → RBs K H vs ds → RBs K H (v :: vs) (d :: ds)
/-- what stood stands -/
def Grow (H H' : Hp) : Prop := ∀ a o, H a = some o → H' a = some o
theorem Grow.refl (H : Hp) : Grow H H := fun _ _ h => h
theorem Grow.upd {H : Hp} {p : Addr} {o : HO} (h : H p = none) : Grow H (L2.upd H p o) := fun a u q => by rw [upd_ne (ne_of_none q h)]; exact q
theorem Grow.none {H H' : Hp} (g : Grow H H') {a : Addr} (h : H' a = Option.none) : H a = Option.none := by
  cases q : H a with
  | none => rfl
  | some o => rw [g a o q] at h; cases h
theorem Grow.per {H H' : Hp} (g : Grow H H') : Per H H' := ⟨fun _ _ h => g _ _ h, fun _ _ _ h => g _ _ h⟩
/-- a result: data, or a new list -/
def Out (K : PySem.W.Frag) (H : Hp) (v : V) (H' : Hp) (ev : EV) : Prop := Grow H H' ∧ match ev with
  | .val d => RD K H' v d
  | .fr xs => ∃ a vs, v = .ref a ∧ H' a = some (.lst vs) ∧ RDs K H' vs xs ∧ H a = none
  | .bor _ => False
theorem RB.lay {K : PySem.W.Frag} {H : Hp} {v : V} {d : D} (h : RB K H v d) (n : nod d = true) : d.canLay0 = true := by
  rcases h with h | ⟨a, vs, xs, _, rfl, _, r⟩
  · exact h.lay n
  · simp only [PyData.canLay0]
    exact r.lay (by simpa only [nod] using n)
theorem RB.dp {K : PySem.W.Frag} {H : Hp} {v : V} {d : D} (h : RB K H v d) (n : nod d = true) : Dp K H v d := by
  rcases h with h | ⟨a, vs, xs, rfl, rfl, q, r⟩
  · exact h.dp n
  · exact .lst (SqL.of q) (r.dp (by simpa only [nod] using n))
theorem RB.dct {K : PySem.W.Frag} {H : Hp} {v : V} {ks : List (D × D)} (h : RB K H v (.dict ks)) : ∃ a o, v = .ref a ∧ H a = some (.frz o (.dK [])) := by
  rcases h with h | ⟨a, vs, xs, rfl, e, q, r⟩
  · cases h with
    | emp h => exact ⟨_, _, rfl, h⟩
  · cases e
theorem RB.list {K : PySem.W.Frag} {H : Hp} {v : V} {xs : List D} (h : RB K H v (.list xs)) : ∃ a vs, v = .ref a ∧ SqL K H a vs ∧ RDs K H vs xs := by
  rcases h with h | ⟨a, vs, ys, rfl, e, q, r⟩
  · cases h with
    | lst h r => exact ⟨_, _, rfl, h.sq, r⟩
  · cases e
    exact ⟨_, _, rfl, SqL.of q, r⟩
theorem RB.listR {K : PySem.W.Frag} {H : Hp} {v : V} {xs : List D} (h : RB K H v (.list xs)) : ∃ a vs, v = .ref a ∧ Rd H a (.lst vs) ∧ RDs K H vs xs := by
  rcases h with h | ⟨a, vs, ys, rfl, e, q, r⟩
  · cases h with
    | lst h r => exact ⟨_, _, rfl, h.rd, r⟩
  · cases e
    exact ⟨_, _, rfl, .inl q, r⟩
theorem RB.tup {K : PySem.W.Frag} {H : Hp} {v : V} {xs : List D} (h : RB K H v (.tuple xs)) : ∃ a vs, v = .ref a ∧ SqT K H a vs ∧ RDs K H vs xs := by
  rcases h with h | ⟨a, vs, ys, rfl, e, q, r⟩
  · cases h with
    | tup h r => exact ⟨_, _, rfl, h, r⟩
  · cases e
theorem RB.int {K : PySem.W.Frag} {H : Hp} {v : V} {i : Int} (h : RB K H v (.int i)) : v = .int i := by
  rcases h with h | ⟨a, vs, ys, rfl, e, q, r⟩
  · cases h
    rfl
  · cases e
theorem RB.bool {K : PySem.W.Frag} {H : Hp} {v : V} {b : Bool} (h : RB K H v (.bool b)) : v = .bl b := by
  rcases h with h | ⟨a, vs, ys, rfl, e, q, r⟩
  · cases h
    rfl
  · cases e
theorem RB.none {K : PySem.W.Frag} {H : Hp} {v : V} (h : RB K H v .none) : v = .non := by
  rcases h with h | ⟨a, vs, ys, rfl, e, q, r⟩
  · cases h
    rfl
  · cases e
theorem RB.str {K : PySem.W.Frag} {H : Hp} {v : V} {x : Str} (h : RB K H v (.str x)) : v = .str x ∧ StrOk x := by
  rcases h with h | ⟨a, vs, ys, rfl, e, q, r⟩
  · cases h with
    | str _ h => exact ⟨rfl, h⟩
  · cases e
/-- a value bears what the evaluation says; H: ahead of it -/
def REV (F : Fx) (H : Hp) (e' : En) (σ : L2.St) (H' : Hp) (v : V) : EV → Prop
  | .val d => RD F.K H' v d
  | .fr xs => ∃ a vs, v = .ref a ∧ H' a = some (.lst vs) ∧ RDs F.K H' vs xs ∧ H a = none
  | .bor xs => ∃ a vs, v = .ref a ∧ H' a = some (.lst vs) ∧ RDs F.K H' vs xs ∧ ¬ MutAt e' σ a
theorem REV.rb {F : Fx} {H : Hp} {e' : En} {σ : L2.St} {H' : Hp} {v : V} {ev : EV} (h : REV F H e' σ H' v ev) : RB F.K H' v ev.dat := by
  cases ev with
  | val d => exact .inl h
  | fr xs => obtain ⟨a, vs, h1, h2, h3, _⟩ := h; exact .inr ⟨a, vs, xs, h1, rfl, h2, h3⟩
  | bor xs => obtain ⟨a, vs, h1, h2, h3, _⟩ := h; exact .inr ⟨a, vs, xs, h1, rfl, h2, h3⟩
theorem nm_of {F : Fx} {e e' : En} {σ : L2.St} {H : Hp} {a : Addr} (S : StOk F e σ H) (v : Evo e e') (h : H a = Option.none) : ¬ MutAt e' σ a := fun m => by
  obtain ⟨vs, q⟩ := S.mutLst (v.mutAt m)
  rw [h] at q
  cases q
/-- .. still, behind more -/
theorem REV.more {F : Fx} {e e1 e2 : En} {σ : L2.St} {H H1 H2 : Hp} {v : V} {ev : EV} (S : StOk F e σ H) (p : Pst F e σ H e1 H1) (q : Pst F e1 σ H1 e2 H2) (h : REV F H e1 σ H1 v ev) : REV F H e2 σ H2 v ev := by
  have pr := q.ext.per p.st
  cases ev with
  | val d => exact RD.per pr h
  | fr xs =>
    obtain ⟨a, vs, h1, h2, h3, h4⟩ := h
    exact ⟨a, vs, h1, q.ext.keep a _ h2 (nm_of S p.evo h4) (by intro _ z; cases z), RDs.per pr h3, h4⟩
  | bor xs =>
    obtain ⟨a, vs, h1, h2, h3, h4⟩ := h
    exact ⟨a, vs, h1, q.ext.keep a _ h2 h4 (by intro _ z; cases z), RDs.per pr h3, fun m => h4 (q.evo.mutAt m)⟩
/-- a pure growth of the heap -/
theorem RLst.grow {K : PySem.W.Frag} {H H' : Hp} {x : Option (Option V)} {xs : List D} (g : Grow H H') (h : RLst K H x xs) : RLst K H' x xs := by
  obtain ⟨a, vs, h1, h2, h3⟩ := h
  exact ⟨a, vs, h1, g _ _ h2, RDs.per g.per h3⟩
theorem StOk.grow {F : Fx} {e : En} {σ : L2.St} {H H' : Hp} (ok : F.Ok) (S : StOk F e σ H) (g : Grow H H') : StOk F e σ H' := by
  refine ⟨S.len, fun i => ?_, S.ap⟩
  have q := S.sl i
  cases h : e.g i with
  | no => trivial
  | val d => rw [h] at q; obtain ⟨v, h1, h2⟩ := q; exact ⟨v, h1, RD.per g.per h2⟩
  | fn k => rw [h] at q; exact q
  | clo np ns b cs => rw [h] at q; obtain ⟨f, h1, h2⟩ := q; exact ⟨f, h1, ok.clo _ _ _ _ _ _ _ (fun a o h _ _ => g a o h) h2⟩
  | own xs => rw [h] at q; exact RLst.grow g q
  | lent xs => rw [h] at q; exact RLst.grow g q
  | lock xs => rw [h] at q; exact RLst.grow g q
theorem Pst.grow {F : Fx} {e e1 : En} {σ : L2.St} {H H1 H2 : Hp} (ok : F.Ok) (p : Pst F e σ H e1 H1) (g : Grow H1 H2) : Pst F e σ H e1 H2 :=
  ⟨p.st.grow ok g, p.evo, ⟨fun a o h n t => g _ _ (p.ext.keep a o h n t), fun a h => p.ext.trk a (g.none h)⟩, p.tabs.ext g⟩
theorem Out.rev {F : Fx} {e e1 : En} {σ : L2.St} {H H1 H2 : Hp} {v : V} {ev : EV} (p : Pst F e σ H e1 H1) (o : Out F.K H1 v H2 ev) : REV F H e1 σ H2 v ev := by
  cases ev with
  | val d => exact o.2
  | fr xs =>
    obtain ⟨a, vs, h1, h2, h3, h4⟩ := o.2
    exact ⟨a, vs, h1, h2, h3, p.ext.trk a h4⟩
  | bor xs => exact o.2.elim
/-- the reading of an evaluation: m's end is told, R says how what comes bears it -/
def WP {α β : Type} (F : Fx) (m : M α) (R : En → Hp → En → L2.St → Hp → β → α → Prop) : L2.St → Hp → (β → Hp → Prop) → Prop := fun σ H Q =>
  LamX.Tabs F.T H ∧ ∃ e, StOk F e σ H ∧ ∃ a e', m e = some (.ok a e') ∧ ∀ b H', Pst F e σ H e' H' → R e H e' σ H' b a → Q b H'
def tE (F : Fx) (m : M EV) : TE := WP F m fun _ => REV F
def tB (F : Fx) (m : M Bool) : TT := WP F m fun _ _ _ _ _ b a => b = a
def tDs (F : Fx) (m : M (List D)) : TA := WP F m fun _ _ _ _ H' vs ds => RDs F.K H' vs ds
/-- what is locked, and may be unlocked behind more -/
def Locks (e0 e1 : En) (ls : Lks) : Prop := (ls.map (·.1)).Nodup ∧ ∀ p ∈ ls, (e0.g p.1).mt = true ∧ (p.2.ln = true → (e0.g p.1).ln = true) ∧ (p.2.ow = true → (e0.g p.1).ow = true) ∧ ∃ xs, (p.2 = .own xs ∨ p.2 = .lent xs) ∧ e1.g p.1 = .lock xs
def RK (F : Fx) (e : En) (H : Hp) (e' : En) (σ : L2.St) (H' : Hp) (v : V) (p : EV × Lks) : Prop := REV F H e' σ H' v p.1 ∧ Locks e e' p.2
/-- the reading of what is only read -/
def tK (F : Fx) (m : M (EV × Lks)) : TE := WP F m (RK F)
def tP (F : Fx) (m : M (List D × Lks)) : TA := WP F m fun e _ e' _ H' vs p => RBs F.K H' vs p.1 ∧ Locks e e' p.2
theorem bnd_ok {α β : Type} {m : M α} {f : α → M β} {e e' : En} {c : β} (h : m.bnd f e = some (.ok c e')) : ∃ a e1, m e = some (.ok a e1) ∧ f a e1 = some (.ok c e') := by
  unfold M.bnd at h
  split at h
  · cases h
  · cases h
  · exact ⟨_, _, by assumption, h⟩
theorem ret_ok {α : Type} {a b : α} {e e' : En} (h : M.ret a e = some (.ok b e')) : a = b ∧ e = e' := by
  unfold M.ret at h
  cases h
  exact ⟨rfl, rfl⟩
theorem of_ok {α : Type} {o : Option α} {b : α} {e e' : En} (h : M.of o e = some (.ok b e')) : o = some b ∧ e = e' := by
  unfold M.of at h
  split at h
  · cases h
    exact ⟨rfl, rfl⟩
  · cases h
theorem unl_ok {β : Type} {ls : Lks} {m : M β} {e e' : En} {b : β} (h : unl ls m e = some (.ok b e')) : ∃ e1, m e = some (.ok b e1) ∧ e' = unlock ls e1 := by
  unfold unl at h
  split at h
  · cases h
    exact ⟨_, by assumption, rfl⟩
  · cases h
  · cases h
theorem pk_ok {β : Type} {a : CE} {m : M EV} {k : EV → M β} {e e' : En} {r : β} (h : pk a m k e = some (.ok r e')) :
    ∃ p e1 e2, lk a m e = some (.ok p e1) ∧ k p.1 e1 = some (.ok r e2) ∧ e' = unlock p.2 e2 := by
  obtain ⟨p, e1, h1, h2⟩ := bnd_ok h
  obtain ⟨e2, h3, h4⟩ := unl_ok h2
  exact ⟨p, e1, e2, h1, h3, h4⟩
theorem En.g_set {e : En} {i j : Nat} {s : Sl} : (En.g (e.set i s) j) = if i = j ∧ i < e.length then s else e.g j := by
  unfold En.g
  rw [List.getD_eq_getElem?_getD, List.getD_eq_getElem?_getD, List.getElem?_set]
  by_cases h : i = j
  · subst h
    by_cases hl : i < e.length
    · rw [if_pos rfl, if_pos hl, if_pos ⟨rfl, hl⟩]
      rfl
    · rw [if_pos rfl, if_neg hl, if_neg (fun q => hl q.2), List.getElem?_eq_none (by omega)]
  · rw [if_neg h, if_neg (fun q => h q.1)]
theorem En.g_lt {e : En} {i : Nat} (h : e.g i ≠ .no) : i < e.length := by
  rcases Nat.lt_or_ge i e.length with h1 | h1
  · exact h1
  · exfalso
    apply h
    unfold En.g
    rw [List.getD_eq_getElem?_getD, List.getElem?_eq_none h1]
    rfl
theorem En.g_self {e : En} {i : Nat} {s : Sl} (h : i < e.length) : (En.g (e.set i s) i) = s := by rw [En.g_set, if_pos ⟨rfl, h⟩]
theorem En.g_ne {e : En} {i j : Nat} {s : Sl} (h : i ≠ j) : (En.g (e.set i s) j) = e.g j := by rw [En.g_set, if_neg (fun q => h q.1)]
/-- one slot is told anew -/
theorem StOk.put {F : Fx} {e : En} {σ : L2.St} {H : Hp} {i : Nat} {s : Sl} (S : StOk F e σ H) (h : RSl F H σ[i]? s)
    (hm : s.ly = true → ∀ j a b, j ≠ i → (e.g j).ly = true → σ[i]? = some (some (.ref a)) → σ[j]? = some (some (.ref b)) → a ≠ b) : StOk F (e.set i s) σ H := by
  by_cases hi : i < e.length
  · refine ⟨by rw [List.length_set]; exact S.len, fun j => ?_, fun j k a b hjk h1 h2 h3 h4 => ?_⟩
    · by_cases hj : i = j
      · subst hj
        rw [En.g_self hi]
        exact h
      · rw [En.g_ne hj]
        exact S.sl j
    · by_cases hj : i = j
      · subst hj
        rw [En.g_self hi] at h1
        rw [En.g_ne hjk] at h2
        exact hm h1 k a b (Ne.symm hjk) h2 h3 h4
      · rw [En.g_ne hj] at h1
        by_cases hk : i = k
        · subst hk
          rw [En.g_self hi] at h2
          exact Ne.symm (hm h2 j b a hjk h1 h4 h3)
        · rw [En.g_ne hk] at h2
          exact S.ap j k a b hjk h1 h2 h3 h4
  · rw [List.set_eq_of_length_le (by omega)]
    exact S
theorem unlock_pst {F : Fx} {e : En} {σ : L2.St} {H : Hp} (S : StOk F e σ H) : ∀ {ls : Lks} {e2 : En} {H2 : Hp}, Pst F e σ H e2 H2 → Locks e e2 ls → Pst F e σ H (unlock ls e2) H2
  | [], _, _, p, _ => p
  | (i, s) :: r, e2, H2, p, l => by
    obtain ⟨nd, l⟩ := l
    rw [List.map_cons, List.nodup_cons] at nd
    obtain ⟨hm, hln, how, xs, hs, hk⟩ := l (i, s) List.mem_cons_self
    have hm : (e.g i).mt = true := hm
    have hk : e2.g i = .lock xs := hk
    have hi : i < e2.length := En.g_lt (by rw [hk]; intro z; cases z)
    have hsm : s.ly = true ∧ RSl F H2 σ[i]? s := by
      have q := p.st.sl i
      rw [hk] at q
      rcases hs with z | z
      · have z : s = .own xs := z
        subst z; exact ⟨rfl, q⟩
      · have z : s = .lent xs := z
        subst z; exact ⟨rfl, q⟩
    have S2 : StOk F (e2.set i s) σ H2 := p.st.put hsm.2 (fun _ j a b hj h1 h2 h3 => S.ap i j a b (Ne.symm hj) (mt_ly hm) (p.evo.ly j h1) h2 h3)
    have E2 : Evo e (e2.set i s) := by
      refine ⟨fun j h => ?_, fun j h => ?_, fun j ys h => ?_, fun j h => ?_, fun j h => ?_⟩
      · by_cases hj : i = j
        · subst hj; exact hm
        · rw [En.g_ne hj] at h; exact p.evo.mt j h
      · by_cases hj : i = j
        · subst hj; exact mt_ly hm
        · rw [En.g_ne hj] at h; exact p.evo.ly j h
      · by_cases hj : i = j
        · subst hj; rw [h] at hm; cases hm
        · rw [En.g_ne hj]; exact p.evo.lk j ys h
      · by_cases hj : i = j
        · subst hj; rw [En.g_self hi] at h; exact hln h
        · rw [En.g_ne hj] at h; exact p.evo.ln j h
      · by_cases hj : i = j
        · subst hj; rw [En.g_self hi] at h; exact how h
        · rw [En.g_ne hj] at h; exact p.evo.ow j h
    refine unlock_pst S (ls := r) (e2 := e2.set i s) ⟨S2, E2, p.ext, p.tabs⟩ ⟨nd.2, fun q hq => ?_⟩
    obtain ⟨h1, h1', h1'', ys, h2, h3⟩ := l q (List.mem_cons_of_mem _ hq)
    refine ⟨h1, h1', h1'', ys, h2, ?_⟩
    have hne : i ≠ q.1 := fun z => nd.1 (List.mem_map.mpr ⟨q, hq, z.symm⟩)
    rw [En.g_ne hne]
    exact h3
theorem Locks.more {e e1 e2 : En} {ls : Lks} (l : Locks e e1 ls) (v : Evo e1 e2) : Locks e e2 ls := ⟨l.1, fun p hp => let ⟨h1, h1', h1'', xs, h2, h3⟩ := l.2 p hp; ⟨h1, h1', h1'', xs, h2, v.lk _ _ h3⟩⟩
theorem Locks.nil {e e1 : En} : Locks e e1 [] := ⟨List.nodup_nil, fun _ h => nomatch h⟩
theorem Locks.app {e e1 e2 : En} {ls ks : Lks} (l : Locks e e1 ls) (k : Locks e1 e2 ks) (v : Evo e e1) (v2 : Evo e1 e2) : Locks e e2 (ls ++ ks) := by
  refine ⟨?_, fun p hp => ?_⟩
  · rw [List.map_append, List.nodup_append]
    refine ⟨l.1, k.1, fun a ha b hb z => ?_⟩
    obtain ⟨p, hp, rfl⟩ := List.mem_map.mp ha
    obtain ⟨q, hq, rfl⟩ := List.mem_map.mp hb
    obtain ⟨_, _, _, xs, _, h3⟩ := l.2 p hp
    obtain ⟨h4, _, _, _⟩ := k.2 q hq
    rw [← z, h3] at h4
    cases h4
  · rcases List.mem_append.mp hp with h | h
    · exact (l.more v2).2 p h
    · obtain ⟨h1, h1', h1'', xs, h2, h3⟩ := k.2 p h
      exact ⟨v.mt _ h1, fun q => v.ln _ (h1' q), fun q => v.ow _ (h1'' q), xs, h2, h3⟩
/-- a slot's list locked -/
theorem lock_pst {F : Fx} {e : En} {σ : L2.St} {H : Hp} {i : Nat} {xs : List D} {s : Sl} (S : StOk F e σ H) (t : LamX.Tabs F.T H) (h : e.g i = s) (hs : s = .own xs ∨ s = .lent xs) :
    Pst F e σ H (e.set i (.lock xs)) H ∧ Locks e (e.set i (.lock xs)) [(i, s)] ∧ RLst F.K H σ[i]? xs := by
  have q := S.sl i
  have hmt : (e.g i).mt = true := by rcases hs with z | z <;> rw [h, z] <;> rfl
  have hq : RLst F.K H σ[i]? xs := by
    rcases hs with z | z <;> (rw [h, z] at q; exact q)
  have hi : i < e.length := En.g_lt (by rcases hs with z | z <;> (rw [h, z]; intro y; cases y))
  refine ⟨⟨S.put (i := i) (s := .lock xs) hq (fun _ j a b hj h1 h2 h3 => S.ap i j a b (Ne.symm hj) (mt_ly hmt) h1 h2 h3), ⟨fun j hj => ?_, fun j hj => ?_, fun j ys hj => ?_, fun j hj => ?_, fun j hj => ?_⟩, Ext.refl _ _, t⟩, ⟨by simp, fun p hp => ?_⟩, hq⟩
  · by_cases z : i = j
    · subst z; exact hmt
    · rw [En.g_ne z] at hj; exact hj
  · by_cases z : i = j
    · subst z; exact mt_ly hmt
    · rw [En.g_ne z] at hj; exact hj
  · by_cases z : i = j
    · subst z; rw [hj] at hmt; cases hmt
    · rw [En.g_ne z]; exact hj
  · by_cases z : i = j
    · subst z; rw [En.g_self hi] at hj; cases hj
    · rw [En.g_ne z] at hj; exact hj
  · by_cases z : i = j
    · subst z; rw [En.g_self hi] at hj; cases hj
    · rw [En.g_ne z] at hj; exact hj
  · rw [List.mem_singleton] at hp
    subst hp
    exact ⟨hmt, fun z => by rw [h]; exact z, fun z => by rw [h]; exact z, xs, hs, En.g_self hi⟩
end Mi
end

section
set_option maxRecDepth 100000
set_option maxHeartbeats 1000000
/-! Mi: sorted of any alike data, of a list or of a tuple. -/
namespace Mi
open PySem PySem.Spec PyProof.Rows L2 PySem.W PySem.Calls
section
variable {prog : Program} {w : World} {A : Around} {E : Value → Shared → Prop} {s : Shared}
theorem collectT {l : Addr} {vs : List Value} {Q : List Value → Shared → Prop} (hl : s.heap.IsTuple l vs.toArray)
    (h : Q vs { s with heap := (s.heap.push (seqObj "list" #[] 0)).update s.heap.objs.size (Obj.mapSeq (· ++ vs.toArray)) }) (hsz : vs.length ≤ sizeLine) :
    wpAny (model prog w) A (collect (.ref l)) Q E s := by
  obtain ⟨o, ho, hc, n, hd⟩ := id hl
  unfold collect
  refine wpAny_bind (wpAny_runValue (codeAny_builtin entry_proto_collect' ?_))
  show wpAny _ _ (do again (.builtin "list.__iadd__" ⟨[← newList [], .ref l], []⟩)) _ _ s
  refine wpAny_bind (wpAny_newList (wpAny_pure ⟨Code.quiet_builtin _ (by decide +kernel), codeAny_builtin entry_list_iadd' ?_⟩))
  show wpAny _ _ (Builtin.List.listExtendWith (.ref s.heap.objs.size) (.ref l) (.ref s.heap.objs.size)) _ _ { s with heap := s.heap.push (seqObj "list" #[] 0) }
  unfold Builtin.List.listExtendWith
  have ho' : (s.heap.push (seqObj "list" #[] 0)).get? l = some o := Heap.get?_push_of_some _ ho
  refine wpAny_bind (wpAny_typeOf (T := "tuple") ⟨o, ho', hc⟩ ?_)
  have ht : (Value.type "tuple" == Value.type "tuple") = true := by rfl
  rw [if_pos (by rw [ht]; simp)]
  refine wpAny_bind (listItems_at ho' hd ?_)
  refine wpAny_bind (listItems_at (xs := #[]) (n := 0) (Heap.get?_push_size _ rfl) rfl ?_)
  rw [if_neg (by simp)]
  refine wpAny_bind (listUpdate_at (xs := #[]) (n := 0) (Heap.get?_push_size _ rfl) rfl ?_ (Nat.zero_le _) (by show (#[] ++ vs.toArray).size ≤ sizeLine + 1; simp only [Array.size_append, List.size_toArray, List.length_nil]; omega))
  refine wpAny_pure ?_
  show wpAny (model prog w) A (do
      let o ← load s.heap.objs.size
      match o.data with
      | .seq xs _ => pure xs.toList
      | _ => unsupported "internal:collect") Q E { s with heap := (s.heap.push (seqObj "list" #[] 0)).update s.heap.objs.size (Obj.mapSeq (· ++ vs.toArray)) }
  refine wpAny_bind (wpAny_load (get?_update_seq (Heap.get?_push_size _ rfl) _) ?_)
  show wpAny _ _ (pure ((#[] : Array Value) ++ vs.toArray).toList) Q E _
  rw [show ((#[] : Array Value) ++ vs.toArray).toList = vs by simp]
  exact wpAny_pure h
theorem sortedT {κ : PyProof.Rows.KeyKind} {l : Addr} {vs : List Value} {Q : Value → Shared → Prop} (hl : s.heap.IsTuple l vs.toArray) (S : SortsAt prog w A.in1.in1 { s with heap := sortingHeap (copyHeap s.heap vs) (s.heap.objs.size + 1) vs } κ vs) (hL : vs.length ≤ sizeLine)
    (h : Q (.ref (s.heap.objs.size + 1)) { s with heap := sortedAll s.heap vs (sortVals κ false vs vs).toArray }) : wpAny (model prog w) A (call (.builtin "sorted") [.ref l]) Q E s := by
  refine call_function_entry_kw kind_sorted plain_sorted entry_sorted (args_sorted1 _) ?_
  unfold Builtin.«sorted»
  refine wpAny_bind (m := checkCount "sorted" 1 1 _) (wpAny_pure ?_)
  refine wpAny_bind (collectT hl ?_ hL)
  refine wpAny_bind (wpAny_newList ?_ hL)
  have hsz : ((s.heap.push (seqObj "list" #[] 0)).update s.heap.objs.size (Obj.mapSeq (· ++ vs.toArray))).objs.size = s.heap.objs.size + 1 := by
    rw [Heap.size_update, size_push']
  show wpAny _ _ _ _ _ { s with heap := copyHeap s.heap vs }
  rw [hsz]
  refine wpAny_bind (wpAny_holding (wpAny_call_entry_kw slot_list_sort ⟨_, copyHeap_at s.heap vs, rfl⟩ entry_list_sort ?body (args_list_sort _)))
  case body =>
    show wpAny (model prog w) A.in1.in1 (Builtin.«list.sort» ⟨[.ref (s.heap.objs.size + 1)], []⟩) _ _ _
    exact list_sort_vals (s := { s with heap := copyHeap s.heap vs }) (copyHeap_at s.heap vs) S hL ⟨_, rfl, wpAny_pure ⟨_, rfl, h⟩⟩
end
section
variable {X : Cx}
theorem each_rd {K : PySem.W.Frag} {H : Hp} : ∀ {vs : List V} {us : List Value} {ds : List D}, Vals vs us → RDs K H vs ds → EachIs (fun (u : Value) (d : D) => ∃ v, RelV v u ∧ RD K H v d) us ds
  | _, _, _, .nil, .nil => .nil
  | _, _, _, .cons r t, .cons h q => .cons ⟨_, r, h⟩ (each_rd t q)
theorem rd_each {K : PySem.W.Frag} {H : Hp} : ∀ {us : List Value} {ds : List D}, EachIs (fun (u : Value) (d : D) => ∃ v, RelV v u ∧ RD K H v d) us ds → ∃ vs, Vals vs us ∧ RDs K H vs ds
  | _, _, .nil => ⟨[], .nil, .nil⟩
  | _, _, .cons ⟨v, h1, h2⟩ t => by
    obtain ⟨vs, q1, q2⟩ := rd_each t
    exact ⟨v :: vs, .cons h1 q1, .cons h2 q2⟩
theorem each_reads {pins : List (Addr × Obj)} {s : Shared} {σ : L2.St} {H : Hp} (I : Inv X pins σ H s) : ∀ {vs : List V} {us : List Value} {ds : List D}, Vals vs us → RDs X.K H vs ds → nodL ds = true → EachIs (fun (u : Value) (d : D) => ∃ as, Reads s.heap u d as) us ds
  | _, _, _, .nil, .nil, _ => .nil
  | _, _, _, .cons r t, .cons h q, n => by
    simp only [nodL, Bool.and_eq_true] at n
    exact .cons (Dp.reads I _ _ _ (h.dp n.1) r) (each_reads I t q n.2)
theorem EachIs.imp {α β : Type} {R R' : α → β → Prop} (h : ∀ a b, R a b → R' a b) : ∀ {as : List α} {bs : List β}, EachIs R as bs → EachIs R' as bs
  | _, _, .nil => .nil
  | _, _, .cons r t => .cons (h _ _ r) (EachIs.imp h t)
theorem lenOk_le {n : Nat} (h : lenOk n = true) : n ≤ sizeLine := by
  rw [sizeLine_eq]
  exact Nat.le_of_ble_eq_true h
theorem sortD_ok {ds es : List D} (h : sortD ds = some es) : AllAlike ds ∧ Sortable ds ∧ (∀ d, d ∈ ds → d.depth ≤ 20) ∧ ds.length ≤ sizeLine ∧ es = ds.mergeSort (dataLe false id) := by
  unfold sortD at h
  split at h
  · rename_i q
    rw [Bool.and_eq_true, Bool.and_eq_true, Bool.and_eq_true, Bool.or_eq_true] at q
    obtain ⟨⟨⟨q1, q2⟩, q3⟩, q4⟩ := q
    refine ⟨fun d hd d' hd' => List.all_eq_true.mp (List.all_eq_true.mp q1 d hd) d' hd', ?_, fun d hd => of_decide_eq_true (List.all_eq_true.mp q3 d hd), lenOk_le q4, (Option.some.inj h).symm⟩
    rcases q2 with q2 | q2
    · refine .inl fun d hd => ?_
      have := List.all_eq_true.mp q2 d hd
      unfold tupNe at this
      split at this
      · exact ⟨_, _, rfl⟩
      · cases this
    · refine .inr fun d hd => ?_
      have := List.all_eq_true.mp q2 d hd
      unfold notTup at this
      split at this
      · cases this
      · cases this
      · rename_i n1 n2
        exact ⟨fun z => n1 z, fun xs z => n2 xs z⟩
  · cases h
/-- sorted of a list or a tuple of alike data: a new list -/
theorem sort_run (hu : X.A.units + 70 < cLine) {pins : List (Addr × Obj)} {s : Shared} {σ : L2.St} {H : Hp} {Q : VK} {a : Addr} {vs : List V} {ds es : List D} (I : Inv X pins σ H s) (hs : SqL X.K H a vs ∨ SqT X.K H a vs) (r : RDs X.K H vs ds) (nd : nodL ds = true) (h : sortD ds = some es)
    (k : ∀ p ys, H p = none → RDs X.K H ys es → Q (.ref p) (upd H p (.lst ys))) : wpAny (model X.prog X.w) X.A (call (.builtin "sorted") [.ref a]) (EP X pins σ Q) X.xe s := by
  obtain ⟨h1, h2, h3, h4, rfl⟩ := sortD_ok h
  obtain ⟨its, rv, hz, hobj⟩ : ∃ its : List Value, Vals vs its ∧ vs.length ≤ sizeLine ∧ (s.heap.IsList a its.toArray ∨ s.heap.IsTuple a its.toArray) := by
    rcases hs with hs | hs
    · obtain ⟨its, rv, hl, hz⟩ := I.list hs
      exact ⟨its, rv, hz, .inl hl.isList⟩
    · obtain ⟨its, rv, hl, hz⟩ := I.tuple hs
      exact ⟨its, rv, hz, .inr hl⟩
  have hlen : its.length ≤ sizeLine := by rw [← rv.length]; exact hz
  have kp : ∀ b o, s.heap.get? b = some o → (sortingHeap (copyHeap s.heap its) (s.heap.objs.size + 1) its).get? b = some o := fun b o e => sorting_copy_old e
  have er := each_reads I rv r nd
  have er2 : EachIs (fun (u : Value) (d : D) => ∃ as, Reads (sortingHeap (copyHeap s.heap its) (s.heap.objs.size + 1) its) u d as) its ds := EachIs.imp (fun u d ⟨as, q⟩ => ⟨as, PyProof.Rows.Reads.keeps kp q⟩) er
  have S : SortsAt X.prog X.w X.A.in1.in1 { s with heap := sortingHeap (copyHeap s.heap its) (s.heap.objs.size + 1) its } (dataKind (sortingHeap (copyHeap s.heap its) (s.heap.objs.size + 1) its) ds) its := SortsAt.data (s := { s with heap := sortingHeap (copyHeap s.heap its) (s.heap.objs.size + 1) its }) er2 h1 h2 fun d hd => by
    have := h3 d hd
    show X.A.in1.in1.units + d.depth < cLine
    have e1 : X.A.in1.in1.units = X.A.units + 1 + 1 := rfl
    omega
  have out : KeyedOut false (ds.map id) its (sortVals (dataKind (sortingHeap (copyHeap s.heap its) (s.heap.objs.size + 1) its) ds) false its its) := by
    rw [List.map_id]
    exact ⟨_, its, h1, rfl, er2⟩
  have eo := keyedOut_each (k := id) out (each_rd rv r)
  obtain ⟨ys, y1, y2⟩ := rd_each eo
  obtain ⟨ep, he⟩ := PyProof.Rows.sortedAll_at s.heap its (sortVals (dataKind (sortingHeap (copyHeap s.heap its) (s.heap.objs.size + 1) its) ds) false its its).toArray
  have hyl : ys.length ≤ sizeLine := by rw [y2.length, List.length_mergeSort]; exact h4
  have fin : EP X pins σ Q (.ref (s.heap.objs.size + 1)) { s with heap := sortedAll s.heap its (sortVals (dataKind (sortingHeap (copyHeap s.heap its) (s.heap.objs.size + 1) its) ds) false its its).toArray } :=
    ⟨.ref _, upd H (s.heap.objs.size + 1) (.lst ys), I.laid (t' := s.toks) (fun _ _ => PyProof.Rows.sortedAll_old) (Nat.le_succ _) ⟨hyl, _, ep, y1, he⟩, rfl, k _ ys (I.hok.fresh (Nat.le_succ _)) y2⟩
  rcases hobj with hobj | hobj
  · exact sorted_vals hobj S hlen fin
  · exact sortedT hobj S hlen fin
end
end Mi
end

section
set_option maxRecDepth 100000
set_option maxHeartbeats 2000000
/-! Mi: the operators and built-ins, by data. -/
namespace Mi
open PySem PySem.Spec PyProof.Rows L2
/-- a rule of two values, by data -/
def rOp (K : PySem.W.Frag) (g : D → D → Option EV) : R2 := fun x y H Q => ∃ dx dy ev, RB K H x dx ∧ RB K H y dy ∧ g dx dy = some ev ∧ ∀ v H', Out K H v H' ev → Q v H'
def rOp1 (K : PySem.W.Frag) (g : D → Option EV) : V → Hp → VK → Prop := fun x H Q => ∃ dx ev, RB K H x dx ∧ g dx = some ev ∧ ∀ v H', Out K H v H' ev → Q v H'
/-- a rule of a call, by data -/
def rCall (K : PySem.W.Frag) (g : List D → Option EV) : List V → Hp → VK → Prop := fun vs H Q => ∃ ds ev, RBs K H vs ds ∧ g ds = some ev ∧ ∀ v H', Out K H v H' ev → Q v H'
/-- a comparison's answer as a value -/
def blV (g : D → D → Option Bool) : D → D → Option EV := fun a b => (g a b).map fun c => .val (.bool c)

theorem strOk_app {x y : Str} (hx : StrOk x) (hy : StrOk y) (h : x.length + y.length ≤ sizeLine) : StrOk (x ++ y) := by
  refine ⟨?_, ?_⟩
  · have h1 := hx.1
    have h2 := hy.1
    unfold PyData.strOk at h1 h2 ⊢
    show (x.cps ++ y.cps).all _ = true
    rw [Array.all_append, h1, h2]
    rfl
  · show (x.cps ++ y.cps).size ≤ _
    rw [Array.size_append]
    exact h
theorem strOk_sub {x : Str} {l : List Nat} (hx : StrOk x) (hs : ∀ c ∈ l, c ∈ x.cps.toList) (hl : l.length ≤ x.cps.toList.length) : StrOk ⟨l.toArray⟩ := by
  refine ⟨?_, ?_⟩
  · have h1 := hx.1
    unfold PyData.strOk at h1 ⊢
    rw [← Array.all_toList, List.all_eq_true] at h1
    show l.toArray.all _ = true
    rw [← Array.all_toList, List.all_eq_true]
    exact fun c hc => h1 c (hs c hc)
  · show l.toArray.size ≤ _
    have h2 : x.cps.size ≤ sizeLine := hx.2
    rw [List.size_toArray]
    simp only [Array.length_toList] at hl
    omega
theorem strOk_cut {z : Str} (hz : StrOk z) (lo hi : Option Int) : StrOk (cutS z lo hi) := by
  unfold cutS
  refine strOk_sub hz (fun c hc => List.mem_of_mem_drop (List.mem_of_mem_take hc)) ?_
  rw [List.length_take, List.length_drop]
  omega
theorem strOk_sign {z : Str} {c : Nat} (hz : StrOk z) (hc : c ∈ z.cps.toList) : StrOk ⟨#[c]⟩ := by
  have h := strOk_sub (l := [c]) hz (fun d hd => by rw [List.mem_singleton] at hd; rw [hd]; exact hc) (by
    cases e : z.cps.toList with
    | nil => rw [e] at hc; cases hc
    | cons a r => simp)
  exact h
theorem strOk_empty : StrOk Str.empty := ⟨by decide +kernel, by decide +kernel⟩
section
variable {X : Cx} {K : PySem.W.Frag}
theorem op_by {f : Value → Value → Sem Value} {r : R2} {g : D → D → Option EV} (h : OpR X f r) (i : ∀ x y H Q, rOp K g x y H Q → r x y H Q) : OpR X f (rOp K g) := fun pins s σ H x y v u Q I rx ry q => h pins s σ H x y v u Q I rx ry (i _ _ _ _ q)
theorem out_d {H : Hp} {v : V} {d : D} (r : RD K H v d) : Out K H v H (.val d) := ⟨Grow.refl H, r⟩
theorem out_fr {H : Hp} {p : Addr} {vs : List V} {ds : List D} (hp : H p = none) (r : RDs K H vs ds) : Out K H (.ref p) (upd H p (.lst vs)) (.fr ds) := ⟨Grow.upd hp, p, vs, rfl, upd_same, RDs.per (Grow.upd hp).per r, hp⟩
theorem out_tup {H : Hp} {p : Addr} {vs : List V} {ds : List D} (hp : H p = none) (r : RDs K H vs ds) : Out K H (.ref p) (upd H p (.tup vs)) (.val (.tuple ds)) := ⟨Grow.upd hp, .tup (.inl (.inl upd_same)) (RDs.per (Grow.upd hp).per r)⟩

/-! ### list operators that the layer has for tracked lists alone -/
theorem catL {pins : List (Addr × Obj)} {s : Shared} {σ : L2.St} {H : Hp} {a b : Addr} {xs ys : List V} {Q : VK} (I : Inv X pins σ H s) (ha : SqL X.K H a xs) (hb : SqL X.K H b ys) (hz : xs.length + ys.length ≤ sizeLine) (q : ∀ p, H p = none → Q (.ref p) (upd H p (.lst (xs ++ ys)))) :
    wpAny (model X.prog X.w) X.A (binaryOp .Add (.ref a) (.ref b)) (EP X pins σ Q) X.xe s := by
  obtain ⟨its, r1, p1, z1⟩ := I.list ha
  obtain ⟨its2, r2, p2, z2⟩ := I.list hb
  obtain ⟨⟨c1, d1, t1, sl1⟩, n1, e1, q1, _, q2⟩ := p1
  obtain ⟨⟨c2, d2, t2, sl2⟩, n2, e2, q3, _, q4⟩ := p2
  simp only at q1 q2 q3 q4
  subst q1 q2 q3 q4
  have hsz : its.toArray.size + its2.toArray.size ≤ sizeLine := by
    rw [List.size_toArray, List.size_toArray, ← r1.length, ← r2.length]
    exact hz
  refine concat_meets ⟨_, e1, rfl⟩ ⟨_, e2, rfl⟩ noFill_list_add seq_list_add PySem.F.slot_list_add PySem.F.entry_list_add (PySem.F.args_list_add_2 _ _) (list_addW a b its.toArray its2.toArray n1 n2 d1 d2 sl1 sl2 hsz) ⟨e1, e2, ?_⟩
  rw [show its.toArray ++ its2.toArray = (its ++ its2).toArray from by simp]
  exact ⟨.ref _, _, I.lnew (t' := s.toks) (r1.append r2) (by rw [List.length_append]; exact hz), rfl, q _ I.fresh⟩
theorem mulL {pins : List (Addr × Obj)} {s : Shared} {σ : L2.St} {H : Hp} {a : Addr} {xs : List V} {k : Int} {t : Tok} {Q : VK} (I : Inv X pins σ H s) (ha : SqL X.K H a xs) (h1 : -(2 ^ 63) ≤ k) (h2 : k < 2 ^ 63) (hz : xs.length * k.toNat ≤ sizeLine)
    (q : ∀ p, H p = none → Q (.ref p) (upd H p (.lst (List.replicate k.toNat xs).flatten))) : wpAny (model X.prog X.w) X.A (binaryOp .Mult (.ref a) (.int k t)) (EP X pins σ Q) X.xe s := by
  obtain ⟨its, r1, p1, z1⟩ := I.list ha
  obtain ⟨⟨c1, d1, t1, sl1⟩, n1, e1, q1, _, q2⟩ := p1
  simp only at q1 q2
  subst q1 q2
  have hl := r1.length
  have hs := sizeLine_eq
  have hsz' : its.toArray.size * k.toNat ≤ 16777216 := by rw [List.size_toArray, ← hl]; omega
  refine wpAny_binaryOp_repeat_ref (T := "list") (U := "int") (by decide) ⟨_, e1, rfl⟩ (fun s' => typeIs_int s' k t) noFill_list_mul F.fills_int_mul F.slot_int_rmul repeat_list F.slot_int_index.lookup
    (call_meets F.slot_int_rmul (typeIs_int s k t) F.entry_int_rmul (F.args_int_rmul_2 _ _) (lm_int_rmul_list_any k t a its.toArray n1 d1 sl1)
      ⟨e1, rfl, ⟨_, e1, rfl⟩, call_meets F.slot_list_mul ⟨_, e1, rfl⟩ F.entry_list_mul (F.args_list_mul_2 _ _)
        (lm_list_mul_any a its.toArray n1 d1 sl1 k t (by simp [Builtin.List.listFitsIndex]; omega) (by omega) (by simp [Builtin.List.listTooLong, sizeLine]; omega))
        ⟨e1, ?_⟩⟩)
  rw [listMul_foldl_if]
  exact ⟨.ref _, _, I.lnew (t' := s.toks) (r1.rep k.toNat) (by rw [PyProof.Rows.lm_len_rep_flat, Nat.mul_comm]; exact hz), rfl, q _ I.fresh⟩

/-! ### arithmetic -/
theorem p_add : OpR X (binaryOp .Add) (rOp X.K (binD .add)) := by
  intro pins s σ H x y v u Q I rx ry ⟨dx, dy, ev, hx, hy, hg, k⟩
  cases dx with
  | int i =>
    cases dy with
    | int j =>
      cases hg
      exact op_add pins s σ H x y v u Q I rx ry ⟨i, j, hx.int, hy.int, k _ _ (out_d (.int _))⟩
    | _ => cases hg
  | str i =>
    cases dy with
    | str j =>
      simp only [binD] at hg
      split at hg
      · rename_i hl
        cases hg
        have hz : i.length + j.length ≤ sizeLine := by rw [sizeLine_eq]; exact Nat.le_of_ble_eq_true hl
        exact op_add_str pins s σ H x y v u Q I rx ry ⟨i, j, hx.str.1, hy.str.1, hz, k _ _ (out_d (.str _ (strOk_app hx.str.2 hy.str.2 hz)))⟩
      · cases hg
    | _ => cases hg
  | tuple xs =>
    cases dy with
    | tuple ys =>
      simp only [binD] at hg
      split at hg
      · rename_i hl
        cases hg
        obtain ⟨a, vs, e1, q1, r1⟩ := hx.tup
        obtain ⟨b, ws, e2, q2, r2⟩ := hy.tup
        have hz : vs.length + ws.length ≤ sizeLine := by rw [sizeLine_eq, r1.length, r2.length]; exact Nat.le_of_ble_eq_true hl
        refine op_catA pins s σ H x y v u Q I rx ry ⟨a, b, vs, ws, e1, e2, q1, q2, hz, fun h => k _ _ (out_d ?_), fun _ h => k _ _ (out_d ?_), fun _ _ p hp => k _ _ (out_tup hp (r1.append r2))⟩
        · subst h
          cases r1
          exact .tup q2 r2
        · subst h
          cases r2
          rw [List.append_nil]
          exact .tup q1 r1
      · cases hg
    | _ => cases hg
  | list xs =>
    cases dy with
    | list ys =>
      simp only [binD] at hg
      split at hg
      · rename_i hl
        cases hg
        obtain ⟨a, vs, e1, q1, r1⟩ := hx.list
        obtain ⟨b, ws, e2, q2, r2⟩ := hy.list
        have hz : vs.length + ws.length ≤ sizeLine := by rw [sizeLine_eq, r1.length, r2.length]; exact Nat.le_of_ble_eq_true hl
        subst e1 e2
        cases (show v = Value.ref a from rx)
        cases (show u = Value.ref b from ry)
        exact catL I q1 q2 hz fun p hp => k _ _ (out_fr hp (r1.append r2))
      · cases hg
    | _ => cases hg
  | _ => cases hg
theorem p_sub : OpR X (binaryOp .Sub) (rOp X.K (binD .sub)) := by
  intro pins s σ H x y v u Q I rx ry ⟨dx, dy, ev, hx, hy, hg, k⟩
  cases dx with
  | int i =>
    cases dy with
    | int j =>
      cases hg
      exact op_sub pins s σ H x y v u Q I rx ry ⟨i, j, hx.int, hy.int, k _ _ (out_d (.int _))⟩
    | _ => cases hg
  | _ => cases hg
theorem smallI_iff {i : Int} (h : smallI i = true) : -(2 ^ 64) < i ∧ i < 2 ^ 64 := by
  unfold smallI big at h
  rw [Bool.and_eq_true, decide_eq_true_eq, decide_eq_true_eq] at h
  exact ⟨by omega, by omega⟩
theorem rep_ok {x : Str} (hx : StrOk x) : ∀ (n : Nat) (acc : Str), StrOk acc → acc.length + n * x.length ≤ sizeLine → StrOk ⟨(List.replicate n x.cps).foldl (· ++ ·) acc.cps⟩ ∧ (⟨(List.replicate n x.cps).foldl (· ++ ·) acc.cps⟩ : Str).length = acc.length + n * x.length
  | 0, acc, h, hl => ⟨h, by simp⟩
  | n + 1, acc, h, hl => by
    have e : acc.length + x.length + n * x.length = acc.length + (n + 1) * x.length := by rw [Nat.add_mul]; omega
    have ha : (acc ++ x).length = acc.length + x.length := by
      show (acc.cps ++ x.cps).size = _
      rw [Array.size_append]
      rfl
    have h1 := strOk_app h hx (by omega)
    have := rep_ok hx n (acc ++ x) h1 (by rw [ha, e]; exact hl)
    rw [ha, e] at this
    exact this
theorem p_mul : OpR X (binaryOp .Mult) (rOp X.K (binD .mul)) := by
  intro pins s σ H x y v u Q I rx ry ⟨dx, dy, ev, hx, hy, hg, k⟩
  cases dx with
  | int i =>
    cases dy with
    | int j =>
      simp only [binD] at hg
      split at hg
      · rename_i hl
        cases hg
        rw [Bool.or_eq_true] at hl
        exact op_mul pins s σ H x y v u Q I rx ry ⟨i, j, hx.int, hy.int, hl.imp smallI_iff smallI_iff, k _ _ (out_d (.int _))⟩
      · cases hg
    | _ => cases hg
  | list xs =>
    cases dy with
    | int j =>
      simp only [binD] at hg
      split at hg
      · rename_i hl
        cases hg
        rw [Bool.and_eq_true] at hl
        obtain ⟨a, vs, e1, q1, r1⟩ := hx.list
        have hj := hy.int
        subst e1 hj
        cases (show v = Value.ref a from rx)
        obtain ⟨t, rfl⟩ := ry
        have hs := smallI_iff hl.1
        refine mulL I q1 (by omega) (by omega) ?_ fun p hp => k _ _ (out_fr hp (r1.rep _))
        rw [sizeLine_eq, r1.length]
        exact Nat.le_of_ble_eq_true hl.2
      · cases hg
    | _ => cases hg
  | str z =>
    cases dy with
    | int j =>
      simp only [binD] at hg
      split at hg
      · rename_i hl
        cases hg
        simp only [Bool.and_eq_true, decide_eq_true_iff] at hl
        obtain ⟨⟨⟨h2, h3⟩, h4⟩, h5⟩ := hl
        obtain ⟨rfl, sok⟩ := hx.str
        have hj := hy.int
        subst hj
        obtain ⟨t, rfl⟩ := rx
        obtain ⟨t2, rfl⟩ := ry
        have hn : j.toNat ≤ 1000 := by omega
        have hm : j.toNat * z.length ≤ 1000 * 1000 := Nat.mul_le_mul hn h5
        have hsz : (1000 * 1000 : Nat) ≤ sizeLine := by decide
        have e0 : (Str.empty : Str).length = 0 := rfl
        obtain ⟨r1, r2⟩ := rep_ok sok j.toNat Str.empty strOk_empty (by rw [e0, Nat.zero_add]; exact Nat.le_trans hm hsz)
        rw [e0, Nat.zero_add] at r2
        have b1 : ¬ j < 1 := by omega
        have b2 : (j == 1 || z.length == 0) = false := by
          rw [Bool.or_eq_false_iff]
          exact ⟨beq_eq_false_iff_ne.mpr (by omega), beq_eq_false_iff_ne.mpr (by omega)⟩
        refine PySem.P.mul_str (by rw [decide_eq_false (show ¬ j < -(2 ^ 63 : Int) by omega), decide_eq_false (show ¬ j ≥ 2 ^ 63 by omega)]; rfl) (fun _ _ => ?_) (fun _ _ => ?_) ?_
        · have h6 : (9223372036854775807 : Int) / 1000 ≤ (2 ^ 63 - 1) / j := by
            rw [show (2 : Int) ^ 63 - 1 = 9223372036854775807 by decide]
            refine (Int.le_ediv_iff_mul_le (by omega)).mpr ?_
            rw [show (9223372036854775807 : Int) / 1000 = 9223372036854775 by decide]
            omega
          rw [show (9223372036854775807 : Int) / 1000 = 9223372036854775 by decide] at h6
          omega
        · unfold Builtin.Str.tooLong
          rw [decide_eq_false]
          rw [Nat.mul_comm]
          exact Nat.not_lt.mpr (Nat.le_trans hm hsz)
        · rw [if_neg b1, if_neg (by rw [b2]; exact Bool.false_ne_true)]
          exact ⟨r1.2, ⟨.str _, H, I.tok _, ⟨_, rfl⟩, k _ _ (out_d (.str _ r1))⟩⟩
      · cases hg
    | _ => cases hg
  | _ => cases hg
theorem p_fdiv : OpR X (binaryOp .FloorDiv) (rOp X.K (binD .fdiv)) := by
  intro pins s σ H x y v u Q I rx ry ⟨dx, dy, ev, hx, hy, hg, k⟩
  cases dx with
  | int i =>
    cases dy with
    | int j =>
      simp only [binD] at hg
      split at hg
      · rename_i hl
        cases hg
        rw [Bool.and_eq_true, decide_eq_true_eq, decide_eq_true_eq] at hl
        exact op_fdivN pins s σ H x y v u Q I rx ry ⟨i, j, hx.int, hy.int, hl, k _ _ (out_d (.int _))⟩
      · cases hg
    | _ => cases hg
  | _ => cases hg
theorem p_mod : OpR X (binaryOp .Mod) (rOp X.K (binD .mod)) := by
  intro pins s σ H x y v u Q I rx ry ⟨dx, dy, ev, hx, hy, hg, k⟩
  cases dx with
  | int i =>
    cases dy with
    | int j =>
      simp only [binD] at hg
      split at hg
      · rename_i hl
        cases hg
        rw [decide_eq_true_eq] at hl
        exact op_modN pins s σ H x y v u Q I rx ry ⟨i, j, hx.int, hy.int, hl, k _ _ (out_d (.int _))⟩
      · cases hg
    | _ => cases hg
  | _ => cases hg
theorem cpow_of {i j : Int} (h : (decide (0 ≤ j) && decide (j ≤ 1000000) && decide (i.natAbs < 18446744073709551616)) = true) : CPow i j := by
  rw [Bool.and_eq_true, Bool.and_eq_true, decide_eq_true_eq, decide_eq_true_eq, decide_eq_true_eq] at h
  exact ⟨h.1.1, h.1.2, h.2⟩
theorem p_pow : OpR X (binaryOp .Pow) (rOp X.K (binD .pow)) := by
  intro pins s σ H x y v u Q I rx ry ⟨dx, dy, ev, hx, hy, hg, k⟩
  cases dx with
  | int i =>
    cases dy with
    | int j =>
      simp only [binD] at hg
      split at hg
      · rename_i hl
        cases hg
        exact op_pow pins s σ H x y v u Q I rx ry ⟨i, j, hx.int, hy.int, cpow_of hl, k _ _ (out_d (.int _))⟩
      · cases hg
    | _ => cases hg
  | _ => cases hg
theorem p_shl : OpR X (binaryOp .LShift) (rOp X.K (binD .shl)) := by
  intro pins s σ H x y v u Q I rx ry ⟨dx, dy, ev, hx, hy, hg, k⟩
  cases dx with
  | int i =>
    cases dy with
    | int j =>
      simp only [binD] at hg
      split at hg
      · rename_i hl
        cases hg
        exact op_shl pins s σ H x y v u Q I rx ry ⟨i, j, hx.int, hy.int, cpow_of hl, k _ _ (out_d (.int _))⟩
      · cases hg
    | _ => cases hg
  | _ => cases hg
theorem p_shr : OpR X (binaryOp .RShift) (rOp X.K (binD .shr)) := by
  intro pins s σ H x y v u Q I rx ry ⟨dx, dy, ev, hx, hy, hg, k⟩
  cases dx with
  | int i =>
    cases dy with
    | int j =>
      simp only [binD] at hg
      split at hg
      · rename_i hl
        cases hg
        rw [decide_eq_true_eq] at hl
        exact op_shr pins s σ H x y v u Q I rx ry ⟨i, j, hx.int, hy.int, hl, k _ _ (out_d (.int _))⟩
      · cases hg
    | _ => cases hg
  | _ => cases hg
theorem p_band : OpR X (binaryOp .BitAnd) (rOp X.K (binD .band)) := by
  intro pins s σ H x y v u Q I rx ry ⟨dx, dy, ev, hx, hy, hg, k⟩
  cases dx with
  | int i =>
    cases dy with
    | int j =>
      cases hg
      exact op_and pins s σ H x y v u Q I rx ry ⟨i, j, hx.int, hy.int, k _ _ (out_d (.int _))⟩
    | _ => cases hg
  | _ => cases hg
theorem p_bor : OpR X (binaryOp .BitOr) (rOp X.K (binD .bor)) := by
  intro pins s σ H x y v u Q I rx ry ⟨dx, dy, ev, hx, hy, hg, k⟩
  cases dx with
  | int i =>
    cases dy with
    | int j =>
      cases hg
      exact op_or pins s σ H x y v u Q I rx ry ⟨i, j, hx.int, hy.int, k _ _ (out_d (.int _))⟩
    | _ => cases hg
  | _ => cases hg
theorem p_neg : UnR X (unaryOp .USub) (rOp1 X.K (unD .neg)) := by
  intro pins s σ H x v Q I rx ⟨dx, ev, hx, hg, k⟩
  cases dx with
  | int i =>
    cases hg
    exact un_neg pins s σ H x v Q I rx ⟨i, hx.int, k _ _ (out_d (.int _))⟩
  | _ => cases hg
theorem p_inv : UnR X (unaryOp .Invert) (rOp1 X.K (unD .inv)) := by
  intro pins s σ H x v Q I rx ⟨dx, ev, hx, hg, k⟩
  cases dx with
  | int i =>
    cases hg
    exact un_inv pins s σ H x v Q I rx ⟨i, hx.int, k _ _ (out_d (.int _))⟩
  | _ => cases hg

/-! ### comparisons -/
theorem map_ok {α β : Type} {o : Option α} {f : α → β} {b : β} (h : o.map f = some b) : ∃ a, o = some a ∧ f a = b := by
  cases o with
  | none => cases h
  | some a => exact ⟨a, rfl, Option.some.inj h⟩
theorem reads_of {pins : List (Addr × Obj)} {s : Shared} {σ : L2.St} {H : Hp} {x : V} {v : Value} {d : D} (I : Inv X pins σ H s) (rx : RelV x v) (h : RB X.K H x d) (n : nod d = true) : ∃ as, Reads s.heap v d as := Dp.reads I d x v (h.dp n) rx
theorem room_min {A : Around} {a b : D} (hu : A.units + 70 < cLine) (h : eqOk a b = true) : A.units + min a.depth b.depth < cLine := by
  unfold eqOk at h
  rw [Bool.and_eq_true, Bool.or_eq_true] at h
  rcases h.1 with h | h
  · have := shal_depth _ _ h
    have := Nat.min_le_left a.depth b.depth
    omega
  · have := shal_depth _ _ h
    have := Nat.min_le_right a.depth b.depth
    omega
theorem eqOk_nod {a b : D} (h : eqOk a b = true) : nod a = true ∧ nod b = true := by
  unfold eqOk at h
  rw [Bool.and_eq_true, Bool.and_eq_true] at h
  exact h.2
/-- what eqD says: by reading both, or by the length against an empty one -/
theorem eqD_ok {a b : D} {c : Bool} (h : eqD a b = some c) : (eqOk a b = true ∧ c = PyData.eqv a b) ∨ (∃ x xs, a = .list (x :: xs) ∧ b = .list [] ∧ c = false) ∨ (∃ x xs, a = .tuple (x :: xs) ∧ b = .tuple [] ∧ c = false) := by
  unfold eqD at h
  split at h
  · rename_i xs
    cases xs with
    | nil => cases h; exact .inl ⟨by decide +kernel, by decide +kernel⟩
    | cons x r => cases h; exact .inr (.inl ⟨x, r, rfl, rfl, rfl⟩)
  · rename_i xs
    cases xs with
    | nil => cases h; exact .inl ⟨by decide +kernel, by decide +kernel⟩
    | cons x r => cases h; exact .inr (.inr ⟨x, r, rfl, rfl, rfl⟩)
  · split at h
    · rename_i ho
      cases h
      exact .inl ⟨ho, rfl⟩
    · cases h
theorem vals_cons {v : V} {vs : List V} {us : List Value} (h : Vals (v :: vs) us) : us ≠ [] := by
  intro z
  subst z
  cases h
theorem eq_run (hu : X.A.units + 70 < cLine) {pins : List (Addr × Obj)} {s : Shared} {σ : L2.St} {H : Hp} {x y : V} {v u : Value} {a b : D} {c : Bool} (I : Inv X pins σ H s) (rx : RelV x v) (ry : RelV y u) (hx : RB X.K H x a) (hy : RB X.K H y b) (h : eqD a b = some c) :
    SeqAt.RcAt X.A s v u c ∧ SeqAt.RcNeAt X.A s v u (!c) := by
  have hu' : X.A.units < cLine := by omega
  rcases eqD_ok h with ⟨ho, rfl⟩ | ⟨z, zs, rfl, rfl, rfl⟩ | ⟨z, zs, rfl, rfl, rfl⟩
  · obtain ⟨n1, n2⟩ := eqOk_nod ho
    obtain ⟨as, r1⟩ := reads_of I rx hx n1
    obtain ⟨bs, r2⟩ := reads_of I ry hy n2
    exact ⟨SeqAt.rcAt_reads r1 r2 (hx.lay n1) (hy.lay n2) (room_min hu ho), SeqAt.rcNeAt_reads r1 r2 (hx.lay n1) (hy.lay n2) (room_min hu ho)⟩
  · obtain ⟨p, vs, rfl, hp, rp⟩ := hx.list
    obtain ⟨q, ws, rfl, hq, rq⟩ := hy.list
    cases rq
    cases rp with
    | cons rp1 rp2 =>
    obtain rfl : v = .ref p := rx
    obtain rfl : u = .ref q := ry
    obtain ⟨its, rv, ⟨o1, k1, e1, c1, _, d1⟩, _⟩ := I.list hp
    obtain ⟨jts, rw', ⟨o2, k2, e2, c2, _, d2⟩, _⟩ := I.list hq
    cases rw'
    have hz : (its.toArray.size != ([] : List Value).toArray.size) = true := by
      cases its with
      | nil => exact absurd rfl (vals_cons rv)
      | cons i is => simp
    exact ⟨SeqAt.RcAt.lists_lengths ⟨o1, e1, c1, k1, d1⟩ ⟨o2, e2, c2, k2, d2⟩ hz hu', SeqAt.RcNeAt.lists_lengths ⟨o1, e1, c1, k1, d1⟩ ⟨o2, e2, c2, k2, d2⟩ hz hu'⟩
  · obtain ⟨p, vs, rfl, hp, rp⟩ := hx.tup
    obtain ⟨q, ws, rfl, hq, rq⟩ := hy.tup
    cases rq
    cases rp with
    | cons rp1 rp2 =>
    obtain rfl : v = .ref p := rx
    obtain rfl : u = .ref q := ry
    obtain ⟨its, rv, ⟨o1, e1, c1, k1, d1⟩, _⟩ := I.tuple hp
    obtain ⟨jts, rw', ⟨o2, e2, c2, k2, d2⟩, _⟩ := I.tuple hq
    cases rw'
    have hz : ((List.range (min its.toArray.size ([] : List Value).toArray.size)).all (fun _ => true) && its.toArray.size == ([] : List Value).toArray.size) = false := by
      cases its with
      | nil => exact absurd rfl (vals_cons rv)
      | cons i is => simp
    have w1 := SeqAt.RcAt.tuples (A := X.A) (s := s) (e := fun _ => true) ⟨o1, e1, c1, k1, d1⟩ ⟨o2, e2, c2, k2, d2⟩ hu' (fun j _ h2 => absurd h2 (by simp))
    have w2 := SeqAt.RcNeAt.tuples (A := X.A) (s := s) (e := fun _ => true) ⟨o1, e1, c1, k1, d1⟩ ⟨o2, e2, c2, k2, d2⟩ hu' (fun j _ h2 => absurd h2 (by simp))
    rw [hz] at w1 w2
    exact ⟨w1, w2⟩
theorem p_eq (hu : X.A.units + 70 < cLine) : OpR X (compareOp .Eq) (rOp X.K (blV (cmpD .eq))) := by
  intro pins s σ H x y v u Q I rx ry ⟨dx, dy, ev, hx, hy, hg, k⟩
  obtain ⟨c, h1, h2⟩ := map_ok hg
  have h3 : eqD dx dy = some c := h1
  subst h2
  exact (eq_run hu I rx ry hx hy h3).1 X.prog X.w _ _ ⟨.bl _, H, I, rfl, k _ _ (out_d (.bl _))⟩
theorem p_ne (hu : X.A.units + 70 < cLine) : OpR X (compareOp .NotEq) (rOp X.K (blV (cmpD .ne))) := by
  intro pins s σ H x y v u Q I rx ry ⟨dx, dy, ev, hx, hy, hg, k⟩
  obtain ⟨c, h1, h2⟩ := map_ok hg
  have h3 : (eqD dx dy).map (!·) = some c := h1
  obtain ⟨b, h4, rfl⟩ := map_ok h3
  subst h2
  exact (eq_run hu I rx ry hx hy h4).2 X.prog X.w _ _ ⟨.bl _, H, I, rfl, k _ _ (out_d (.bl _))⟩
theorem p_lt : OpR X (compareOp .Lt) (rOp X.K (blV (cmpD .lt))) := by
  intro pins s σ H x y v u Q I rx ry ⟨dx, dy, ev, hx, hy, hg, k⟩
  cases dx with
  | int i =>
    cases dy with
    | int j =>
      cases hg
      exact op_lt pins s σ H x y v u Q I rx ry ⟨i, j, hx.int, hy.int, k _ _ (out_d (.bl _))⟩
    | _ => cases hg
  | str i =>
    cases dy with
    | str j =>
      cases hg
      exact op_lt_str pins s σ H x y v u Q I rx ry ⟨i, j, hx.str.1, hy.str.1, k _ _ (out_d (.bl _))⟩
    | _ => cases hg
  | _ => cases hg
theorem p_le : OpR X (compareOp .LtE) (rOp X.K (blV (cmpD .le))) := by
  intro pins s σ H x y v u Q I rx ry ⟨dx, dy, ev, hx, hy, hg, k⟩
  cases dx with
  | int i =>
    cases dy with
    | int j =>
      cases hg
      exact op_le pins s σ H x y v u Q I rx ry ⟨i, j, hx.int, hy.int, k _ _ (out_d (.bl _))⟩
    | _ => cases hg
  | _ => cases hg
theorem p_gt : OpR X (compareOp .Gt) (rOp X.K (blV (cmpD .gt))) := by
  intro pins s σ H x y v u Q I rx ry ⟨dx, dy, ev, hx, hy, hg, k⟩
  cases dx with
  | int i =>
    cases dy with
    | int j =>
      cases hg
      exact op_gt pins s σ H x y v u Q I rx ry ⟨i, j, hx.int, hy.int, k _ _ (out_d (.bl _))⟩
    | _ => cases hg
  | _ => cases hg
theorem p_ge : OpR X (compareOp .GtE) (rOp X.K (blV (cmpD .ge))) := by
  intro pins s σ H x y v u Q I rx ry ⟨dx, dy, ev, hx, hy, hg, k⟩
  cases dx with
  | int i =>
    cases dy with
    | int j =>
      cases hg
      exact op_ge pins s σ H x y v u Q I rx ry ⟨i, j, hx.int, hy.int, k _ _ (out_d (.bl _))⟩
    | _ => cases hg
  | _ => cases hg
theorem room_in {A : Around} {a : D} {xs : List D} (hu : A.units + 70 < cLine) (h : (shal 60 a || xs.all (shal 60)) = true) : A.units + 1 + min (PyData.depthAll xs) a.depth < cLine := by
  rw [Bool.or_eq_true] at h
  rcases h with h | h
  · have := shal_depth _ _ h
    have := Nat.min_le_right (PyData.depthAll xs) a.depth
    omega
  · have := shal_all h
    have := Nat.min_le_left (PyData.depthAll xs) a.depth
    omega
theorem memD_ok {a : D} {xs : List D} {c : Bool} (h : memD a xs = some c) : (shal 60 a || xs.all (shal 60)) = true ∧ (c = xs.any fun y => PyData.eqv y a) ∧ nod a = true ∧ nodL xs = true := by
  unfold memD at h
  split at h
  · rename_i q
    rw [Bool.and_eq_true, Bool.and_eq_true] at q
    exact ⟨q.1, (Option.some.inj h).symm, q.2.1, q.2.2⟩
  · cases h
theorem lay_items {d : D} {xs : List D} (h : d.canLay0 = true) (e : d = .list xs ∨ d = .tuple xs) : PyData.canLayAll0 xs = true := by
  rcases e with e | e <;> (subst e; simpa only [PyData.canLay0] using h)
theorem p_mem (hu : X.A.units + 70 < cLine) : OpR X (compareOp .In) (rOp X.K (blV (cmpD .mem))) := by
  intro pins s σ H x y v u Q I rx ry ⟨dx, dy, ev, hx, hy, hg, k⟩
  obtain ⟨c, h1, h2⟩ := map_ok hg
  subst h2
  cases dy with
  | str j =>
    cases dx with
    | str i =>
      cases h1
      exact op_in_str pins s σ H x y v u Q I rx ry ⟨i, j, hx.str.1, hy.str.1, k _ _ (out_d (.bl _))⟩
    | _ => cases h1
  | list xs =>
    have h3 : memD dx xs = some c := by cases dx <;> exact h1
    obtain ⟨h4, h5, n1, n2⟩ := memD_ok h3
    subst h5
    have n3 : nod (PyData.list xs) = true := by simpa only [nod] using n2
    have hl := hy.lay n3
    obtain ⟨as, r1⟩ := reads_of I rx hx n1
    obtain ⟨bs, r2⟩ := reads_of I ry hy n3
    exact SeqAt.in_list_reads r2 r1 (lay_items hl (.inl rfl)) (hx.lay n1) (room_in hu h4) ⟨.bl _, H, I, rfl, k _ _ (out_d (.bl _))⟩
  | tuple xs =>
    have h3 : memD dx xs = some c := by cases dx <;> exact h1
    obtain ⟨h4, h5, n1, n2⟩ := memD_ok h3
    subst h5
    have n3 : nod (PyData.tuple xs) = true := by simpa only [nod] using n2
    have hl := hy.lay n3
    obtain ⟨as, r1⟩ := reads_of I rx hx n1
    obtain ⟨bs, r2⟩ := reads_of I ry hy n3
    exact SeqAt.in_tuple_reads r2 r1 (lay_items hl (.inr rfl)) (hx.lay n1) (room_in hu h4) ⟨.bl _, H, I, rfl, k _ _ (out_d (.bl _))⟩
  | _ => cases dx <;> cases h1
theorem p_nmem (hu : X.A.units + 70 < cLine) : OpR X (compareOp .NotIn) (rOp X.K (blV (cmpD .nmem))) := by
  intro pins s σ H x y v u Q I rx ry ⟨dx, dy, ev, hx, hy, hg, k⟩
  obtain ⟨c, h1, h2⟩ := map_ok hg
  subst h2
  cases dy with
  | str j =>
    cases dx with
    | str i =>
      cases h1
      exact L2.op_notIn_str pins s σ H x y v u Q I rx ry ⟨i, j, hx.str.1, hy.str.1, k _ _ (out_d (.bl _))⟩
    | _ => cases h1
  | list xs =>
    have h3 : (memD dx xs).map (!·) = some c := by cases dx <;> exact h1
    obtain ⟨b, h6, h7⟩ := map_ok h3
    obtain ⟨h4, h5, n1, n2⟩ := memD_ok h6
    subst h7 h5
    have n3 : nod (PyData.list xs) = true := by simpa only [nod] using n2
    have hl := hy.lay n3
    obtain ⟨as, r1⟩ := reads_of I rx hx n1
    obtain ⟨bs, r2⟩ := reads_of I ry hy n3
    exact SeqAt.notIn_list_reads r2 r1 (lay_items hl (.inl rfl)) (hx.lay n1) (room_in hu h4) ⟨.bl _, H, I, rfl, k _ _ (out_d (.bl _))⟩
  | tuple xs =>
    have h3 : (memD dx xs).map (!·) = some c := by cases dx <;> exact h1
    obtain ⟨b, h6, h7⟩ := map_ok h3
    obtain ⟨h4, h5, n1, n2⟩ := memD_ok h6
    subst h7 h5
    have n3 : nod (PyData.tuple xs) = true := by simpa only [nod] using n2
    have hl := hy.lay n3
    obtain ⟨as, r1⟩ := reads_of I rx hx n1
    obtain ⟨bs, r2⟩ := reads_of I ry hy n3
    exact SeqAt.notIn_tuple_reads r2 r1 (lay_items hl (.inr rfl)) (hx.lay n1) (room_in hu h4) ⟨.bl _, H, I, rfl, k _ _ (out_d (.bl _))⟩
  | _ => cases dx <;> cases h1
theorem isNone_v {H : Hp} {x : V} {d : D} (h : RB K H x d) : decide (x = V.non) = isNone d := by
  cases d with
  | none => rw [h.none]; rfl
  | bool b => rw [h.bool]; rfl
  | int b => rw [h.int]; rfl
  | str b => rw [h.str.1]; rfl
  | list b => obtain ⟨a, vs, e, _⟩ := h.list; rw [e]; rfl
  | tuple b => obtain ⟨a, vs, e, _⟩ := h.tup; rw [e]; rfl
  | dict b => obtain ⟨a, o, e, _⟩ := h.dct; rw [e]; rfl
theorem p_isn : OpR X (compareOp .Is) (rOp X.K (blV (cmpD .isn))) := by
  intro pins s σ H x y v u Q I rx ry ⟨dx, dy, ev, hx, hy, hg, k⟩
  obtain ⟨c, h1, h2⟩ := map_ok hg
  subst h2
  cases dy with
  | none =>
    have h3 : some (isNone dx) = some c := by cases dx <;> exact h1
    cases h3
    exact op_isN pins s σ H x y v u Q I rx ry ⟨hy.none, by rw [isNone_v hx]; exact k _ _ (out_d (.bl _))⟩
  | _ => cases dx <;> cases h1
theorem p_isnn : OpR X (compareOp .IsNot) (rOp X.K (blV (cmpD .isnn))) := by
  intro pins s σ H x y v u Q I rx ry ⟨dx, dy, ev, hx, hy, hg, k⟩
  obtain ⟨c, h1, h2⟩ := map_ok hg
  subst h2
  cases dy with
  | none =>
    have h3 : some (!isNone dx) = some c := by cases dx <;> exact h1
    cases h3
    exact op_notN pins s σ H x y v u Q I rx ry ⟨hy.none, by rw [isNone_v hx]; exact k _ _ (out_d (.bl _))⟩
  | _ => cases dx <;> cases h1
theorem p_ist : OpR X (compareOp .Is) (rOp X.K (blV (cmpD .ist))) := by
  intro pins s σ H x y v u Q I rx ry ⟨dx, dy, ev, hx, hy, hg, k⟩
  obtain ⟨c, h1, h2⟩ := map_ok hg
  subst h2
  cases dx with
  | bool a =>
    cases dy with
    | bool b =>
      cases h1
      exact op_isBl pins s σ H x y v u Q I rx ry ⟨a, b, hx.bool, hy.bool, k _ _ (out_d (.bl _))⟩
    | _ => cases h1
  | _ => cases dy <;> cases h1
theorem p_isf : OpR X (compareOp .IsNot) (rOp X.K (blV (cmpD .isf))) := by
  intro pins s σ H x y v u Q I rx ry ⟨dx, dy, ev, hx, hy, hg, k⟩
  obtain ⟨c, h1, h2⟩ := map_ok hg
  subst h2
  cases dx with
  | bool a =>
    cases dy with
    | bool b =>
      cases h1
      exact op_notBl pins s σ H x y v u Q I rx ry ⟨a, b, hx.bool, hy.bool, k _ _ (out_d (.bl _))⟩
    | _ => cases h1
  | _ => cases dy <;> cases h1

/-! ### items, slices -/
theorem atI_mem {α : Type} {xs : List α} {i : Int} {v : α} (h : L2.atI xs i = some v) : v ∈ xs := by
  obtain ⟨j, _, h2, _⟩ := atI_get h
  exact List.mem_of_getElem? h2
theorem p_ix : IxR X (rOp X.K fun a b => (ixD a b).map EV.val) := by
  intro value slice pins s σ H x y v u Q I rx ry ⟨dx, dy, ev, hx, hy, hg, k⟩ hs
  obtain ⟨d, h1, h2⟩ := map_ok hg
  subst h2
  refine ix_seq value slice pins s σ H x y v u Q I rx ry ?_ hs
  cases dx with
  | list xs =>
    cases dy with
    | int i =>
      obtain ⟨a, vs, e1, q1, r1⟩ := hx.list
      obtain ⟨w, h3, h4⟩ := r1.atI h1
      exact .inl ⟨a, vs, i, w, e1, hy.int, q1, h3, k _ _ (out_d h4)⟩
    | _ => cases h1
  | tuple xs =>
    cases dy with
    | int i =>
      obtain ⟨a, vs, e1, q1, r1⟩ := hx.tup
      obtain ⟨w, h3, h4⟩ := r1.atI h1
      exact .inr (.inl ⟨a, vs, i, w, e1, hy.int, q1, h3, k _ _ (out_d h4)⟩)
    | _ => cases h1
  | str z =>
    cases dy with
    | int i =>
      obtain ⟨c, h3, h4⟩ := map_ok h1
      subst h4
      exact .inr (.inr ⟨z, i, c, hx.str.1, hy.int, hx.str.2.2, h3, k _ _ (out_d (.str _ (strOk_sign hx.str.2 (atI_mem h3))))⟩)
    | _ => cases h1
  | _ => cases h1
def rSl (K : PySem.W.Frag) : V → Option Int → Option Int → Hp → VK → Prop := fun x lo hi H Q => ∃ dx ev, RB K H x dx ∧ slD dx lo hi = some ev ∧ ∀ v H', Out K H v H' ev → Q v H'
theorem cutL_whole {α : Type} {xs : List α} {lo hi : Option Int} (h : HT.sIx xs.length 0 lo = 0 ∧ HT.sIx xs.length xs.length hi = xs.length) : cutL xs lo hi = xs := by
  unfold cutL
  rw [h.1, h.2]
  simp
theorem p_sl : SlR X (rSl X.K) := by
  intro pins s σ H x v vl vu lo hi sl Q I rx hs pl pu ⟨dx, ev, hx, hg, k⟩
  cases dx with
  | list xs =>
    cases hg
    obtain ⟨a, vs, e1, q1, r1⟩ := hx.list
    exact sl_list pins s σ H x v vl vu lo hi sl Q I rx hs pl pu ⟨a, vs, e1, q1, fun p hp => k _ _ (out_fr hp (r1.cut lo hi))⟩
  | tuple xs =>
    cases hg
    obtain ⟨a, vs, e1, q1, r1⟩ := hx.tup
    refine sl_tupA pins s σ H x v vl vu lo hi sl Q I rx hs pl pu ⟨a, vs, e1, q1, fun hw => k _ _ (out_d ?_), fun _ p hp => k _ _ (out_tup hp (r1.cut lo hi))⟩
    rw [r1.length] at hw
    rw [cutL_whole hw]
    exact .tup q1 r1
  | str z =>
    cases hg
    exact sl_str pins s σ H x v vl vu lo hi sl Q I rx hs pl pu ⟨z, hx.str.1, hx.str.2.2, k _ _ (out_d (.str _ (strOk_cut hx.str.2 lo hi)))⟩
  | _ => cases hg

/-! ### calls of built-ins -/
theorem call_by {f : Value} {r : List V → Hp → VK → Prop} {g : List D → Option EV} (h : CallR X f r) (i : ∀ xs H Q, rCall K g xs H Q → r xs H Q) : CallR X f (rCall K g) := fun pins s σ H xs us Q I rx q => h pins s σ H xs us Q I rx (i _ _ _ q)
theorem RBs.one {H : Hp} {vs : List V} {d : D} (r : RBs K H vs [d]) : ∃ v, vs = [v] ∧ RB K H v d := by
  cases r with
  | cons h r => cases r; exact ⟨_, rfl, h⟩
theorem RBs.two {H : Hp} {vs : List V} {d e : D} (r : RBs K H vs [d, e]) : ∃ v w, vs = [v, w] ∧ RB K H v d ∧ RB K H w e := by
  cases r with
  | cons h r =>
    cases r with
    | cons h2 r => cases r; exact ⟨_, _, rfl, h, h2⟩
theorem RBs.len {H : Hp} : ∀ {ds : List D} {vs : List V}, RBs K H vs ds → vs.length = ds.length
  | _, _, .nil => rfl
  | _, _, .cons _ r => by rw [List.length_cons, List.length_cons, r.len]
/-- the ints, truths, texts that values bear -/
theorem RDs.intsV {H : Hp} : ∀ {ds : List D} {vs : List V} {ns : List Int}, RDs K H vs ds → intsL ds = some ns → vs = ns.map V.int
  | [], _, _, .nil, h => by cases h; rfl
  | .int i :: ds, _, _, .cons r rs, h => by
    obtain ⟨ms, h1, h2⟩ := map_ok (show (intsL ds).map (i :: ·) = _ from h)
    subst h2
    cases r
    rw [RDs.intsV rs h1, List.map_cons]
  | .none :: _, _, _, .cons _ _, h => by cases h
  | .bool _ :: _, _, _, .cons _ _, h => by cases h
  | .str _ :: _, _, _, .cons _ _, h => by cases h
  | .list _ :: _, _, _, .cons _ _, h => by cases h
  | .tuple _ :: _, _, _, .cons _ _, h => by cases h
  | .dict _ :: _, _, _, .cons _ _, h => by cases h
theorem RDs.boolsV {H : Hp} : ∀ {ds : List D} {vs : List V} {ns : List Bool}, RDs K H vs ds → boolsL ds = some ns → vs = ns.map V.bl
  | [], _, _, .nil, h => by cases h; rfl
  | .bool i :: ds, _, _, .cons r rs, h => by
    obtain ⟨ms, h1, h2⟩ := map_ok (show (boolsL ds).map (i :: ·) = _ from h)
    subst h2
    cases r
    rw [RDs.boolsV rs h1, List.map_cons]
  | .none :: _, _, _, .cons _ _, h => by cases h
  | .int _ :: _, _, _, .cons _ _, h => by cases h
  | .str _ :: _, _, _, .cons _ _, h => by cases h
  | .list _ :: _, _, _, .cons _ _, h => by cases h
  | .tuple _ :: _, _, _, .cons _ _, h => by cases h
  | .dict _ :: _, _, _, .cons _ _, h => by cases h
theorem RDs.strsV {H : Hp} : ∀ {ds : List D} {vs : List V} {ns : List Str}, RDs K H vs ds → strsL ds = some ns → vs = ns.map V.str ∧ ∀ x ∈ ns, StrOk x
  | [], _, _, .nil, h => by cases h; exact ⟨rfl, fun _ h => nomatch h⟩
  | .str i :: ds, _, _, .cons r rs, h => by
    obtain ⟨ms, h1, h2⟩ := map_ok (show (strsL ds).map (i :: ·) = _ from h)
    subst h2
    cases r with
    | str _ hi =>
      obtain ⟨h3, h4⟩ := RDs.strsV rs h1
      refine ⟨by rw [h3, List.map_cons], fun x hx => ?_⟩
      rcases List.mem_cons.mp hx with e | e
      · rw [e]; exact hi
      · exact h4 x e
  | .none :: _, _, _, .cons _ _, h => by cases h
  | .bool _ :: _, _, _, .cons _ _, h => by cases h
  | .int _ :: _, _, _, .cons _ _, h => by cases h
  | .list _ :: _, _, _, .cons _ _, h => by cases h
  | .tuple _ :: _, _, _, .cons _ _, h => by cases h
  | .dict _ :: _, _, _, .cons _ _, h => by cases h
theorem rds_ints {H : Hp} : ∀ ns : List Int, RDs K H (ns.map V.int) (ns.map PyData.int)
  | [] => .nil
  | i :: r => .cons (.int i) (rds_ints r)
theorem rds_strs {H : Hp} : ∀ ns : List Str, (∀ x ∈ ns, StrOk x) → RDs K H (ns.map V.str) (ns.map PyData.str)
  | [], _ => .nil
  | i :: r, h => .cons (.str i (h i List.mem_cons_self)) (rds_strs r fun x hx => h x (List.mem_cons_of_mem _ hx))
theorem p_len : CallR X (.builtin "len") (rCall X.K (biD .len)) := by
  intro pins s σ H xs us Q I rx ⟨ds, ev, hx, hg, k⟩
  match ds, hx, hg with
  | [d], hx, hg =>
    obtain ⟨v, rfl, hv⟩ := hx.one
    obtain ⟨e, h1, h2⟩ := map_ok (show (lenD d).map EV.val = some ev from hg)
    subst h2
    cases d with
    | list ys =>
      cases h1
      obtain ⟨a, vs, e1, q1, r1⟩ := hv.list
      exact call_len_seq pins s σ H _ us Q I rx ⟨a, vs, by rw [e1], .inl q1, by rw [r1.length]; exact k _ _ (out_d (.int _))⟩
    | tuple ys =>
      cases h1
      obtain ⟨a, vs, e1, q1, r1⟩ := hv.tup
      exact call_len_seq pins s σ H _ us Q I rx ⟨a, vs, by rw [e1], .inr q1, by rw [r1.length]; exact k _ _ (out_d (.int _))⟩
    | str z =>
      cases h1
      exact call_len_str pins s σ H _ us Q I rx ⟨z, by rw [hv.str.1], hv.str.2.2, k _ _ (out_d (.int _))⟩
    | _ => cases h1
theorem p_abs : CallR X (.builtin "abs") (rCall X.K (biD .abs)) := by
  intro pins s σ H xs us Q I rx ⟨ds, ev, hx, hg, k⟩
  match ds, hx, hg with
  | [.int i], hx, hg =>
    obtain ⟨v, rfl, hv⟩ := hx.one
    cases hg
    exact call_abs pins s σ H _ us Q I rx ⟨i, by rw [hv.int], k _ _ (out_d (.int _))⟩
theorem p_int : CallR X (.type "int") (rCall X.K (biD .int)) := by
  intro pins s σ H xs us Q I rx ⟨ds, ev, hx, hg, k⟩
  match ds, hx, hg with
  | [.int i], hx, hg =>
    obtain ⟨v, rfl, hv⟩ := hx.one
    cases hg
    exact call_int1 pins s σ H _ us Q I rx (.inl ⟨i, by rw [hv.int], k _ _ (out_d (.int _))⟩)
  | [.bool b], hx, hg =>
    obtain ⟨v, rfl, hv⟩ := hx.one
    cases hg
    exact call_int1 pins s σ H _ us Q I rx (.inr ⟨b, by rw [hv.bool], k _ _ (out_d (.int _))⟩)
theorem p_divmod : CallR X (.builtin "divmod") (rCall X.K (biD .divmod)) := by
  intro pins s σ H xs us Q I rx ⟨ds, ev, hx, hg, k⟩
  match ds, hx, hg with
  | [.int i, .int j], hx, hg =>
    obtain ⟨v, w, rfl, hv, hw⟩ := hx.two
    simp only [biD] at hg
    split at hg
    · rename_i hl
      cases hg
      rw [Bool.and_eq_true, decide_eq_true_eq, decide_eq_true_eq] at hl
      refine call_divmod pins s σ H _ us Q I rx ⟨i, j, by rw [hv.int, hw.int], hl, fun p hp => k _ _ (out_tup hp (.cons (.int _) (.cons (.int _) .nil)))⟩
    · cases hg
theorem p_sum (hc : X.calm = true) : CallR X (.builtin "sum") (rCall X.K (biD .sum)) := by
  intro pins s σ H xs us Q I rx ⟨ds, ev, hx, hg, k⟩
  match ds, hx, hg with
  | [.list ys], hx, hg =>
    obtain ⟨v, rfl, hv⟩ := hx.one
    obtain ⟨ns, h1, h2⟩ := map_ok (show (intsL ys).map _ = some ev from hg)
    subst h2
    obtain ⟨a, vs, e1, q1, r1⟩ := hv.list
    have e2 := r1.intsV h1
    subst e2
    exact cr_sum hc pins s σ H _ us Q I rx ⟨a, ns, by rw [e1], q1, k _ _ (out_d (.int _))⟩
theorem p_any (hc : X.calm = true) : CallR X (.builtin "any") (rCall X.K (biD .any)) := by
  intro pins s σ H xs us Q I rx ⟨ds, ev, hx, hg, k⟩
  match ds, hx, hg with
  | [.list ys], hx, hg =>
    obtain ⟨v, rfl, hv⟩ := hx.one
    obtain ⟨ns, h1, h2⟩ := map_ok (show (boolsL ys).map _ = some ev from hg)
    subst h2
    obtain ⟨a, vs, e1, q1, r1⟩ := hv.list
    have e2 := r1.boolsV h1
    subst e2
    exact cr_any hc pins s σ H _ us Q I rx ⟨a, ns, by rw [e1], q1, k _ _ (out_d (.bl _))⟩
theorem p_all (hc : X.calm = true) : CallR X (.builtin "all") (rCall X.K (biD .all)) := by
  intro pins s σ H xs us Q I rx ⟨ds, ev, hx, hg, k⟩
  match ds, hx, hg with
  | [.list ys], hx, hg =>
    obtain ⟨v, rfl, hv⟩ := hx.one
    obtain ⟨ns, h1, h2⟩ := map_ok (show (boolsL ys).map _ = some ev from hg)
    subst h2
    obtain ⟨a, vs, e1, q1, r1⟩ := hv.list
    have e2 := r1.boolsV h1
    subst e2
    exact cr_all hc pins s σ H _ us Q I rx ⟨a, ns, by rw [e1], q1, k _ _ (out_d (.bl _))⟩
theorem maxL_ok : ∀ {ns : List Int} {m : Int}, maxL ns = some m → m ∈ ns ∧ ∀ y ∈ ns, y ≤ m := by
  have key : ∀ (r : List Int) (i : Int), (r.foldl (fun a b => if b > a then b else a) i ∈ i :: r) ∧ ∀ y ∈ i :: r, y ≤ r.foldl (fun a b => if b > a then b else a) i := by
    intro r
    induction r with
    | nil => intro i; exact ⟨List.mem_cons_self, fun y hy => by rw [List.mem_singleton] at hy; rw [hy]; exact Int.le_refl _⟩
    | cons b r ih =>
      intro i
      rw [List.foldl_cons]
      obtain ⟨h1, h2⟩ := ih (if b > i then b else i)
      have h3 := h2 _ List.mem_cons_self
      generalize r.foldl (fun a b => if b > a then b else a) (if b > i then b else i) = FF at h1 h2 h3 ⊢
      refine ⟨?_, fun y hy => ?_⟩
      · rcases List.mem_cons.mp h1 with e | e
        · rw [e]
          split
          · exact List.mem_cons_of_mem _ List.mem_cons_self
          · exact List.mem_cons_self
        · exact List.mem_cons_of_mem _ (List.mem_cons_of_mem _ e)
      · rcases List.mem_cons.mp hy with e | hy
        · subst e
          split at h3 <;> omega
        · rcases List.mem_cons.mp hy with e | hy
          · subst e
            split at h3 <;> omega
          · exact h2 y (List.mem_cons_of_mem _ hy)
  intro ns m h
  cases ns with
  | nil => cases h
  | cons i r => cases h; exact key r i
theorem minL_ok : ∀ {ns : List Int} {m : Int}, minL ns = some m → m ∈ ns ∧ ∀ y ∈ ns, m ≤ y := by
  have key : ∀ (r : List Int) (i : Int), (r.foldl (fun a b => if b < a then b else a) i ∈ i :: r) ∧ ∀ y ∈ i :: r, r.foldl (fun a b => if b < a then b else a) i ≤ y := by
    intro r
    induction r with
    | nil => intro i; exact ⟨List.mem_cons_self, fun y hy => by rw [List.mem_singleton] at hy; rw [hy]; exact Int.le_refl _⟩
    | cons b r ih =>
      intro i
      rw [List.foldl_cons]
      obtain ⟨h1, h2⟩ := ih (if b < i then b else i)
      have h3 := h2 _ List.mem_cons_self
      generalize r.foldl (fun a b => if b < a then b else a) (if b < i then b else i) = FF at h1 h2 h3 ⊢
      refine ⟨?_, fun y hy => ?_⟩
      · rcases List.mem_cons.mp h1 with e | e
        · rw [e]
          split
          · exact List.mem_cons_of_mem _ List.mem_cons_self
          · exact List.mem_cons_self
        · exact List.mem_cons_of_mem _ (List.mem_cons_of_mem _ e)
      · rcases List.mem_cons.mp hy with e | hy
        · subst e
          split at h3 <;> omega
        · rcases List.mem_cons.mp hy with e | hy
          · subst e
            split at h3 <;> omega
          · exact h2 y (List.mem_cons_of_mem _ hy)
  intro ns m h
  cases ns with
  | nil => cases h
  | cons i r => cases h; exact key r i
theorem bind_ok {α β : Type} {o : Option α} {f : α → Option β} {b : β} (h : o.bind f = some b) : ∃ a, o = some a ∧ f a = some b := by
  cases o with
  | none => cases h
  | some a => exact ⟨a, rfl, h⟩
def maxG : List D → Option EV := fun as => match as with
  | [.list xs] => ((intsL xs).bind maxL).map fun i => .val (.int i)
  | [.int i, .int j] => some (.val (.int (if j > i then j else i)))
  | _ => none
theorem p_max (hc : X.calm = true) : CallR X (.builtin "max") (rCall X.K (biD .max)) := by
  intro pins s σ H xs us Q I rx ⟨ds, ev, hx, hg, k⟩
  match ds, hx, hg with
  | [.list ys], hx, hg =>
    obtain ⟨v, rfl, hv⟩ := hx.one
    obtain ⟨m, h1, h2⟩ := map_ok (show ((intsL ys).bind maxL).map _ = some ev from hg)
    subst h2
    obtain ⟨ns, h3, h4⟩ := bind_ok h1
    obtain ⟨a, vs, e1, q1, r1⟩ := hv.list
    have e2 := r1.intsV h3
    subst e2
    obtain ⟨h5, h6⟩ := maxL_ok h4
    refine cr_max hc pins s σ H _ us Q I rx ⟨a, ns, by rw [e1], q1, List.length_pos_of_mem h5, fun m' h7 h8 => ?_⟩
    have e : m' = m := Int.le_antisymm (h6 m' h7) (h8 m h5)
    rw [e]
    exact k _ _ (out_d (.int _))
  | [.int i, .int j], hx, hg =>
    obtain ⟨v, w, rfl, hv, hw⟩ := hx.two
    cases hg
    exact call_max2 hc pins s σ H _ us Q I rx ⟨i, j, by rw [hv.int, hw.int], k _ _ (out_d (.int _))⟩
theorem p_min (hc : X.calm = true) : CallR X (.builtin "min") (rCall X.K (biD .min)) := by
  intro pins s σ H xs us Q I rx ⟨ds, ev, hx, hg, k⟩
  match ds, hx, hg with
  | [.list ys], hx, hg =>
    obtain ⟨v, rfl, hv⟩ := hx.one
    obtain ⟨m, h1, h2⟩ := map_ok (show ((intsL ys).bind minL).map _ = some ev from hg)
    subst h2
    obtain ⟨ns, h3, h4⟩ := bind_ok h1
    obtain ⟨a, vs, e1, q1, r1⟩ := hv.list
    have e2 := r1.intsV h3
    subst e2
    obtain ⟨h5, h6⟩ := minL_ok h4
    refine cr_min hc pins s σ H _ us Q I rx ⟨a, ns, by rw [e1], q1, List.length_pos_of_mem h5, fun m' h7 h8 => ?_⟩
    have e : m' = m := Int.le_antisymm (h8 m h5) (h6 m' h7)
    rw [e]
    exact k _ _ (out_d (.int _))
  | [.int i, .int j], hx, hg =>
    obtain ⟨v, w, rfl, hv, hw⟩ := hx.two
    cases hg
    exact call_min2 hc pins s σ H _ us Q I rx ⟨i, j, by rw [hv.int, hw.int], k _ _ (out_d (.int _))⟩
theorem p_list : CallR X (.type "list") (rCall X.K (biD .list)) := by
  intro pins s σ H xs us Q I rx ⟨ds, ev, hx, hg, k⟩
  match ds, hx, hg with
  | [d], hx, hg =>
    obtain ⟨v, rfl, hv⟩ := hx.one
    obtain ⟨ys, h1, h2⟩ := map_ok (show (items d).map EV.fr = some ev from hg)
    subst h2
    have fin : ∀ a vs, v = V.ref a → (SqL X.K H a vs ∨ SqT X.K H a vs) → RDs X.K H vs ys → wpAny (model X.prog X.w) X.A (call (.type "list") us) (EP X pins σ Q) X.xe s := fun a vs e q r =>
      call_list_of pins s σ H _ us Q I rx ⟨a, vs, by rw [e], q, fun l hl => k _ _ (out_fr hl r)⟩
    cases d with
    | list zs => cases h1; obtain ⟨a, vs, e1, q1, r1⟩ := hv.list; exact fin a vs e1 (.inl q1) r1
    | tuple zs => cases h1; obtain ⟨a, vs, e1, q1, r1⟩ := hv.tup; exact fin a vs e1 (.inr q1) r1
    | _ => cases h1
theorem p_tuple : CallR X (.type "tuple") (rCall X.K (biD .tuple)) := by
  intro pins s σ H xs us Q I rx ⟨ds, ev, hx, hg, k⟩
  match ds, hx, hg with
  | [d], hx, hg =>
    obtain ⟨v, rfl, hv⟩ := hx.one
    obtain ⟨ys, h1, h2⟩ := map_ok (show (items d).map _ = some ev from hg)
    subst h2
    cases d with
    | list zs =>
      cases h1
      obtain ⟨a, vs, e1, q1, r1⟩ := hv.list
      exact call_tuple_of pins s σ H _ us Q I rx ⟨a, vs, by rw [e1], .inl ⟨q1, fun l hl => k _ _ (out_tup hl r1)⟩⟩
    | tuple zs =>
      cases h1
      obtain ⟨a, vs, e1, q1, r1⟩ := hv.tup
      exact call_tuple_of pins s σ H _ us Q I rx ⟨a, vs, by rw [e1], .inr ⟨q1, k _ _ (out_d (.tup q1 r1))⟩⟩
    | _ => cases h1
/-! ### sorted -/
theorem insB_perm {α : Type} (lt : α → α → Bool) (x : α) : ∀ l : List α, (insB lt x l).Perm (x :: l)
  | [] => List.Perm.refl _
  | y :: r => by
    unfold insB
    split
    · exact ((insB_perm lt x r).cons y).trans (List.Perm.swap x y r)
    · exact List.Perm.refl _
theorem sortB_perm {α : Type} (lt : α → α → Bool) : ∀ l : List α, (sortB lt l).Perm l
  | [] => List.Perm.refl _
  | x :: r => (insB_perm lt x _).trans ((sortB_perm lt r).cons x)
theorem insB_sorted {α : Type} {lt : α → α → Bool} (tr : ∀ a b c, lt b a = false → lt c b = false → lt c a = false) (as : ∀ a b, lt a b = true → lt b a = false) (x : α) : ∀ l : List α, l.Pairwise (fun a b => lt b a = false) → (insB lt x l).Pairwise (fun a b => lt b a = false)
  | [], _ => List.pairwise_singleton _ _
  | y :: r, h => by
    unfold insB
    rw [List.pairwise_cons] at h
    split
    · rename_i q
      refine List.pairwise_cons.mpr ⟨fun z hz => ?_, insB_sorted tr as x r h.2⟩
      rcases List.mem_cons.mp ((insB_perm lt x r).mem_iff.mp hz) with e | e
      · rw [e]; exact as _ _ q
      · exact h.1 z e
    · rename_i q
      have q' : lt y x = false := by simpa using q
      refine List.pairwise_cons.mpr ⟨fun z hz => ?_, List.pairwise_cons.mpr h⟩
      rcases List.mem_cons.mp hz with e | e
      · rw [e]; exact q'
      · exact tr x y z q' (h.1 z e)
theorem sortB_sorted {α : Type} {lt : α → α → Bool} (tr : ∀ a b c, lt b a = false → lt c b = false → lt c a = false) (as : ∀ a b, lt a b = true → lt b a = false) : ∀ l : List α, (sortB lt l).Pairwise (fun a b => lt b a = false)
  | [] => List.Pairwise.nil
  | x :: r => insB_sorted tr as x _ (sortB_sorted tr as r)
theorem ltS_le {a b : Str} : ltS b a = false ↔ a.cps.toList ≤ b.cps.toList := by
  unfold ltS
  rw [decide_eq_false_iff_not]
  exact List.not_lt
theorem leS_trans {a b c : Str} (h1 : ltS b a = false) (h2 : ltS c b = false) : ltS c a = false := by
  rw [ltS_le] at h1 h2 ⊢
  exact List.le_trans h1 h2
theorem ltS_asym {a b : Str} (h : ltS a b = true) : ltS b a = false := by
  rw [ltS_le]
  unfold ltS at h
  rw [decide_eq_true_eq] at h
  exact List.le_of_lt h
theorem leS_antisymm {a b : Str} (h1 : ltS b a = false) (h2 : ltS a b = false) : a = b := by
  rw [ltS_le] at h1 h2
  have e := List.le_antisymm h1 h2
  obtain ⟨a⟩ := a
  obtain ⟨b⟩ := b
  have e' : a.toList = b.toList := e
  rw [Array.toList_inj.mp e']
theorem rising_pw : ∀ (p : Str) (l : List Str), risingS p l = true → (p :: l).Pairwise (fun a b => ltS b a = false)
  | p, [], _ => List.pairwise_singleton _ _
  | p, x :: r, h => by
    have h' : (!ltCps x.cps.toList p.cps.toList && risingS x r) = true := h
    rw [Bool.and_eq_true, ltCps_eq] at h'
    have ih := rising_pw x r h'.2
    have hx : ltS x p = false := by
      have := h'.1
      simpa [ltS] using this
    refine List.pairwise_cons.mpr ⟨fun z hz => ?_, ih⟩
    rcases List.mem_cons.mp hz with e | e
    · rw [e]; exact hx
    · exact leS_trans hx ((List.pairwise_cons.mp ih).1 z e)
theorem sortedS_pw : ∀ (l : List Str), sortedS l = true → l.Pairwise (fun a b => ltS b a = false)
  | [], _ => List.Pairwise.nil
  | x :: r, h => rising_pw x r h
theorem sortS_eq {xs ys : List Str} (hp : ys.Perm xs) (hs : sortedS ys = true) : ys = sortB ltS xs :=
  List.Perm.eq_of_pairwise (le := fun a b => ltS b a = false) (fun a b _ _ h1 h2 => leS_antisymm h1 h2) (sortedS_pw _ hs) (sortB_sorted (lt := ltS) (fun a b c h1 h2 => leS_trans h1 h2) (fun a b h => ltS_asym h) xs) (hp.trans (sortB_perm ltS xs).symm)
theorem sortI_eq {xs ys : List Int} (hp : ys.Perm xs) (hs : ys.Pairwise (· ≤ ·)) : ys = sortB ltI xs := by
  refine List.Perm.eq_of_pairwise (le := fun a b => ltI b a = false) (fun a b _ _ h1 h2 => ?_) ?_ (sortB_sorted (fun a b c h1 h2 => ?_) (fun a b h => ?_) xs) (hp.trans (sortB_perm ltI xs).symm)
  · simp only [ltI, decide_eq_false_iff_not] at h1 h2
    omega
  · exact hs.imp fun h => by simp only [ltI, decide_eq_false_iff_not]; omega
  · simp only [ltI, decide_eq_false_iff_not] at h1 h2 ⊢
    omega
  · simp only [ltI, decide_eq_false_iff_not, decide_eq_true_eq] at h ⊢
    omega
theorem p_sorted (hu : X.A.units + 70 < cLine) : CallR X (.builtin "sorted") (rCall X.K (biD .sorted)) := by
  intro pins s σ H xs us Q I rx ⟨ds, ev, hx, hg, k⟩
  match ds, hx, hg with
  | [.list ys], hx, hg =>
    obtain ⟨v, rfl, hv⟩ := hx.one
    obtain ⟨a, vs, e1, q1, r1⟩ := hv.list
    simp only [biD] at hg
    split at hg
    · rename_i hl
      have h64 : ys.length < 64 := Nat.le_of_ble_eq_true hl
      split at hg
      · rename_i ns hn
        cases hg
        have e2 := r1.intsV hn
        subst e2
        refine cr_sorted pins s σ H _ us Q I rx ⟨a, ns, by rw [e1], q1, by have := r1.length; rw [List.length_map] at this; omega, fun ns' p hp hs hn' => ?_⟩
        rw [sortI_eq hp hs]
        exact k _ _ (out_fr hn' (rds_ints _))
      · rename_i hn
        split at hg
        · rename_i ss h1
          cases hg
          obtain ⟨e2, h3⟩ := r1.strsV h1
          subst e2
          refine cr_sortedS pins s σ H _ us Q I rx ⟨a, ss, by rw [e1], q1, by have := r1.length; rw [List.length_map] at this; omega, fun ns' p hp hs hn' => ?_⟩
          rw [sortS_eq hp hs]
          exact k _ _ (out_fr hn' (rds_strs _ fun x hx => h3 x ((sortB_perm ltS ss).mem_iff.mp hx)))
        · split at hg
          · rename_i nd
            obtain ⟨es, h1, rfl⟩ := map_ok hg
            subst e1
            obtain ⟨u, rfl, ru⟩ := vals1 rx
            obtain rfl : u = Value.ref a := ru
            exact sort_run hu I (.inl q1) r1 nd h1 fun p zs hp rz => k _ _ (out_fr hp rz)
          · cases hg
    · cases hg
  | [.tuple ys], hx, hg =>
    obtain ⟨v, rfl, hv⟩ := hx.one
    obtain ⟨a, vs, e1, q1, r1⟩ := hv.tup
    simp only [biD] at hg
    split at hg
    · rename_i nd
      obtain ⟨es, h1, rfl⟩ := map_ok hg
      subst e1
      obtain ⟨u, rfl, ru⟩ := vals1 rx
      obtain rfl : u = Value.ref a := ru
      exact sort_run hu I (.inr q1) r1 nd h1 fun p zs hp rz => k _ _ (out_fr hp rz)
    · cases hg
/-! ### isinstance -/
def tyName : Ty → String
  | .tuple => "tuple"
  | .list => "list"
  | .bool => "bool"
  | .int => "int"
  | .str => "str"
def dName : D → String
  | .none => "NoneType"
  | .bool _ => "bool"
  | .int _ => "int"
  | .str _ => "str"
  | .list _ => "list"
  | .tuple _ => "tuple"
  | .dict _ => "dict"
theorem tyx_of {H : Hp} {x : V} {d : D} (h : RB K H x d) : TyX K H x (.type (dName d)) := by
  rcases h with h | ⟨a, vs, xs, rfl, rfl, q, r⟩
  · cases h with
    | non => exact .base .non
    | bl b => exact .base (.bl b)
    | int b => exact .base (.int b)
    | str b _ => exact .base (.str b)
    | tup hs _ =>
      rcases hs with (hs | ⟨o, hs⟩) | ⟨o, its, n, h1, h2, _⟩
      · exact .base (.tup hs)
      · exact .fTuple hs
      · exact .kTuple h1 h2
    | lst hs _ =>
      obtain ⟨o, hs⟩ := hs
      exact .base (.frz hs)
    | emp hs => exact .fDict hs
  · exact .base (.lst q)
theorem kit_of' (t : Ty) (d : D) : kitB (dName d) (tyName t) = some (tyD t d) := by
  cases d with
  | none =>
    cases t with
    | tuple => exact (by decide +kernel : kitB "NoneType" "tuple" = some false)
    | list => exact (by decide +kernel : kitB "NoneType" "list" = some false)
    | bool => exact (by decide +kernel : kitB "NoneType" "bool" = some false)
    | int => exact (by decide +kernel : kitB "NoneType" "int" = some false)
    | str => exact (by decide +kernel : kitB "NoneType" "str" = some false)
  | bool _ =>
    cases t with
    | tuple => exact (by decide +kernel : kitB "bool" "tuple" = some false)
    | list => exact (by decide +kernel : kitB "bool" "list" = some false)
    | bool => exact (by decide +kernel : kitB "bool" "bool" = some true)
    | int => exact (by decide +kernel : kitB "bool" "int" = some true)
    | str => exact (by decide +kernel : kitB "bool" "str" = some false)
  | int _ =>
    cases t with
    | tuple => exact (by decide +kernel : kitB "int" "tuple" = some false)
    | list => exact (by decide +kernel : kitB "int" "list" = some false)
    | bool => exact (by decide +kernel : kitB "int" "bool" = some false)
    | int => exact (by decide +kernel : kitB "int" "int" = some true)
    | str => exact (by decide +kernel : kitB "int" "str" = some false)
  | str _ =>
    cases t with
    | tuple => exact (by decide +kernel : kitB "str" "tuple" = some false)
    | list => exact (by decide +kernel : kitB "str" "list" = some false)
    | bool => exact (by decide +kernel : kitB "str" "bool" = some false)
    | int => exact (by decide +kernel : kitB "str" "int" = some false)
    | str => exact (by decide +kernel : kitB "str" "str" = some true)
  | list _ =>
    cases t with
    | tuple => exact (by decide +kernel : kitB "list" "tuple" = some false)
    | list => exact (by decide +kernel : kitB "list" "list" = some true)
    | bool => exact (by decide +kernel : kitB "list" "bool" = some false)
    | int => exact (by decide +kernel : kitB "list" "int" = some false)
    | str => exact (by decide +kernel : kitB "list" "str" = some false)
  | tuple _ =>
    cases t with
    | tuple => exact (by decide +kernel : kitB "tuple" "tuple" = some true)
    | list => exact (by decide +kernel : kitB "tuple" "list" = some false)
    | bool => exact (by decide +kernel : kitB "tuple" "bool" = some false)
    | int => exact (by decide +kernel : kitB "tuple" "int" = some false)
    | str => exact (by decide +kernel : kitB "tuple" "str" = some false)
  | dict _ =>
    cases t with
    | tuple => exact (by decide +kernel : kitB "dict" "tuple" = some false)
    | list => exact (by decide +kernel : kitB "dict" "list" = some false)
    | bool => exact (by decide +kernel : kitB "dict" "bool" = some false)
    | int => exact (by decide +kernel : kitB "dict" "int" = some false)
    | str => exact (by decide +kernel : kitB "dict" "str" = some false)
def rIsiD (K : PySem.W.Frag) (t : Ty) : V → Hp → VK → Prop := fun x H Q => ∃ d, RB K H x d ∧ Q (.bl (tyD t d)) H
theorem p_isi (t : Ty) : CallR X (.builtin "isinstance") (fun xs H Q => ∃ x, xs = [x, .ty (tyName t)] ∧ rIsiD X.K t x H Q) := by
  intro pins s σ H xs us Q I rx ⟨x, e, d, h, q⟩
  exact call_isi pins s σ H xs us Q I rx ⟨x, _, _, _, _, e, .ty _, tyx_of h, kit_ty (kit_of' t d), q⟩
end
end Mi
end

section
set_option maxRecDepth 100000
/-! Mi: the readings of the evaluation, construct by construct. -/
namespace Mi
open PySem PySem.Spec PyProof.Rows L2
section
variable {F : Fx} {X : Cx}
theorem pe_imp {e : Expr} {t t' : TE} (h : PE X e t) (i : ∀ σ H Q, t' σ H Q → t σ H Q) : PE X e t' := ⟨fun pins s σ H Q I q => h.run pins s σ H Q I (i _ _ _ q)⟩
theorem pt_imp {e : Expr} {t t' : TT} (h : PT X e t) (i : ∀ σ H Q, t' σ H Q → t σ H Q) : PT X e t' := ⟨fun pins s σ H Q I q => h.run pins s σ H Q I (i _ _ _ q)⟩
theorem pw_imp {e : Expr} {t t' : TT} (h : PW X e t) (i : ∀ σ H Q, t' σ H Q → t σ H Q) : PW X e t' := ⟨fun wh pins s σ H Q I q => h.run wh pins s σ H Q I (i _ _ _ q)⟩
theorem pa_imp {e : List Expr} {t t' : TA} (h : PA X e t) (i : ∀ σ H Q, t' σ H Q → t σ H Q) : PA X e t' := ⟨fun pos pins s σ H Q I q => h.run pos pins s σ H Q I (i _ _ _ q)⟩
/-- a list may be locked for good behind an expression -/
theorem pe_fz {e : Expr} {t : TE} (h : PE X e t) : PE X e (fun σ H Q => t σ H fun v H1 => Q v H1 ∨ ∃ a vs, v = .ref a ∧ H1 a = some (.lst vs) ∧ ∀ ob, Q v (upd H1 a (.frz ob (.lst vs)))) := by
  refine ⟨fun pins s σ H Q I q => thn (h.run pins s σ H _ I q) fun v s1 ⟨x, H1, I1, r1, q1⟩ => ?_⟩
  rcases q1 with q1 | ⟨a, vs, rfl, ha, q1⟩
  · exact ⟨x, H1, I1, r1, q1⟩
  · obtain ⟨od, I2⟩ := I1.lock ha trivial
    exact ⟨_, _, I2, r1, q1 od⟩
/-- what locking a list for good leaves -/
theorem froze {H1 : Hp} {a : Addr} {vs : List V} (h : H1 a = some (.lst vs)) (ob : Obj) : Per H1 (upd H1 a (.frz ob (.lst vs))) := by
  have key : ∀ b o, H1 b = some o → (∀ ys, o ≠ .lst ys) → b ≠ a := fun b o e n z => by
    rw [z, h] at e
    exact n vs (Option.some.inj e).symm
  exact ⟨fun b xs e => by rw [upd_ne (key b _ e (by intro _ z; cases z))]; exact e, fun b o u e => by rw [upd_ne (key b _ e (by intro _ z; cases z))]; exact e⟩
theorem froze_ext {O : Addr → Prop} {H1 : Hp} {a : Addr} {vs : List V} (h : H1 a = some (.lst vs)) (ob : Obj) (m : O a) : Ext O H1 (upd H1 a (.frz ob (.lst vs))) := by
  refine ⟨fun b o e n _ => ?_, fun b e => ?_⟩
  · rw [upd_ne (fun z => n (by rw [z]; exact m))]
    exact e
  · by_cases z : b = a
    · rw [z, upd_same] at e; cases e
    · rw [upd_ne z] at e; exact e
theorem froze_tabs {T : List (Addr × Str)} {H1 : Hp} {a : Addr} {vs : List V} (h : H1 a = some (.lst vs)) (ob : Obj) (t : LamX.Tabs T H1) : LamX.Tabs T (upd H1 a (.frz ob (.lst vs))) := fun p hp => by
  obtain ⟨ps, h1, h2, h3⟩ := t p hp
  have ne : ∀ b o, H1 b = some o → (∀ ys, o ≠ .lst ys) → b ≠ a := fun b o e n z => by
    rw [z, h] at e
    exact n vs (Option.some.inj e).symm
  refine ⟨ps, by rw [upd_ne (ne _ _ h1 (by intro _ z; cases z))]; exact h1, h2, fun pos cv hc => ?_⟩
  obtain ⟨c, e1, e2⟩ := h3 pos cv hc
  exact ⟨c, e1, by rw [upd_ne (ne _ _ e2 (by intro _ z; unfold LamX.CodeO at z; cases z))]; exact e2⟩
/-- slots that don't speak of the list bear what they bore -/
theorem froze_sl {ok : F.Ok} {H1 : Hp} {a : Addr} {vs : List V} {x : Option (Option V)} {s : Sl} (h : H1 a = some (.lst vs)) (ob : Obj) (hs : s.ly = true → x ≠ some (some (.ref a))) (r : RSl F H1 x s) : RSl F (upd H1 a (.frz ob (.lst vs))) x s := by
  have p := froze h ob
  have lst : ∀ xs, x ≠ some (some (.ref a)) → RLst F.K H1 x xs → RLst F.K (upd H1 a (.frz ob (.lst vs))) x xs := fun xs n ⟨b, us, h1, h2, h3⟩ => by
    refine ⟨b, us, h1, ?_, RDs.per p h3⟩
    rw [upd_ne (fun z => n (by rw [h1, z]))]
    exact h2
  cases s with
  | no => trivial
  | val d => obtain ⟨v, h1, h2⟩ := r; exact ⟨v, h1, RD.per p h2⟩
  | fn g => exact r
  | clo np ns b cs =>
    obtain ⟨f, h1, h2⟩ := r
    refine ⟨f, h1, ok.clo _ _ _ _ _ _ _ (fun b o e n _ => ?_) h2⟩
    rw [upd_ne (fun z => by rw [z, h] at e; exact n vs (Option.some.inj e).symm)]
    exact e
  | own xs => exact lst xs (hs rfl) r
  | lent xs => exact lst xs (hs rfl) r
  | lock xs => exact lst xs (hs rfl) r
/-- the slot's own list stands still from now on -/
theorem froze_slot {ok : F.Ok} {e : En} {σ : L2.St} {H : Hp} {i : Nat} {xs : List D} {a : Addr} {vs : List V} (S : StOk F e σ H) (t : LamX.Tabs F.T H) (hi : e.g i = .own xs) (hσ : σ[i]? = some (some (.ref a))) (ha : H a = some (.lst vs)) (hr : RDs F.K H vs xs) (ob : Obj) :
    Pst F e σ H (e.set i (.val (.list xs))) (upd H a (.frz ob (.lst vs))) ∧ RD F.K (upd H a (.frz ob (.lst vs))) (.ref a) (.list xs) := by
  have hl : i < e.length := En.g_lt (by rw [hi]; intro z; cases z)
  have rd : RD F.K (upd H a (.frz ob (.lst vs))) (.ref a) (.list xs) := .lst ⟨ob, upd_same⟩ (RDs.per (froze ha ob) hr)
  have hm : (e.g i).mt = true := by rw [hi]; rfl
  refine ⟨⟨⟨by rw [List.length_set]; exact S.len, fun j => ?_, fun j k b c hjk h1 h2 h3 h4 => ?_⟩, ⟨fun j h => ?_, fun j h => ?_, fun j ys h => ?_, fun j h => ?_, fun j h => ?_⟩, froze_ext ha ob ⟨i, hm, hσ⟩, froze_tabs ha ob t⟩, rd⟩
  · by_cases hj : i = j
    · subst hj
      rw [En.g_self hl]
      exact ⟨_, hσ, rd⟩
    · rw [En.g_ne hj]
      refine froze_sl (ok := ok) ha ob (fun hy z => ?_) (S.sl j)
      exact S.ap i j a a hj (mt_ly hm) hy hσ z rfl
  · by_cases hj : i = j
    · subst hj
      rw [En.g_self hl] at h1
      cases h1
    · rw [En.g_ne hj] at h1
      by_cases hk : i = k
      · subst hk
        rw [En.g_self hl] at h2
        cases h2
      · rw [En.g_ne hk] at h2
        exact S.ap j k b c hjk h1 h2 h3 h4
  · by_cases hj : i = j
    · subst hj
      exact hm
    · rw [En.g_ne hj] at h; exact h
  · by_cases hj : i = j
    · subst hj
      exact mt_ly hm
    · rw [En.g_ne hj] at h; exact h
  · by_cases hj : i = j
    · subst hj
      rw [hi] at h
      cases h
    · rw [En.g_ne hj]; exact h
  · by_cases hj : i = j
    · subst hj
      rw [En.g_self hl] at h
      cases h
    · rw [En.g_ne hj] at h; exact h
  · by_cases hj : i = j
    · subst hj
      rw [En.g_self hl] at h
      cases h
    · rw [En.g_ne hj] at h; exact h

/-! ### names and constants -/
theorem gl_cst {e : Expr} {v : V} {d : D} (h : PE X e (tC v)) (r : ∀ K H, RD K H v d) : PE X e (tE F (M.ret (.val d))) := by
  refine pe_imp h fun σ H Q ⟨t, e, S, a, e', hm, k⟩ => ?_
  obtain ⟨rfl, rfl⟩ := ret_ok hm
  exact k v H (Pst.refl S t) (r _ _)
theorem gl_getV {x : Str} {pos : Pos} {i : Nat} (ok : F.Ok) (h : PE X (.Name x pos) (tVar i)) : PE X (.Name x pos) (tE F (getV i)) := by
  refine pe_imp (pe_fz h) fun σ H Q ⟨t, e, S, a, e', hm, k⟩ => ?_
  unfold getV at hm
  have q := S.sl i
  split at hm
  · rename_i d hd
    rw [hd] at q
    obtain ⟨v, h1, h2⟩ := q
    cases hm
    exact ⟨v, h1, .inl (k v H (Pst.refl S t) h2)⟩
  · rename_i xs hd
    rw [hd] at q
    obtain ⟨b, vs, h1, h2, h3⟩ := q
    cases hm
    refine ⟨.ref b, h1, .inr ⟨b, vs, rfl, h2, fun ob => ?_⟩⟩
    obtain ⟨p, r⟩ := froze_slot (ok := ok) S t hd h1 h2 h3 ob
    exact k _ _ p r
  · cases hm
theorem gl_peek {x : Str} {pos : Pos} {i : Nat} (h : PE X (.Name x pos) (tVar i)) : PE X (.Name x pos) (tK F (peek i)) := by
  refine pe_imp h fun σ H Q ⟨t, e, S, a, e', hm, k⟩ => ?_
  unfold peek at hm
  have q := S.sl i
  have bor : ∀ {xs : List D} {e1 : En} {ls : Lks}, Pst F e σ H e1 H → e1.g i = .lock xs → Locks e e1 ls → RLst F.K H σ[i]? xs → (∀ b H', Pst F e σ H e1 H' → RK F e H e1 σ H' b (.bor xs, ls) → Q b H') → ∃ v, σ[i]? = some (some v) ∧ Q v H := fun {xs e1 ls} p hk l r k => by
    obtain ⟨b, vs, h1, h2, h3⟩ := r
    refine ⟨.ref b, h1, k _ _ p ⟨⟨b, vs, rfl, h2, h3, fun ⟨j, m1, m2⟩ => ?_⟩, l⟩⟩
    by_cases hj : j = i
    · rw [hj, hk] at m1
      cases m1
    · exact p.st.ap j i b b hj (mt_ly m1) (by rw [hk]; rfl) m2 h1 rfl
  split at hm
  · rename_i d hd
    rw [hd] at q
    obtain ⟨v, h1, h2⟩ := q
    cases hm
    exact ⟨v, h1, k v H (Pst.refl S t) ⟨h2, Locks.nil⟩⟩
  · rename_i xs hd
    rw [hd] at q
    cases hm
    exact bor (Pst.refl S t) hd Locks.nil q k
  · rename_i xs hd
    cases hm
    have hl : i < e.length := En.g_lt (by rw [hd]; intro z; cases z)
    obtain ⟨p, l, r⟩ := lock_pst S t hd (.inl rfl)
    exact bor p (En.g_self hl) l r k
  · rename_i xs hd
    cases hm
    have hl : i < e.length := En.g_lt (by rw [hd]; intro z; cases z)
    obtain ⟨p, l, r⟩ := lock_pst S t hd (.inr rfl)
    exact bor p (En.g_self hl) l r k
  · cases hm
theorem gl_lk {e : Expr} {m : M EV} (h : PE X e (tE F m)) : PE X e (tK F (m.bnd fun v => M.ret (v, []))) := by
  refine pe_imp h fun σ H Q ⟨t, e, S, a, e', hm, k⟩ => ?_
  obtain ⟨v, e1, h1, h2⟩ := bnd_ok hm
  obtain ⟨rfl, rfl⟩ := ret_ok h2
  exact ⟨t, e, S, v, e1, h1, fun b H' p r => k b H' p ⟨r, Locks.nil⟩⟩
end

/-! ### operators -/
section
variable {F : Fx} {X : Cx} (ok : F.Ok)
include ok
/-- two operands, the first one's list locked while the second one is reckoned -/
theorem two {ma mb : M (EV × Lks)} {g : D → D → Option EV} {ta tb : TE} {σ : L2.St} {H : Hp} {Q : VK} {r : R2}
    (ha : ∀ σ H Q, tK F ma σ H Q → ta σ H Q) (hb : ∀ σ H Q, tK F mb σ H Q → tb σ H Q) (hr : ∀ x y H Q, rOp F.K g x y H Q → r x y H Q)
    (h : tE F (ma.bnd fun p => unl p.2 (mb.bnd fun q => unl q.2 (M.of (g p.1.dat q.1.dat)))) σ H Q) : ta σ H fun x H1 => tb σ H1 fun y H2 => r x y H2 Q := by
  obtain ⟨t, e, S, ev, e', hm, k⟩ := h
  obtain ⟨p, e1, hp, h2⟩ := bnd_ok hm
  obtain ⟨e2', h3, rfl⟩ := unl_ok h2
  obtain ⟨q, e2, hq, h4⟩ := bnd_ok h3
  obtain ⟨e3, h5, rfl⟩ := unl_ok h4
  obtain ⟨hg, rfl⟩ := of_ok h5
  refine ha _ _ _ ⟨t, e, S, p, e1, hp, fun x H1 P1 ⟨r1, l1⟩ => hb _ _ _ ⟨P1.tabs, e1, P1.st, q, e2, hq, fun y H2 P2 ⟨r2, l2⟩ => hr _ _ _ _ ⟨_, _, ev, (r1.more S P1 P2).rb, r2.rb, hg, fun v H3 o => ?_⟩⟩⟩
  have P2' := unlock_pst P1.st P2 l2
  have P12 := P1.trans P2'
  have P := unlock_pst S P12 (l1.more P2'.evo)
  exact k v H3 (P.grow ok o.1) (o.rev P)
theorem gl_bin {a b : Expr} {op : Operator} {pos : Pos} {ma mb : M (EV × Lks)} {g : D → D → Option EV} (ho : OpR X (binaryOp op) (rOp F.K g)) (ha : PE X a (tK F ma)) (hb : PE X b (tK F mb)) :
    PE X (.BinOp a op b pos) (tE F (ma.bnd fun p => unl p.2 (mb.bnd fun q => unl q.2 (M.of (g p.1.dat q.1.dat))))) :=
  pe_imp (pe_op ho ha hb) fun σ H Q h => two ok (fun _ _ _ z => z) (fun _ _ _ z => z) (fun _ _ _ _ z => z) h
theorem gl_cmp {a b : Expr} {op : CmpOp} {pos : Pos} {ma mb : M (EV × Lks)} {g : D → D → Option EV} (ho : OpR X (compareOp op) (rOp F.K g)) (ha : PE X a (tK F ma)) (hb : PE X b (tK F mb)) (hm : behindInMarks op b = false) :
    PE X (.Compare a [op] [b] pos) (tE F (ma.bnd fun p => unl p.2 (mb.bnd fun q => unl q.2 (M.of (g p.1.dat q.1.dat))))) :=
  pe_imp (pe_cmpR ho ha hb hm) fun σ H Q h => two ok (fun _ _ _ z => z) (fun _ _ _ z => z) (fun _ _ _ _ z => z) h
theorem gl_ix {a b : Expr} {pos : Pos} {ma mb : M (EV × Lks)} {g : D → D → Option EV} (ho : IxR X (rOp F.K g)) (ha : PE X a (tK F ma)) (hb : PE X b (tK F mb)) (hs : PlainIx b) :
    PE X (.Subscript a b pos) (tE F (ma.bnd fun p => unl p.2 (mb.bnd fun q => unl q.2 (M.of (g p.1.dat q.1.dat))))) :=
  pe_imp (pe_ix ho ha hb hs) fun σ H Q h => two ok (fun _ _ _ z => z) (fun _ _ _ z => z) (fun _ _ _ _ z => z) h
theorem one {ma : M (EV × Lks)} {g : D → Option EV} {σ : L2.St} {H : Hp} {Q : VK} (h : tE F (ma.bnd fun p => unl p.2 (M.of (g p.1.dat))) σ H Q) : tK F ma σ H fun x H1 => rOp1 F.K g x H1 Q := by
  obtain ⟨t, e, S, ev, e', hm, k⟩ := h
  obtain ⟨p, e1, hp, h2⟩ := bnd_ok hm
  obtain ⟨e2', h3, rfl⟩ := unl_ok h2
  obtain ⟨hg, rfl⟩ := of_ok h3
  refine ⟨t, e, S, p, e1, hp, fun x H1 P1 ⟨r1, l1⟩ => ⟨_, ev, r1.rb, hg, fun v H3 o => ?_⟩⟩
  have P := unlock_pst S P1 l1
  exact k v H3 (P.grow ok o.1) (o.rev P)
theorem gl_un {a : Expr} {op : UnaryOp} {pos : Pos} {ma : M (EV × Lks)} {g : D → Option EV} (ho : UnR X (unaryOp op) (rOp1 F.K g)) (ha : PE X a (tK F ma)) :
    PE X (.UnaryOp op a pos) (tE F (ma.bnd fun p => unl p.2 (M.of (g p.1.dat)))) := pe_imp (pe_un ho ha) fun σ H Q h => one ok h
end
end Mi
end

section
set_option maxRecDepth 100000
/-! Mi: more readings. -/
namespace Mi
open PySem PySem.Spec PyProof.Rows L2
section
variable {F : Fx} {X : Cx}
theorem REV.bl {H H' : Hp} {e' : En} {σ : L2.St} {v : V} {b : Bool} (h : REV F H e' σ H' v (.val (.bool b))) : v = .bl b := by
  cases (show RD F.K H' v (.bool b) from h)
  rfl
/-- a truth first, then the one or the other -/
theorem gl_and {a b : Expr} {rest : List Expr} {pos : Pos} {ma mb : M EV} (ha : PE X a (tE F ma)) (hb : PE X (.BoolOp .And (b :: rest) pos) (tE F mb)) :
    PE X (.BoolOp .And (a :: b :: rest) pos) (tE F (ma.bnd fun x => match x with
      | .val (.bool true) => mb
      | .val (.bool false) => M.ret (.val (.bool false))
      | _ => M.fail)) := by
  refine pe_imp (pe_and ha hb) fun σ H Q ⟨t, e, S, ev, e', hm, k⟩ => ?_
  obtain ⟨x, e1, h1, h2⟩ := bnd_ok hm
  refine ⟨t, e, S, x, e1, h1, fun v H1 P1 r1 => ?_⟩
  split at h2
  · refine ⟨true, r1.bl, iteT ⟨P1.tabs, e1, P1.st, ev, e', h2, fun w H2 P2 r2 => k w H2 (P1.trans P2) ?_⟩⟩
    cases ev with
    | val d => exact r2
    | fr xs => obtain ⟨a, vs, q1, q2, q3, q4⟩ := r2; exact ⟨a, vs, q1, q2, q3, P1.ext.trk a q4⟩
    | bor xs => exact r2
  · obtain ⟨rfl, rfl⟩ := ret_ok h2
    exact ⟨false, r1.bl, iteF (k _ _ P1 (RD.bl false))⟩
  · cases h2
theorem gl_or {a b : Expr} {rest : List Expr} {pos : Pos} {ma mb : M EV} (ha : PE X a (tE F ma)) (hb : PE X (.BoolOp .Or (b :: rest) pos) (tE F mb)) :
    PE X (.BoolOp .Or (a :: b :: rest) pos) (tE F (ma.bnd fun x => match x with
      | .val (.bool false) => mb
      | .val (.bool true) => M.ret (.val (.bool true))
      | _ => M.fail)) := by
  refine pe_imp (pe_or ha hb) fun σ H Q ⟨t, e, S, ev, e', hm, k⟩ => ?_
  obtain ⟨x, e1, h1, h2⟩ := bnd_ok hm
  refine ⟨t, e, S, x, e1, h1, fun v H1 P1 r1 => ?_⟩
  split at h2
  · refine ⟨false, r1.bl, iteF ⟨P1.tabs, e1, P1.st, ev, e', h2, fun w H2 P2 r2 => k w H2 (P1.trans P2) ?_⟩⟩
    cases ev with
    | val d => exact r2
    | fr xs => obtain ⟨a, vs, q1, q2, q3, q4⟩ := r2; exact ⟨a, vs, q1, q2, q3, P1.ext.trk a q4⟩
    | bor xs => exact r2
  · obtain ⟨rfl, rfl⟩ := ret_ok h2
    exact ⟨true, r1.bl, iteT (k _ _ P1 (RD.bl true))⟩
  · cases h2
theorem gl_not {a : Expr} {pos : Pos} {ma : M EV} (ha : PE X a (tE F ma)) :
    PE X (.UnaryOp .Not a pos) (tE F (ma.bnd fun x => match x with
      | .val (.bool c) => M.ret (.val (.bool (!c)))
      | _ => M.fail)) := by
  refine pe_imp (pe_not ha) fun σ H Q ⟨t, e, S, ev, e', hm, k⟩ => ?_
  obtain ⟨x, e1, h1, h2⟩ := bnd_ok hm
  refine ⟨t, e, S, x, e1, h1, fun v H1 P1 r1 => ?_⟩
  split at h2
  · rename_i c
    obtain ⟨rfl, rfl⟩ := ret_ok h2
    exact ⟨c, r1.bl, k _ _ P1 (RD.bl _)⟩
  · cases h2
/-- a step ahead of it -/
theorem REV.step {H H1 H2 : Hp} {e e1 e2 : En} {σ : L2.St} {v : V} {ev : EV} (P1 : Pst F e σ H e1 H1) (r : REV F H1 e2 σ H2 v ev) : REV F H e2 σ H2 v ev := by
  cases ev with
  | val d => exact r
  | fr xs => obtain ⟨a, vs, q1, q2, q3, q4⟩ := r; exact ⟨a, vs, q1, q2, q3, P1.ext.trk a q4⟩
  | bor xs => exact r
theorem gl_ife {c a b : Expr} {pos : Pos} {mc : M Bool} {ma mb : M EV} (hc : PT X c (tB F mc)) (ha : PE X a (tE F ma)) (hb : PE X b (tE F mb)) :
    PE X (.IfExp c a b pos) (tE F (mc.bnd fun k => if k then ma else mb)) := by
  refine pe_imp (pe_ifExp hc ha hb) fun σ H Q ⟨t, e, S, ev, e', hm, k⟩ => ?_
  obtain ⟨x, e1, h1, h2⟩ := bnd_ok hm
  refine ⟨t, e, S, x, e1, h1, fun v H1 P1 r1 => ?_⟩
  obtain rfl : v = x := r1
  cases v with
  | true => exact iteT ⟨P1.tabs, e1, P1.st, ev, e', h2, fun w H2 P2 r2 => k w H2 (P1.trans P2) (r2.step P1)⟩
  | false => exact iteF ⟨P1.tabs, e1, P1.st, ev, e', h2, fun w H2 P2 r2 => k w H2 (P1.trans P2) (r2.step P1)⟩

/-! ### tests -/
theorem gl_tAnd {a b : Expr} {rest : List Expr} {pos : Pos} {ma mb : M Bool} (ha : PT X a (tB F ma)) (hb : PW X (.BoolOp .And (b :: rest) pos) (tB F mb)) :
    PW X (.BoolOp .And (a :: b :: rest) pos) (tB F (ma.bnd fun k => if k then mb else M.ret false)) := by
  refine pw_imp (pw_and ha hb) fun σ H Q ⟨t, e, S, ev, e', hm, k⟩ => ?_
  obtain ⟨x, e1, h1, h2⟩ := bnd_ok hm
  refine ⟨t, e, S, x, e1, h1, fun v H1 P1 r1 => ?_⟩
  obtain rfl : v = x := r1
  cases v with
  | true => exact iteT ⟨P1.tabs, e1, P1.st, ev, e', h2, fun w H2 P2 r2 => k w H2 (P1.trans P2) r2⟩
  | false =>
    obtain ⟨rfl, rfl⟩ := ret_ok h2
    exact iteF (k _ _ P1 rfl)
theorem gl_tOr {a b : Expr} {rest : List Expr} {pos : Pos} {ma mb : M Bool} (ha : PT X a (tB F ma)) (hb : PW X (.BoolOp .Or (b :: rest) pos) (tB F mb)) :
    PW X (.BoolOp .Or (a :: b :: rest) pos) (tB F (ma.bnd fun k => if k then M.ret true else mb)) := by
  refine pw_imp (pw_or ha hb) fun σ H Q ⟨t, e, S, ev, e', hm, k⟩ => ?_
  obtain ⟨x, e1, h1, h2⟩ := bnd_ok hm
  refine ⟨t, e, S, x, e1, h1, fun v H1 P1 r1 => ?_⟩
  obtain rfl : v = x := r1
  cases v with
  | false => exact iteF ⟨P1.tabs, e1, P1.st, ev, e', h2, fun w H2 P2 r2 => k w H2 (P1.trans P2) r2⟩
  | true =>
    obtain ⟨rfl, rfl⟩ := ret_ok h2
    exact iteT (k _ _ P1 rfl)
theorem gl_tNot {a : Expr} {pos : Pos} {ma : M Bool} (ha : PT X a (tB F ma)) : PT X (.UnaryOp .Not a pos) (tB F (ma.bnd fun k => M.ret (!k))) := by
  refine pt_imp (pt_not ha) fun σ H Q ⟨t, e, S, ev, e', hm, k⟩ => ?_
  obtain ⟨x, e1, h1, h2⟩ := bnd_ok hm
  refine ⟨t, e, S, x, e1, h1, fun v H1 P1 r1 => ?_⟩
  obtain rfl : v = x := r1
  obtain ⟨rfl, rfl⟩ := ret_ok h2
  exact k _ _ P1 rfl
theorem truth_v {K : PySem.W.Frag} {H : Hp} {v : V} {d : D} {k : Bool} (r : RB K H v d) (h : truth d = some k) : TruV K v H k := by
  cases d with
  | none =>
    rw [r.none]
    cases h
    rfl
  | bool b =>
    rw [r.bool]
    cases h
    rfl
  | int i =>
    rw [r.int]
    cases h
    rfl
  | str x =>
    obtain ⟨e, s⟩ := r.str
    rw [e]
    cases h
    refine ⟨s.2, ?_⟩
    cases x.length with
    | zero => rfl
    | succ n =>
      show (n + 1 != 0) = (((n + 1 : Nat) : Int) != 0)
      have e1 : (n + 1 != 0) = true := by simp
      have e2 : (((n + 1 : Nat) : Int) != 0) = true := by
        rw [bne_iff_ne]
        omega
      rw [e1, e2]
  | tuple xs =>
    obtain ⟨a, vs, e, q, rs⟩ := r.tup
    rw [e]
    cases h
    refine .inr (.inl ⟨vs, q, ?_⟩)
    cases rs <;> rfl
  | list xs =>
    obtain ⟨a, vs, e, q, rs⟩ := r.list
    rw [e]
    cases h
    refine .inl ⟨vs, q, ?_⟩
    cases rs <;> rfl
  | dict _ => cases h
theorem gl_tv (hK : X.K = F.K) {a : Expr} {ma : M (EV × Lks)} (ha : PE X a (tK F ma)) (he : ∀ whole, isTrue a X.env whole = (do let v ← whole; standAt a.pos; holding [v] (truthy v))) :
    PT X a (tB F (ma.bnd fun p => unl p.2 (M.of (truth p.1.dat)))) := by
  refine pt_imp (pt_truth ha he) fun σ H Q ⟨t, e, S, ev, e', hm, k⟩ => ?_
  obtain ⟨p, e1, hp, h2⟩ := bnd_ok hm
  obtain ⟨e2', h3, rfl⟩ := unl_ok h2
  obtain ⟨hg, rfl⟩ := of_ok h3
  refine ⟨t, e, S, p, e1, hp, fun x H1 P1 ⟨r1, l1⟩ => ⟨ev, by rw [hK]; exact truth_v r1.rb hg, k _ _ (unlock_pst S P1 l1) rfl⟩⟩
/-- a comparison as a test -/
theorem gl_tcmp {a b : Expr} {op : CmpOp} {pos : Pos} {ma mb : M (EV × Lks)} {g : D → D → Option Bool} (ok : F.Ok) (ho : OpR X (compareOp op) (rOp F.K fun a b => (g a b).map fun c => .val (.bool c))) (ha : PE X a (tK F ma)) (hb : PE X b (tK F mb)) (hm : behindInMarks op b = false) :
    PT X (.Compare a [op] [b] pos) (tB F ((ma.bnd fun p => unl p.2 (mb.bnd fun q => unl q.2 (M.of ((g p.1.dat q.1.dat).map fun c => EV.val (.bool c))))).bnd fun v => M.of (truth v.dat))) := by
  refine pt_imp (pt_cmpR ho ha hb hm) fun σ H Q ⟨t, e, S, ev, e', hm', k⟩ => ?_
  obtain ⟨p, e1, hp, h2⟩ := bnd_ok hm'
  obtain ⟨hg, rfl⟩ := of_ok h2
  refine two ok (g := fun a b => (g a b).map fun c => EV.val (.bool c)) (fun _ _ _ z => z) (fun _ _ _ z => z) (fun _ _ _ _ z => z) ⟨t, e, S, p, e1, hp, fun x H1 P1 r1 => ?_⟩
  obtain ⟨c, h3⟩ : ∃ c, p = .val (.bool c) := by
    obtain ⟨p1, e2, h5, h6⟩ := bnd_ok hp
    obtain ⟨e3, h7, _⟩ := unl_ok h6
    obtain ⟨p2, e4, h8, h9⟩ := bnd_ok h7
    obtain ⟨e5, h10, _⟩ := unl_ok h9
    obtain ⟨h11, _⟩ := of_ok h10
    cases q : g p1.1.dat p2.1.dat with
    | none => rw [q] at h11; cases h11
    | some c => rw [q] at h11; cases h11; exact ⟨c, rfl⟩
  subst h3
  cases hg
  exact ⟨_, r1.bl, k _ _ P1 rfl⟩

/-! ### displays and arguments -/
theorem gl_nil : PA X [] (tDs F (M.ret [])) := by
  refine pa_imp pa_nil fun σ H Q ⟨t, e, S, ev, e', hm, k⟩ => ?_
  obtain ⟨rfl, rfl⟩ := ret_ok hm
  exact k _ _ (Pst.refl S t) .nil
/-- what an evaluation gives, for good -/
theorem pe_kept (ok : F.Ok) {e : Expr} {m : M EV} (h : PE X e (tE F m)) : PE X e (WP F (kp m) fun _ _ _ _ H' v d => RD F.K H' v d) := by
  refine pe_imp (pe_fz h) fun σ H Q ⟨t, e, S, d, e', hm, k⟩ => ?_
  obtain ⟨ev, e1, h1, h2⟩ := bnd_ok hm
  obtain ⟨hd, rfl⟩ := of_ok h2
  refine ⟨t, e, S, ev, e1, h1, fun v H1 P1 r1 => ?_⟩
  clear hm h1 h2
  cases ev with
  | val d' =>
    cases hd
    exact .inl (k _ _ P1 r1)
  | bor xs => cases hd
  | fr xs =>
    cases hd
    obtain ⟨a, vs, h1, h2, h3, h4⟩ := r1
    refine .inr ⟨a, vs, h1, h2, fun ob => k _ _ ?_ ?_⟩
    · have nm : ¬ MutAt e1 σ a := nm_of S P1.evo h4
      refine ⟨⟨P1.st.len, fun i => ?_, P1.st.ap⟩, P1.evo, ⟨fun b o q n tt => ?_, fun b q => ?_⟩, froze_tabs h2 ob P1.tabs⟩
      · refine froze_sl (ok := ok) h2 ob (fun hy z => ?_) (P1.st.sl i)
        have hy0 := P1.evo.ly i hy
        have q := S.sl i
        cases e2 : e.g i with
        | own ys => rw [e2] at q; obtain ⟨b, us, q1, q2, _⟩ := q; rw [z] at q1; cases q1; rw [h4] at q2; cases q2
        | lent ys => rw [e2] at q; obtain ⟨b, us, q1, q2, _⟩ := q; rw [z] at q1; cases q1; rw [h4] at q2; cases q2
        | lock ys => rw [e2] at q; obtain ⟨b, us, q1, q2, _⟩ := q; rw [z] at q1; cases q1; rw [h4] at q2; cases q2
        | _ => rw [e2] at hy0; cases hy0
      · rw [upd_ne (ne_of_none q h4)]
        exact P1.ext.keep b o q n tt
      · by_cases z : b = a
        · rw [z, upd_same] at q; cases q
        · rw [upd_ne z] at q; exact P1.ext.trk b q
    · rw [h1]
      exact .lst ⟨ob, upd_same⟩ (RDs.per (froze h2 ob) h3)
/-- one item, then the others -/
theorem gl_cons (ok : F.Ok) {a : Expr} {es : List Expr} {m : M EV} {ms : M (List D)} (ha : PE X a (tE F m)) (hr : PA X es (tDs F ms)) (hs : starEach (a :: es) X.env = (false, eval a X.env) :: starEach es X.env) :
    PA X (a :: es) (tDs F ((kp m).bnd fun x => ms.bnd fun xs => M.ret (x :: xs))) := by
  refine pa_imp (pa_cons (pe_kept ok ha) hr hs) fun σ H Q ⟨t, e, S, ds, e', hm, k⟩ => ?_
  obtain ⟨d, e1, h1, h2⟩ := bnd_ok hm
  obtain ⟨ds2, e2, h3, h4⟩ := bnd_ok h2
  obtain ⟨rfl, rfl⟩ := ret_ok h4
  exact ⟨t, e, S, d, e1, h1, fun v H1 P1 r1 => ⟨P1.tabs, e1, P1.st, ds2, e2, h3, fun vs H2 P2 r2 => k _ _ (P1.trans P2) (.cons (RD.per (P2.ext.per P1.st) r1) r2)⟩⟩
theorem RB.items {K : PySem.W.Frag} {H : Hp} {v : V} {d : D} {xs : List D} (r : RB K H v d) (h : items d = some xs) : ∃ a vs, v = .ref a ∧ (SqT K H a vs ∨ SqL K H a vs) ∧ RDs K H vs xs := by
  cases d with
  | tuple ys =>
    cases h
    obtain ⟨a, vs, e, q, rs⟩ := r.tup
    exact ⟨a, vs, e, .inl q, rs⟩
  | list ys =>
    cases h
    obtain ⟨a, vs, e, q, rs⟩ := r.list
    exact ⟨a, vs, e, .inr q, rs⟩
  | _ => cases h
theorem gl_star (hK : X.K = F.K) {a : Expr} {p : Pos} {es : List Expr} {m : M (EV × Lks)} {ms : M (List D)} (ha : PE X a (tK F m)) (hr : PA X es (tDs F ms)) (hs : starEach (.Starred a p :: es) X.env = (true, eval a X.env) :: starEach es X.env) :
    PA X (.Starred a p :: es) (tDs F (m.bnd fun p => unl p.2 ((M.of (items p.1.dat)).bnd fun ys => ms.bnd fun xs => M.ret (ys ++ xs)))) := by
  refine pa_imp (StX.pa_star ha hr hs) fun σ H Q ⟨t, e, S, ds, e', hm, k⟩ => ?_
  obtain ⟨q, e1, h1, h2⟩ := bnd_ok hm
  obtain ⟨e2, h3, rfl⟩ := unl_ok h2
  obtain ⟨ys, e3, h4, h5⟩ := bnd_ok h3
  obtain ⟨hy, rfl⟩ := of_ok h4
  obtain ⟨xs, e4, h6, h7⟩ := bnd_ok h5
  obtain ⟨rfl, rfl⟩ := ret_ok h7
  refine ⟨t, e, S, q, e1, h1, fun v H1 P1 ⟨r1, l1⟩ => ?_⟩
  obtain ⟨b, vs, hv, hq, rs⟩ := r1.rb.items hy
  refine ⟨b, vs, hv, by rw [hK]; exact hq, P1.tabs, e1, P1.st, xs, e4, h6, fun us H2 P2 r2 => ?_⟩
  have P := unlock_pst S (P1.trans P2) (l1.more P2.evo)
  exact k _ _ P (RDs.append (RDs.per (P2.ext.per P1.st) rs) r2)
theorem lenOk_lt {n : Nat} (h : lenOk (n + 1) = true) : n < sizeLine := lenOk_le h
theorem gl_tup (ok : F.Ok) {es : List Expr} {x1 : Nat} {pos : Pos} {ms : M (List D)} (h : PA X es (tDs F ms)) :
    PE X (.Tuple es x1 pos) (tE F (ms.bnd fun xs => if lenOk xs.length then M.ret (.val (.tuple xs)) else M.fail)) := by
  refine pe_imp (pe_tup h) fun σ H Q ⟨t, e, S, ev, e', hm, k⟩ => ?_
  obtain ⟨xs, e1, h1, h2⟩ := bnd_ok hm
  refine ⟨t, e, S, xs, e1, h1, fun vs H1 P1 r1 => ?_⟩
  split at h2
  · rename_i hl
    obtain ⟨rfl, rfl⟩ := ret_ok h2
    refine ⟨by rw [r1.length]; exact lenOk_le hl, fun p hp => k _ _ (P1.grow ok (Grow.upd hp)) ?_⟩
    exact .tup (.inl (.inl upd_same)) (RDs.per (Grow.upd hp).per r1)
  · cases h2
theorem gl_lst (ok : F.Ok) {es : List Expr} {pos : Pos} {ms : M (List D)} (h : PA X es (tDs F ms)) :
    PE X (.List es pos) (tE F (ms.bnd fun xs => if lenOk xs.length then M.ret (.fr xs) else M.fail)) := by
  refine pe_imp (pe_lst h) fun σ H Q ⟨t, e, S, ev, e', hm, k⟩ => ?_
  obtain ⟨xs, e1, h1, h2⟩ := bnd_ok hm
  refine ⟨t, e, S, xs, e1, h1, fun vs H1 P1 r1 => ?_⟩
  split at h2
  · rename_i hl
    obtain ⟨rfl, rfl⟩ := ret_ok h2
    refine ⟨by rw [r1.length]; exact lenOk_le hl, fun p hp => k _ _ (P1.grow ok (Grow.upd hp)) ?_⟩
    exact ⟨p, vs, rfl, upd_same, RDs.per (Grow.upd hp).per r1, P1.ext.trk p hp⟩
  · cases h2
/-- arguments that are only read -/
theorem gl_pnil : PA X [] (tP F (M.ret ([], []))) := by
  refine pa_imp pa_nil fun σ H Q ⟨t, e, S, ev, e', hm, k⟩ => ?_
  obtain ⟨rfl, rfl⟩ := ret_ok hm
  exact k _ _ (Pst.refl S t) ⟨.nil, Locks.nil⟩
theorem gl_pcons {a : Expr} {es : List Expr} {m : M (EV × Lks)} {ms : M (List D × Lks)} (ha : PE X a (tK F m)) (hr : PA X es (tP F ms)) (hs : starEach (a :: es) X.env = (false, eval a X.env) :: starEach es X.env) :
    PA X (a :: es) (tP F (m.bnd fun p => ms.bnd fun q => M.ret (p.1.dat :: q.1, p.2 ++ q.2))) := by
  refine pa_imp (pa_cons ha hr hs) fun σ H Q ⟨t, e, S, ds, e', hm, k⟩ => ?_
  obtain ⟨p, e1, h1, h2⟩ := bnd_ok hm
  obtain ⟨q, e2, h3, h4⟩ := bnd_ok h2
  obtain ⟨rfl, rfl⟩ := ret_ok h4
  refine ⟨t, e, S, p, e1, h1, fun v H1 P1 ⟨r1, l1⟩ => ⟨P1.tabs, e1, P1.st, q, e2, h3, fun vs H2 P2 ⟨r2, l2⟩ => k _ _ (P1.trans P2) ⟨.cons (r1.more S P1 P2).rb r2, l1.app l2 P1.evo P2.evo⟩⟩⟩
theorem args (ok : F.Ok) {ms : M (List D × Lks)} {g : List D → Option EV} {σ : L2.St} {H : Hp} {Q : VK} (h : tE F (ms.bnd fun p => unl p.2 (M.of (g p.1))) σ H Q) : tP F ms σ H fun vs H1 => rCall F.K g vs H1 Q := by
  obtain ⟨t, e, S, ev, e', hm, k⟩ := h
  obtain ⟨p, e1, hp, h2⟩ := bnd_ok hm
  obtain ⟨e2', h3, rfl⟩ := unl_ok h2
  obtain ⟨hg, rfl⟩ := of_ok h3
  refine ⟨t, e, S, p, e1, hp, fun x H1 P1 ⟨r1, l1⟩ => ⟨_, ev, r1, hg, fun v H3 o => ?_⟩⟩
  have P := unlock_pst S P1 l1
  exact k v H3 (P.grow ok o.1) (o.rev P)
theorem gl_callB (ok : F.Ok) {x : Str} {p pos : Pos} {a : Expr} {es : List Expr} {id : String} {ms : M (List D × Lks)} {g : List D → Option EV} (hc : CallR X (.builtin id) (rCall F.K g)) (hg : Gl X x) (hm : X.mg x = none) (hv : bootBuiltins x = some (.builtin id))
    (ha : PA X (a :: es) (tP F ms)) (hn : x ≠ "__name__") (hdb : (x == ("__debug__" : Str)) = false) (he : starEach (a :: es) X.env = (false, eval a X.env) :: starEach es X.env) (hpl : (backTo pos (starEach es X.env)).any (·.1) = false) :
    PE X (.Call (.Name x p) (a :: es) [] pos) (tE F (ms.bnd fun p => unl p.2 (M.of (g p.1)))) := pe_imp (pe_callB hc hg hm hv ha hn hdb he hpl) fun σ H Q h => args ok h
theorem gl_callTy (ok : F.Ok) {x : Str} {p pos : Pos} {a : Expr} {es : List Expr} {T : String} {ms : M (List D × Lks)} {g : List D → Option EV} (hc : CallR X (.type T) (rCall F.K g)) (hg : Gl X x) (hm : X.mg x = none) (hv : bootBuiltins x = some (.type T))
    (ha : PA X (a :: es) (tP F ms)) (hn : x ≠ "__name__") (hdb : (x == ("__debug__" : Str)) = false) (he : starEach (a :: es) X.env = (false, eval a X.env) :: starEach es X.env) (hpl : (backTo pos (starEach es X.env)).any (·.1) = false) :
    PE X (.Call (.Name x p) (a :: es) [] pos) (tE F (ms.bnd fun p => unl p.2 (M.of (g p.1)))) := pe_imp (pe_callTy hc hg hm hv ha hn hdb he hpl) fun σ H Q h => args ok h
end
end Mi
end

section
set_option maxRecDepth 100000
set_option maxHeartbeats 1000000
/-! Mi: a tuple turned about. -/
namespace Mi
open PySem PySem.Spec PyProof.Rows L2 HT
section
variable {prog : Program} {w : World} {A : Around} {E : Value → Shared → Prop} {s : Shared}
theorem adjust_rev (n : Nat) : Builtin.Slice.sliceAdjust none none (-1) (n : Int) = ((n : Int) - 1, -1) := by
  unfold Builtin.Slice.sliceAdjust
  simp
theorem places_rev (n : Nat) : Builtin.Slice.slicePlaces ((n : Int) - 1) (-1) (-1) = n := by
  unfold Builtin.Slice.slicePlaces
  have h1 : ¬ ((-1 : Int) > 0) := by decide
  simp only [h1, if_false]
  split
  · rw [show (- -1 : Int) = 1 by decide, Int.ediv_one]
    omega
  · omega
theorem fm_congr {α β : Type} {f g : α → Option β} : ∀ {l : List α}, (∀ x ∈ l, f x = g x) → l.filterMap f = l.filterMap g
  | [], _ => rfl
  | a :: r, h => by
    rw [List.filterMap_cons, List.filterMap_cons, h a List.mem_cons_self, fm_congr fun x hx => h x (List.mem_cons_of_mem _ hx)]
theorem pick_rev (xs : Array Value) : ((List.range xs.size).filterMap fun (m : Nat) => xs[(((xs.size : Int) - 1) + (m : Int) * (-1)).toNat]?).toArray = xs.toList.reverse.toArray := by
  have e : ((List.range xs.size).filterMap fun (m : Nat) => xs[(((xs.size : Int) - 1) + (m : Int) * (-1)).toNat]?) = ((List.range xs.size).map fun k => xs.size - 1 - k).filterMap (xs[·]?) := by
    rw [List.filterMap_map]
    refine fm_congr fun m hm => ?_
    have h := List.mem_range.mp hm
    have : (((xs.size : Int) - 1) + (m : Int) * (-1)).toNat = xs.size - 1 - m := by omega
    rw [this]
    rfl
  rw [e, PySem.W.krv_range, List.filterMap_reverse, PySem.W.krv_all]
theorem sliceApplied_rev {sl : Addr} {vs : Value} {n : Nat} {Q : Int × Int × Nat → Shared → Prop} (hs : s.heap.IsSliceOf sl .none .none vs) (ps : IsPart vs (some (-1)))
    (h : Q ((n : Int) - 1, -1, n) s) : wpAny (model prog w) A (Builtin.Slice.sliceApplied (.ref sl) (pure (n : Int))) Q E s := by
  obtain ⟨os, hos, hcs, hds⟩ := id hs
  unfold Builtin.Slice.sliceApplied Builtin.Slice.sliceFields
  refine wpAny_bind (wpAny_bind (wpAny_field hos hds (x := .none) rfl (wpAny_bind (wpAny_field hos hds (x := .none) rfl (wpAny_bind (wpAny_field hos hds (x := vs) rfl (wpAny_pure ?_)))))))
  refine wpAny_bind (slicePart_ ps ?_)
  show wpAny _ _ (if ((-1 : Int) == 0) = true then _ else _) _ _ s
  rw [if_neg (by decide)]
  refine wpAny_bind (slicePart_none (wpAny_bind (slicePart_none (wpAny_bind (wpAny_pure ?_)))))
  show wpAny _ _ (match Builtin.Slice.sliceAdjust none none (-1) (n : Int) with | (lo, hi) => pure (lo, (-1 : Int), Builtin.Slice.slicePlaces lo hi (-1))) _ _ s
  rw [adjust_rev n]
  show wpAny _ _ (pure ((n : Int) - 1, (-1 : Int), Builtin.Slice.slicePlaces ((n : Int) - 1) (-1) (-1))) _ _ s
  rw [places_rev]
  exact wpAny_pure h
theorem getItem_tuple_rev {t sl : Addr} {items : Array Value} {vs : Value} {Q : Value → Shared → Prop} (ht : IsTup s.heap t items) (hs : s.heap.IsSliceOf sl .none .none vs) (ps : IsPart vs (some (-1)))
    (h : Q (.ref s.heap.objs.size) { s with heap := s.heap.push { cls := .type "tuple", data := .seq items.toList.reverse.toArray } })
    (hsz : items.size ≤ sizeLine) : wpAny (model prog w) A (getItem (.ref t) (.ref sl)) Q E s := by
  have htake : sizeOk (.seq items.toList.reverse.toArray) := by
    show items.toList.reverse.toArray.size ≤ sizeLine
    rw [List.size_toArray, List.length_reverse, Array.length_toList]
    exact hsz
  obtain ⟨os, hos, hcs, hds⟩ := id hs
  have hTs : s.TypeIs (.ref sl) "slice" := ⟨os, hos, hcs⟩
  unfold getItem
  try with_reducible refine wpAny_holding ?_
  first | refine wpAny_bind (wpAny_pure ?_) | skip
  refine wpAny_bind (wpAny_sequenceKey ht.typeIs (by decide) ?_)
  refine wpAny_bind (wpAny_callSpecial?_slot (name := Str.ofString "__getitem__") ht.typeIs PyProof.Rows.slot_tuple_getitem
    (wpAny_call_entry PyProof.Rows.slot_tuple_getitem ht.typeIs entry_tuple_getitem ?_ (args_tuple_getitem _ _)))
  show wpAny _ _ (Builtin.Tuple.tupleItemsOf (.ref t) >>= _) _ _ s
  refine wpAny_bind (tupleItemsOf_ ht ?_)
  refine wpAny_bind (wpAny_typeOf hTs ?_)
  rw [if_pos (by decide)]
  refine wpAny_bind (sliceApplied_rev (n := items.size) hs ps ?_)
  have hno : ¬ ((((items.size : Int) - 1 == 0) && (-1 : Int) == 1 && items.size == items.size) = true) := by simp
  show wpAny _ _ (if (((items.size : Int) - 1 == 0) && (-1 : Int) == 1 && items.size == items.size) = true then _ else _) _ _ s
  rw [if_neg hno, pick_rev]
  first
    | exact wpAny_bind (m := Builtin.Tuple.tupleExact _) (wpAny_newObj_type (wpAny_pure ⟨_, rfl, wpAny_pure h⟩) htake)
    | exact wpAny_bind (m := Builtin.Tuple.tupleExact _) (wpAny_newObj_type (wpAny_bind (wpAny_pure (wpAny_pure ⟨_, rfl, wpAny_pure h⟩))) htake)
    | exact wpAny_bind (wpAny_bind (m := Builtin.Tuple.tupleExact _) (wpAny_newObj_type (wpAny_pure (wpAny_pure ⟨_, rfl, wpAny_pure h⟩)) htake))
    | exact wpAny_bind (wpAny_bind (m := Builtin.Tuple.tupleExact _) (wpAny_newObj_type (wpAny_pure ⟨_, rfl, wpAny_pure h⟩) htake))
end
def tRevLT (K : PySem.W.Frag) (te : TE) : TE := fun σ H Q => te σ H fun x H1 => (∃ a xs, x = .ref a ∧ SqL K H1 a xs ∧ ∀ p, H1 p = none → Q (.ref p) (upd H1 p (.lst xs.reverse))) ∨ ∃ a xs, x = .ref a ∧ SqT K H1 a xs ∧ ∀ p, H1 p = none → Q (.ref p) (upd H1 p (.tup xs.reverse))
theorem pe_revLT {X : Cx} {e : Expr} {te : TE} {k : Nat} {p1 p2 p3 pos : Pos} (he : PE X e te) : PE X (.Subscript e (.Slice none none (some (.UnaryOp .USub (.Constant (.int 1) k p1) p2)) p3) pos) (tRevLT X.K te) := by
  refine ⟨fun pins s σ H Q I h => ?_⟩
  refine Subscript_ (thn (he.run pins s σ H _ I h) fun v s1 ⟨x, H1, I1, r1, q1⟩ => ?_)
  have hst : PO X (some (.UnaryOp .USub (.Constant (.int 1) k p1) p2)) (tPart (tUn (rU fun i => .int (-i)) (tC (.int 1)))) := po_some (pe_un un_neg pe_int)
  refine wpAny_Slice (thn (po_none.run pins s1 σ H1 (fun o H2 => o = none ∧ H2 = H1) I1 ⟨rfl, rfl⟩) fun vl s2 ⟨l, H2, I2, pl, el, e2⟩ => ?_)
  subst el e2
  refine thn (po_none.run pins s2 σ H2 (fun o H3 => o = none ∧ H3 = H2) I2 ⟨rfl, rfl⟩) fun vu s3 ⟨u, H3, I3, pu, eu, e3⟩ => ?_
  subst eu e3
  refine thn (hst.run pins s3 σ H3 (fun o H4 => o = some (-1) ∧ H4 = H3) I3 ⟨1, rfl, -1, rfl, rfl, rfl⟩) fun vs s4 ⟨o, H4, I4, ps, eo, e4⟩ => ?_
  subst eo e4
  have I5 : Inv X pins σ H4 { s4 with heap := s4.heap.push { cls := .type "slice", data := .fields #[vl, vu, vs] } } := I4.kept (t' := s4.toks) fun b ob q => Heap.get?_push_of_some _ q
  rcases q1 with ⟨a, xs, ex, hx, q⟩ | ⟨a, xs, ex, hx, q⟩
  · subst ex
    cases r1
    obtain ⟨its, r, ht, hz⟩ := I5.list hx
    have hlen := r.length
    show wpAny (model X.prog X.w) X.A (subscriptTail e (.Slice none none (some (.UnaryOp .USub (.Constant (.int 1) k p1) p2)) p3) (.ref a) (.ref s4.heap.objs.size)) (EP X pins σ Q) X.xe { s4 with heap := s4.heap.push { cls := .type "slice", data := .fields #[vl, vu, vs] } }
    refine tail_any (ops := [.ref a, .ref s4.heap.objs.size]) ht.isList.typeIs (PySem.slot_list_getitem.lookup) ?_ (by with_unfolding_all rfl)
    refine wpAny_getItem_list_slice ht.isList (Heap.IsSliceOf.new _ vl vu vs) pl pu ps (by decide) ?_ (by rw [List.size_toArray]; omega)
    rw [PySem.W.krv_pick]
    refine ⟨.ref _, _, I5.laid (t' := s4.toks) (o := .lst xs.reverse) (fun b ob q => Heap.get?_push_of_some _ q) (Nat.le_refl _) ?_, rfl, q _ (I5.hok.fresh (Nat.le_refl _))⟩
    exact ⟨by rw [List.length_reverse]; exact hz, _, 0, r.reverse, Heap.get?_push_size _ rfl⟩
  · subst ex
    cases r1
    cases pl
    cases pu
    obtain ⟨its, r, ht, hz⟩ := I5.tuple hx
    have hlen := r.length
    show wpAny (model X.prog X.w) X.A (subscriptTail e (.Slice none none (some (.UnaryOp .USub (.Constant (.int 1) k p1) p2)) p3) (.ref a) (.ref s4.heap.objs.size)) (EP X pins σ Q) X.xe { s4 with heap := s4.heap.push { cls := .type "slice", data := .fields #[.none, .none, vs] } }
    refine tail_any (ops := [.ref a, .ref s4.heap.objs.size]) ht.typeIs (PyProof.Rows.slot_tuple_getitem.lookup) ?_ (by with_unfolding_all rfl)
    refine getItem_tuple_rev ht (Heap.IsSliceOf.new _ .none .none vs) ps ?_ (by rw [List.size_toArray]; omega)
    refine ⟨.ref _, _, I5.laid (t' := s4.toks) (o := .tup xs.reverse) (fun b ob q => Heap.get?_push_of_some _ q) (Nat.le_refl _) ?_, rfl, q _ (I5.hok.fresh (Nat.le_refl _))⟩
    exact ⟨by rw [List.length_reverse]; exact hz, its.reverse, r.reverse, IsTup.new _ _⟩
end Mi
end

section
set_option maxRecDepth 100000
set_option maxHeartbeats 1000000
/-! Mi: enumerate of a tuple. -/
namespace Mi
open PySem PySem.Spec PyProof.Rows L2
open PySem.AutoSeq1 (wpAny_loadPart')
theorem newT (l : Addr) (items : Array Value) (n : Nat) (dct : Option Addr) (sl : Array (Option Value)) :
    Meets (Builtin.«enumerate.__new__» ⟨[.type "enumerate", .ref l], []⟩) (fun _ R s => s.heap.get? l = some { cls := .type "tuple", dict := dct, data := .seq items n, slots := sl } ∧
      R (.ok (.ret (.ref (s.heap.push { cls := .type "tuple_iterator", data := .fields #[.ref l, .int 0 0] }).objs.size)))
        { s with heap := (s.heap.push { cls := .type "tuple_iterator", data := .fields #[.ref l, .int 0 0] }).push { cls := .type "enumerate", data := .fields #[.none, .bool false, .ref s.heap.objs.size, rawInt 0, .none, .none] } }) :=
  .of_wp fun prog w A R s h => by
    obtain ⟨hp, g, d, tk, os⟩ := s; obtain ⟨hl, h⟩ := h
    have hsb := sub_enumerate
    have hL : Heap.IsTuple (Shared.heap ⟨hp, g, d, tk, os⟩) l items := ⟨_, hl, rfl, n, rfl⟩
    wp_walk using wpAny_loadPart' hl
    refine wpAny_stack_any fun st => wpAny_pure ?_
    split
    · rename_i c _ _ _ _ _
      cases (c == Value.type "enumerate")
      · wp_walk using wpAny_loadPart' hl, wpAny_pyIter_tuple hL
        exact ⟨_, rfl, h⟩
      · wp_walk using wpAny_loadPart' hl, wpAny_pyIter_tuple hL
        exact ⟨_, rfl, h⟩
    · wp_walk using wpAny_loadPart' hl, wpAny_pyIter_tuple hL
      exact ⟨_, rfl, h⟩
section
variable {prog : Program} {w : World} {A : Around} {E : Value → Shared → Prop} {s : Shared}
theorem enumT {l : Addr} {items : Array Value} {Q : Value → Shared → Prop} (hL : s.heap.IsTuple l items)
    (h : ∀ h', IsEnum h' (s.heap.objs.size + 1) s.heap.objs.size 0 .none → h'.IsTupleIter s.heap.objs.size l 0 →
      (∀ b o, s.heap.get? b = some o → h'.get? b = some o) → Q (.ref (s.heap.objs.size + 1)) { s with heap := h' }) :
    wpAny (model prog w) A (call (.type "enumerate") [.ref l]) Q E s := by
  obtain ⟨⟨c, dct, dt, sl⟩, hl, hc, n, hd⟩ := hL
  replace hc : c = .type "tuple" := hc
  replace hd : dt = .seq items n := hd
  subst hc hd
  refine callType_new F.called_enumerate (by decide) (F.typeCall_enumerate_1 _) (F.newCall_enumerate_1 _) (fun obj => F.args_object_init_2 obj _) F.entry_enumerate_new (newT l items n dct sl) ⟨hl, ?_⟩
  have hz : (s.heap.push { cls := .type "tuple_iterator", data := .fields #[.ref l, .int 0 0] }).objs.size = s.heap.objs.size + 1 := Heap.size_push ..
  show _ ∧ _
  rw [hz]
  have he : IsEnum ((s.heap.push { cls := .type "tuple_iterator", data := .fields #[.ref l, .int 0 0] }).push
      { cls := .type "enumerate", data := .fields #[.none, .bool false, .ref s.heap.objs.size, rawInt 0, .none, .none] }) (s.heap.objs.size + 1) s.heap.objs.size 0 .none := by
    have := Heap.get?_push_size (s.heap.push { cls := .type "tuple_iterator", data := .fields #[.ref l, .int 0 0] })
      (o := { cls := .type "enumerate", data := .fields #[.none, .bool false, .ref s.heap.objs.size, rawInt 0, .none, .none] }) rfl
    rw [hz] at this; exact this
  exact ⟨⟨_, he, rfl⟩, h _ he ⟨_, Heap.get?_push_of_some _ (Heap.get?_push_size _ rfl), rfl, rfl⟩ fun b o x => Heap.get?_push_of_some _ (Heap.get?_push_of_some _ x)⟩
theorem enum_endT {e it l : Addr} {i : Nat} {items : Array Value} {old : Value} {Q : Option Value → Shared → Prop} (hh : A.handled = none)
    (he : IsEnum s.heap e it i old) (hit : s.heap.IsTupleIter it l i) (hl : s.heap.IsTuple l items) (hx : items[i]? = none)
    (hQ : ∀ h', Heap.ExtBut it s.heap h' → Q none { s with heap := h' }) : wpAny (model prog w) A (pyNext (.ref e)) Q E s := by
  have hTy : s.TypeIs (.ref e) "enumerate" := ⟨_, he, rfl⟩
  unfold pyNext
  refine wpAny_bind (wpAny_attempt (wpAny_callSpecial?_slot (name := Str.ofString "__next__") hTy F.slot_enumerate_next (wpAny_call_entry F.slot_enumerate_next hTy F.entry_enumerate_next ?_ (F.args_enumerate_next_1 _))))
  show wpAny _ _ (field (.ref e) 2 >>= _) _ _ _
  refine wpAny_bind (wpAny_field he rfl (x := .ref it) rfl (wpAny_bind (wpAny_nextOf_tuple_end hh hit hl hx fun h' x he' hx' => ?_)))
  obtain ⟨o, ho, hc⟩ := hx'
  exact wpAny_bind (wpAny_isInstance (T := "StopIteration") (b := true) ⟨o, ho, hc⟩ isSubtype_stop (wpAny_pure (hQ _ he')))
end
/-- the tuple at a, each item in a new pair -/
def IteT (K : PySem.W.Frag) (a : Addr) : It :=
  ⟨fun i H => ∃ (xs : List V) (x : V), SqT K H a xs ∧ xs[i]? = some x, fun i H v H' => ∃ T x, v = .ref T ∧ H T = none ∧ H' = upd H T (.tup [.int (i : Nat), x]) ∧ ∀ xs, SqT K H a xs → xs[i]? = some x, fun i H => ∃ xs : List V, SqT K H a xs ∧ xs.length ≤ i⟩
theorem turnT {P : Program} {w : World} {K : PySem.W.Frag} {elts : List Expr} {kk : Nat} {tpos : Pos} (a e it : Addr) (hai : a ≠ it) (hae : e ≠ a) :
    Turn P w K (.Tuple elts kk tpos) (IteT K a) [e, it] e (fun i h => (∃ old, IsEnum h e it ((i : Nat) : Int) old) ∧ h.IsTupleIter it a i ∧ e ≠ it) where
  mem := by simp
  obj := fun i h st b hb => by
    obtain ⟨⟨old, he⟩, ⟨o, ho, hc, hd⟩, _⟩ := st
    have e' : b = e ∨ b = it := by simpa using hb
    rcases e' with z | z
    · rw [z]; exact ⟨_, he, fun v q => nomatch q⟩
    · rw [z]; exact ⟨o, ho, fun v q => by rw [hd] at q; cases q⟩
  keep := fun i h h' st k => let ⟨⟨old, he⟩, hi, hne⟩ := st; ⟨⟨old, k e (by simp) _ he⟩, hi.at fun o q => k it (by simp) o q, hne⟩
  item := by
    intro X hP hw hK hc i pins s σ H E I hf st hg
    subst hP hw hK
    obtain ⟨⟨old, he⟩, hit, hne⟩ := st
    obtain ⟨xs, x, hq, hx⟩ := hg
    obtain ⟨its, rv, p, hz⟩ := I.tuple hq
    obtain ⟨u, hu, ru⟩ := rv.get hx
    have hel : e < s.heap.objs.size := Heap.lt_size he
    have hil : it < s.heap.objs.size := by obtain ⟨_, q, _⟩ := hit; exact Heap.lt_size q
    have hD : Draws X.prog X.w X.A.in1 it [it, a] its.toArray.size (fun i v => its.toArray[i]? = some v) (fun i h => h.IsTupleIter it a i ∧ h.IsTuple a its.toArray) := Draws.tuple (show X.A.in1.handled = none from I.ok.hd hc) it a hai its.toArray
    have hlt : i < its.toArray.size := by
      have := (List.getElem?_eq_some_iff.mp hu).1
      simpa using this
    refine wpAny_pyNext_enum_itemD hD he ⟨hit, p⟩ hlt hne (by simp [hne, hae]) fun x' h' tk hPx ho hst' hT hsz hk => ?_
    have ex : x' = u := by
      have e1 : its.toArray[i]? = some u := by simpa using hu
      exact Option.some.inj (hPx.symm.trans e1)
    subst ex
    obtain ⟨hit', _⟩ := hst'
    refine ⟨_, rfl, wpAny_letOwnedTupleGo_enum (s := { s with heap := h', toks := tk + 1 }) ho fun h'' he' sb => ?_⟩
    have hT2 : h''.get? s.heap.objs.size = some { cls := .type "tuple", data := .seq #[.int i tk, x'] } := (sb.2 _ (Nat.ne_of_gt hel)).trans hT
    have new : ObjOk X.prog X.w (upd H s.heap.objs.size (.tup [.int (i : Nat), x])) h'' s.heap.objs.size (.tup [.int (i : Nat), x]) :=
      ⟨by show 2 ≤ sizeLine; decide, [.int i tk, x'], .cons ⟨_, rfl⟩ (.cons ru .nil), ⟨_, hT2, rfl, _, rfl⟩⟩
    have I1 : Inv X pins σ (upd H s.heap.objs.size (.tup [.int (i : Nat), x])) { s with heap := h'', toks := tk + 1 } :=
      I.turnedNew (ch := [e, it]) (fun b ob hb q => (sb.2 b (fun z => hb (by simp [z]))).trans (hk b ob (fun z => hb (by simp [z])) (fun z => hb (by simp [z])) q)) hf (Nat.le_refl _) new
    refine ⟨.ref s.heap.objs.size, _, I1, rfl, ⟨_, x, rfl, I.hok.fresh (Nat.le_refl _), rfl, fun ys hy => by rw [I.tuple_inj hy hq]; exact hx⟩, ⟨⟨x', ?_⟩, hit'.at fun o q => (sb.2 it (Ne.symm hne)).trans q, hne⟩, fun b hb => ?_⟩
    · have e1 : ((i + 1 : Nat) : Int) = (i : Int) + 1 := by omega
      rw [e1]; exact he'
    · have hb' : b < s.heap.objs.size := by
        have e' : b = e ∨ b = it := by simpa using hb
        rcases e' with z | z
        · rw [z]; exact hel
        · rw [z]; exact hil
      rw [upd_ne (Nat.ne_of_lt hb')]
      exact (hf b hb).1
  done := by
    intro X hP hw hK hc i pins s σ H E I hf st hg
    subst hP hw hK
    obtain ⟨⟨old, he⟩, hit, hne⟩ := st
    obtain ⟨xs, hq, hx⟩ := hg
    obtain ⟨its, rv, p, hz⟩ := I.tuple hq
    obtain ⟨f0, f1, f2, f3, f4, f5⟩ := hf it (by simp)
    have hl := rv.length
    refine enum_endT (I.ok.hd hc) he hit p (by simp; omega) fun h' eb => ⟨rfl, I.turned (t' := s.toks) (fun b o hb q => eb b o hb q) f0 f1 f3 f4 f5⟩
  self := fun A i s Q E st h => let ⟨⟨_, he⟩, _⟩ := st; wpAny_pyIter_enum he h
def iEnumA (K : PySem.W.Frag) (ta : TA) : TI := fun σ H R => ta σ H fun vs H1 => (∃ a xs, vs = [.ref a] ∧ SqL K H1 a xs ∧ R (Ite K a) H1) ∨ ∃ a xs, vs = [.ref a] ∧ SqT K H1 a xs ∧ R (IteT K a) H1
theorem pi_enumA {X : Cx} {e : Expr} {ta : TA} {p pos tpos : Pos} {elts : List Expr} {kk : Nat} (hg : Gl X "enumerate") (hm : X.mg "enumerate" = none) (ha : PA X [e] ta) (hs : starEach [e] X.env = [(false, eval e X.env)]) :
    PI X (.Tuple elts kk tpos) (.Call (.Name "enumerate" p) [e] [] pos) (iEnumA X.K ta) := by
  refine ⟨fun pins s σ H R I h => ?_⟩
  refine Call_ (ld_blt I hg hm boot_enumerate (PyProof.Rows.callWith_type1 (thn (ha.run pos pins s σ H _ I h) fun us s1 ⟨vs, H1, I1, r1, q1⟩ => ?_) hs rfl))
  have fp : ∀ b ∈ [s1.heap.objs.size + 1, s1.heap.objs.size], s1.heap.objs.size ≤ b := fun b hb => by
    have e' : b = s1.heap.objs.size + 1 ∨ b = s1.heap.objs.size := by simpa using hb
    omega
  rcases q1 with ⟨a, xs, ex, hq, q⟩ | ⟨a, xs, ex, hq, q⟩
  · subst ex
    cases r1 with
    | cons r rr =>
      cases rr
      cases r
      obtain ⟨its, rv, p', hz⟩ := I1.list hq
      refine call_enumerate_list p'.isList fun h' he hit hsz hk => wpAny_pyIter_enum he ?_
      have I2 : Inv X pins σ H1 { s1 with heap := h' } := I1.kept (t' := s1.toks) hk
      exact ⟨s1.heap.objs.size + 1, [s1.heap.objs.size + 1, s1.heap.objs.size], _, _, H1, rfl, I2, turn_enum a (s1.heap.objs.size + 1) s1.heap.objs.size, ⟨⟨.none, he⟩, hit, Nat.succ_ne_self _⟩, fun b hb => I1.fpOk (fp b hb) (I1.hok.fresh (fp b hb)), q⟩
  · subst ex
    cases r1 with
    | cons r rr =>
      cases rr
      cases r
      obtain ⟨its, rv, p', hz⟩ := I1.tuple hq
      have hlt : a < s1.heap.objs.size := p'.lt
      refine enumT p' fun h' he hit hk => wpAny_pyIter_enum he ?_
      have I2 : Inv X pins σ H1 { s1 with heap := h' } := I1.kept (t' := s1.toks) hk
      exact ⟨s1.heap.objs.size + 1, [s1.heap.objs.size + 1, s1.heap.objs.size], _, _, H1, rfl, I2, turnT a (s1.heap.objs.size + 1) s1.heap.objs.size (Nat.ne_of_lt hlt) (fun z => Nat.lt_asymm hlt (by rw [← z]; exact Nat.lt_succ_self _)), ⟨⟨.none, he⟩, hit, Nat.succ_ne_self _⟩, fun b hb => I1.fpOk (fp b hb) (I1.hok.fresh (fp b hb)), q⟩
theorem walk_enumT {K : PySem.W.Frag} {a : Addr} {xs : List V} : Walk (IteT K a) xs.length (fun H => SqT K H a xs) (YPair (fun i => some (.int (i : Nat))) (fun i => xs[i]?)) := by
  refine ⟨fun i _ hi q => ⟨xs, xs[i], q, by simp [hi]⟩, fun _ q => ⟨xs, q, Nat.le_refl _⟩, fun i H v H' _ q y => ?_⟩
  obtain ⟨T, x, h1, h2, h3, h4⟩ := y
  exact ⟨T, .int (i : Nat), x, h1, h2, h3, rfl, h4 xs q⟩
end Mi
end

section
set_option maxRecDepth 100000
set_option maxHeartbeats 1000000
/-! Mi: slices, isinstance, lists changed. -/
namespace Mi
open PySem PySem.Spec PyProof.Rows L2
section
variable {F : Fx} {X : Cx}
/-! ### slices -/
def tO (F : Fx) (m : M (Option Int)) : TO := WP F m fun _ _ _ _ _ b o => b = o
theorem po_imp {e : Option Expr} {t t' : TO} (h : PO X e t) (i : ∀ σ H Q, t' σ H Q → t σ H Q) : PO X e t' := ⟨fun pins s σ H Q I q => h.run pins s σ H Q I (i _ _ _ q)⟩
theorem gl_ono : PO X none (tO F (M.ret none)) := by
  refine po_imp po_none fun σ H Q ⟨t, e, S, a, e', hm, k⟩ => ?_
  obtain ⟨rfl, rfl⟩ := ret_ok hm
  exact k _ _ (Pst.refl S t) rfl
theorem gl_oyes (ok : F.Ok) {e : Expr} {m : M EV} (h : PE X e (tE F m)) : PO X (some e) (tO F ((kp m).bnd fun x => M.of (someI x))) := by
  refine po_imp (po_some (pe_kept ok h)) fun σ H Q ⟨t, e, S, a, e', hm, k⟩ => ?_
  obtain ⟨d, e1, h1, h2⟩ := bnd_ok hm
  obtain ⟨h3, rfl⟩ := of_ok h2
  refine ⟨t, e, S, d, e1, h1, fun v H1 P1 r1 => ?_⟩
  cases d with
  | int i =>
    cases h3
    cases r1
    exact ⟨i, rfl, k _ _ P1 rfl⟩
  | _ => cases h3
theorem gl_sl (ok : F.Ok) (hK : X.K = F.K) {e : Expr} {lo hi : Option Expr} {p2 pos : Pos} {m : M (EV × Lks)} {ml mh : M (Option Int)} (he : PE X e (tK F m)) (hl : PO X lo (tO F ml)) (hh : PO X hi (tO F mh)) :
    PE X (.Subscript e (.Slice lo hi none p2) pos) (tE F (m.bnd fun p => unl p.2 (ml.bnd fun l => mh.bnd fun h => M.of (slD p.1.dat l h)))) := by
  refine pe_imp (pe_slice p_sl he hl hh) fun σ H Q ⟨t, e, S, ev, e', hm, k⟩ => ?_
  obtain ⟨p, e1, hp, h2⟩ := bnd_ok hm
  obtain ⟨e2', h3, rfl⟩ := unl_ok h2
  obtain ⟨l, e2, h4, h5⟩ := bnd_ok h3
  obtain ⟨h, e3, h6, h7⟩ := bnd_ok h5
  obtain ⟨hg, rfl⟩ := of_ok h7
  refine ⟨t, e, S, p, e1, hp, fun x H1 P1 ⟨r1, l1⟩ => ⟨P1.tabs, e1, P1.st, l, e2, h4, fun b H2 P2 hb => ⟨P2.tabs, e2, P2.st, h, e3, h6, fun c H3 P3 hc => ?_⟩⟩⟩
  subst hb hc
  have P23 := P2.trans P3
  have P := unlock_pst S (P1.trans P23) (l1.more P23.evo)
  refine ⟨p.1.dat, ev, by rw [hK]; exact (r1.more S P1 P23).rb, hg, fun v H4 o => ?_⟩
  rw [hK] at o
  exact k v H4 (P.grow ok o.1) (o.rev P)
theorem gl_rev (ok : F.Ok) (hK : X.K = F.K) {e : Expr} {j : Nat} {p1 p2 p3 pos : Pos} {m : M (EV × Lks)} (he : PE X e (tK F m)) :
    PE X (.Subscript e (.Slice none none (some (.UnaryOp .USub (.Constant (.int 1) j p1) p2)) p3) pos) (tE F (m.bnd fun p => unl p.2 (M.of (revD p.1.dat)))) := by
  refine pe_imp (pe_revLT he) fun σ H Q h => ?_
  obtain ⟨t, e, S, ev, e', hm, k⟩ := h
  obtain ⟨p, e1, hp, h2⟩ := bnd_ok hm
  obtain ⟨e2', h3, rfl⟩ := unl_ok h2
  obtain ⟨hg, rfl⟩ := of_ok h3
  refine ⟨t, e, S, p, e1, hp, fun x H1 P1 ⟨r1, l1⟩ => ?_⟩
  have P := unlock_pst S P1 l1
  have r := r1.rb
  revert hg
  cases hd : p.1.dat with
  | list xs =>
    intro hg
    cases hg
    rw [hd] at r
    obtain ⟨a, vs, e1, q1, r2⟩ := r.list
    exact .inl ⟨a, vs, e1, by rw [hK]; exact q1, fun q hq => k _ _ (P.grow ok (Grow.upd hq)) ((out_fr hq r2.reverse).rev P)⟩
  | tuple xs =>
    intro hg
    cases hg
    rw [hd] at r
    obtain ⟨a, vs, e1, q1, r2⟩ := r.tup
    exact .inr ⟨a, vs, e1, by rw [hK]; exact q1, fun q hq => k _ _ (P.grow ok (Grow.upd hq)) ((out_tup hq r2.reverse).rev P)⟩
  | _ => intro hg; cases hg
/-! ### isinstance -/
theorem gl_isi (ok : F.Ok) (hK : X.K = F.K) {a : Expr} {x : Str} {p1 p2 pos : Pos} {t : Ty} {m : M (EV × Lks)} (ha : PE X a (tK F m)) (hg : Gl X "isinstance") (hm : X.mg "isinstance" = none) (hx : PE X (.Name x p2) (tC (.ty (tyName t))))
    (he : starEach [a, .Name x p2] X.env = (false, eval a X.env) :: starEach [.Name x p2] X.env) (he2 : starEach [.Name x p2] X.env = (false, eval (.Name x p2) X.env) :: starEach [] X.env) (hpl : (backTo pos (starEach [.Name x p2] X.env)).any (·.1) = false) :
    PE X (.Call (.Name "isinstance" p1) [a, .Name x p2] [] pos) (tE F (m.bnd fun p => unl p.2 (M.of (some (.val (.bool (tyD t p.1.dat))))))) := by
  refine pe_imp (pe_callB (p_isi t) hg hm (by decide +kernel) (pa_cons ha (pa_cons hx pa_nil he2) he) (by decide) (by decide) he hpl) fun σ H Q ⟨t, e, S, ev, e', hm, k⟩ => ?_
  obtain ⟨p, e1, hp, h2⟩ := bnd_ok hm
  obtain ⟨e2', h3, rfl⟩ := unl_ok h2
  obtain ⟨h4, rfl⟩ := of_ok h3
  cases h4
  refine ⟨t, e, S, p, e1, hp, fun x H1 P1 ⟨r1, l1⟩ => ⟨x, rfl, p.1.dat, by rw [hK]; exact r1.rb, ?_⟩⟩
  exact k _ _ (unlock_pst S P1 l1) (RD.bl _)

/-! ### lists changed -/
/-- the list of slot i is changed -/
theorem chg_pst (ok : F.Ok) {e e1 : En} {σ : L2.St} {H H1 : Hp} {i : Nat} {a : Addr} {vs ws : List V} {xs ys : List D} {s s' : Sl} (S : StOk F e σ H) (P : Pst F e σ H e1 H1) (hi : e1.g i = s) (hs : (s = .own xs ∧ s' = .own ys) ∨ (s = .lent xs ∧ s' = .lent ys)) (hσ : σ[i]? = some (some (.ref a)))
    (ha : H1 a = some (.lst vs)) (r : RDs F.K H1 ws ys) : Pst F e σ H (e1.set i s') (upd H1 a (.lst ws)) := by
  have hmt : (e1.g i).mt = true := by rcases hs with ⟨z, _⟩ | ⟨z, _⟩ <;> rw [hi, z] <;> rfl
  have hmt' : s'.mt = true := by rcases hs with ⟨_, z⟩ | ⟨_, z⟩ <;> rw [z] <;> rfl
  have hl : i < e1.length := En.g_lt (by intro z; rw [z] at hmt; cases hmt)
  have ne : ∀ b o, H1 b = some o → (∀ us, o ≠ .lst us) → b ≠ a := fun b o q n z => by
    rw [z, ha] at q
    exact n vs (Option.some.inj q).symm
  have per : Per H1 (upd H1 a (.lst ws)) := ⟨fun b us q => by rw [upd_ne (ne b _ q (by intro _ z; cases z))]; exact q, fun b o u q => by rw [upd_ne (ne b _ q (by intro _ z; cases z))]; exact q⟩
  have lst : ∀ {x : Option (Option V)} {zs : List D}, x ≠ some (some (.ref a)) → RLst F.K H1 x zs → RLst F.K (upd H1 a (.lst ws)) x zs := fun {x zs} n ⟨b, us, h1, h2, h3⟩ => by
    refine ⟨b, us, h1, ?_, RDs.per per h3⟩
    rw [upd_ne (fun z => n (by rw [h1, z]))]
    exact h2
  have keepSl : ∀ j, j ≠ i → RSl F (upd H1 a (.lst ws)) σ[j]? (e1.g j) := fun j hj => by
    have q := P.st.sl j
    have na : (e1.g j).ly = true → σ[j]? ≠ some (some (.ref a)) := fun hy z => P.st.ap i j a a (Ne.symm hj) (mt_ly hmt) hy hσ z rfl
    cases hz : e1.g j with
    | no => trivial
    | val d => rw [hz] at q; obtain ⟨v, h1, h2⟩ := q; exact ⟨v, h1, RD.per per h2⟩
    | fn g => rw [hz] at q; exact q
    | clo np ns b cs =>
      rw [hz] at q
      obtain ⟨f, h1, h2⟩ := q
      refine ⟨f, h1, ok.clo _ _ _ _ _ _ _ (fun b o h n _ => ?_) h2⟩
      rw [upd_ne (ne b o h n)]
      exact h
    | own zs => rw [hz] at q na; exact lst (na rfl) q
    | lent zs => rw [hz] at q na; exact lst (na rfl) q
    | lock zs => rw [hz] at q na; exact lst (na rfl) q
  refine ⟨⟨by rw [List.length_set]; exact P.st.len, fun j => ?_, fun j k b c hjk h1 h2 h3 h4 => ?_⟩, ⟨fun j h => ?_, fun j h => ?_, fun j zs h => ?_, fun j h => ?_, fun j h => ?_⟩, ⟨fun b o q n tt => ?_, fun b q => ?_⟩, fun p hp => ?_⟩
  · by_cases hj : i = j
    · subst hj
      rw [En.g_self hl]
      have hr : RLst F.K (upd H1 a (.lst ws)) σ[i]? ys := ⟨a, ws, hσ, upd_same, RDs.per per r⟩
      rcases hs with ⟨_, z⟩ | ⟨_, z⟩ <;> (rw [z]; exact hr)
    · rw [En.g_ne hj]
      exact keepSl j (Ne.symm hj)
  · have h1' : (e1.g j).ly = true := by
      by_cases hj : i = j
      · subst hj; exact mt_ly hmt
      · rw [En.g_ne hj] at h1; exact h1
    have h2' : (e1.g k).ly = true := by
      by_cases hk : i = k
      · subst hk; exact mt_ly hmt
      · rw [En.g_ne hk] at h2; exact h2
    exact P.st.ap j k b c hjk h1' h2' h3 h4
  · by_cases hj : i = j
    · subst hj; exact P.evo.mt i hmt
    · rw [En.g_ne hj] at h; exact P.evo.mt j h
  · by_cases hj : i = j
    · subst hj; exact P.evo.ly i (mt_ly hmt)
    · rw [En.g_ne hj] at h; exact P.evo.ly j h
  · by_cases hj : i = j
    · subst hj
      have := P.evo.lk i zs h
      rw [this] at hmt
      cases hmt
    · rw [En.g_ne hj]; exact P.evo.lk j zs h
  · by_cases hj : i = j
    · subst hj
      rw [En.g_self hl] at h
      refine P.evo.ln i ?_
      rw [hi]
      rcases hs with ⟨_, z⟩ | ⟨z, _⟩
      · rw [z] at h; cases h
      · rw [z]; rfl
    · rw [En.g_ne hj] at h; exact P.evo.ln j h
  · by_cases hj : i = j
    · subst hj
      rw [En.g_self hl] at h
      refine P.evo.ow i ?_
      rw [hi]
      rcases hs with ⟨z, _⟩ | ⟨_, z⟩
      · rw [z]; rfl
      · rw [z] at h; cases h
    · rw [En.g_ne hj] at h; exact P.evo.ow j h
  · rw [upd_ne (fun z => n ⟨i, P.evo.mt i hmt, by rw [z]; exact hσ⟩)]
    exact P.ext.keep b o q n tt
  · by_cases z : b = a
    · rw [z, upd_same] at q; cases q
    · rw [upd_ne z] at q; exact P.ext.trk b q
  · obtain ⟨ps, h1, h2, h3⟩ := P.tabs p hp
    refine ⟨ps, by rw [upd_ne (ne _ _ h1 (by intro _ z; cases z))]; exact h1, h2, fun pos cv hc => ?_⟩
    obtain ⟨c, e1, e2⟩ := h3 pos cv hc
    exact ⟨c, e1, by rw [upd_ne (ne _ _ e2 (by intro _ z; unfold LamX.CodeO at z; cases z))]; exact e2⟩
/-- what a change of a slot's list says -/
theorem chg_ok {i : Nat} {f : List D → Option (List D × D)} {e e' : En} {ev : EV} (h : chg i f e = some (.ok ev e')) :
    ∃ s s' xs ys d, e.g i = s ∧ ((s = .own xs ∧ s' = .own ys) ∨ (s = .lent xs ∧ s' = .lent ys)) ∧ f xs = some (ys, d) ∧ ev = .val d ∧ e' = e.set i s' := by
  unfold chg at h
  split at h
  · rename_i xs hx
    split at h
    · rename_i ys d hf
      cases h
      exact ⟨_, _, xs, ys, d, hx, .inl ⟨rfl, rfl⟩, hf, rfl, rfl⟩
    · cases h
  · rename_i xs hx
    split at h
    · rename_i ys d hf
      cases h
      exact ⟨_, _, xs, ys, d, hx, .inr ⟨rfl, rfl⟩, hf, rfl, rfl⟩
    · cases h
  · cases h
theorem lst_of {H : Hp} {x : Option (Option V)} {s : Sl} {xs : List D} (r : RSl F H x s) (hs : s = .own xs ∨ s = .lent xs) : RLst F.K H x xs := by
  rcases hs with z | z <;> (subst z; exact r)
theorem either {s s' : Sl} {xs ys : List D} (hs : (s = .own xs ∧ s' = .own ys) ∨ (s = .lent xs ∧ s' = .lent ys)) : s = .own xs ∨ s = .lent xs := hs.imp And.left And.left
theorem mt_slot {σ : L2.St} {H : Hp} {e : En} {i : Nat} (S : StOk F e σ H) (h : (e.g i).mt = true) : ∃ a vs, σ[i]? = some (some (.ref a)) ∧ H a = some (.lst vs) := by
  have q := S.sl i
  cases hz : e.g i with
  | own xs => rw [hz] at q; obtain ⟨a, vs, h1, h2, _⟩ := q; exact ⟨a, vs, h1, h2⟩
  | lent xs => rw [hz] at q; obtain ⟨a, vs, h1, h2, _⟩ := q; exact ⟨a, vs, h1, h2⟩
  | _ => rw [hz] at h; cases h
theorem chk_ok {i : Nat} {e e' : En} {u : Unit} (h : chk i e = some (.ok u e')) : (e.g i).mt = true ∧ e' = e := by
  unfold chk at h
  split at h
  · rename_i xs hx
    cases h
    exact ⟨by rw [hx]; rfl, rfl⟩
  · rename_i xs hx
    cases h
    exact ⟨by rw [hx]; rfl, rfl⟩
  · cases h
/-- x.m(e), x the name of a list of one's own -/
theorem gl_chg1 (ok : F.Ok) {x name : Str} {i : Nat} {a : Expr} {p1 apos cpos : Pos} {m : M EV} {f : D → List D → Option (List D × D)} {r : V → List V → Hp → VK → Prop}
    (hme : ∀ {t : TA}, PA X [a] t → PE X (.Call (.Attribute (.Name x p1) name apos) [a] [] cpos) (tBM X.K "list" r (tVar i) t)) (ha : PE X a (tE F m)) (hs : starEach [a] X.env = (false, eval a X.env) :: starEach [] X.env)
    (hr : ∀ (l : Addr) (vs : List V) (v : V) (d : D) (xs ys : List D) (z : D) (H : Hp) (Q : VK), H l = some (.lst vs) → RDs F.K H vs xs → RD F.K H v d → f d xs = some (ys, z) → (∀ ws w, RDs F.K H ws ys → Per H (upd H l (.lst ws)) → RD F.K H w z → Q w (upd H l (.lst ws))) → r (.ref l) [v] H Q) :
    PE X (.Call (.Attribute (.Name x p1) name apos) [a] [] cpos) (tE F ((chk i).bnd fun _ => (kp m).bnd fun d => chg i (f d))) := by
  refine pe_imp (hme (pa_cons (pe_kept ok ha) pa_nil hs)) fun σ H Q ⟨t, e, S, ev, e', hm, k⟩ => ?_
  obtain ⟨_, e0, h0, h1⟩ := bnd_ok hm
  obtain ⟨hmt, rfl⟩ := chk_ok h0
  obtain ⟨d, e1, h3', h2⟩ := bnd_ok h1
  obtain ⟨s, s', xs, ys, z, hi, hss, hf, rfl, rfl⟩ := chg_ok h2
  obtain ⟨l, us, hσ, hl⟩ := mt_slot S hmt
  refine ⟨.ref l, hσ, .inl ⟨rfl, us, SqL.of hl⟩, t, e0, S, d, e1, h3', fun v H1 P1 r1 => ?_⟩
  have q := P1.st.sl i
  rw [hi] at q
  obtain ⟨b, vs, h3, h4, h5⟩ := lst_of q (either hss)
  rw [hσ] at h3
  cases h3
  refine hr l vs v d xs ys z H1 Q h4 h5 r1 hf fun ws w r2 per r3 => ?_
  exact k _ _ (chg_pst ok S P1 hi hss hσ h4 r2) (RD.per per r3)
theorem per_upd {H : Hp} {l : Addr} {vs ws : List V} (h : H l = some (.lst vs)) : Per H (upd H l (.lst ws)) := by
  have ne : ∀ b o, H b = some o → (∀ us, o ≠ .lst us) → b ≠ l := fun b o q n z => by
    rw [z, h] at q
    exact n vs (Option.some.inj q).symm
  exact ⟨fun b us q => by rw [upd_ne (ne b _ q (by intro _ z; cases z))]; exact q, fun b o u q => by rw [upd_ne (ne b _ q (by intro _ z; cases z))]; exact q⟩
/-- x.m(), x the name of a list of one's own -/
theorem gl_chg0 (ok : F.Ok) {x name : Str} {i : Nat} {p1 apos cpos : Pos} {f : List D → Option (List D × D)} {r : V → List V → Hp → VK → Prop}
    (hme : PE X (.Call (.Attribute (.Name x p1) name apos) [] [] cpos) (tBM0 X.K "list" r (tVar i)))
    (hr : ∀ (l : Addr) (vs : List V) (xs ys : List D) (z : D) (H : Hp) (Q : VK), H l = some (.lst vs) → RDs F.K H vs xs → f xs = some (ys, z) → (∀ ws w, RDs F.K H ws ys → Per H (upd H l (.lst ws)) → RD F.K H w z → Q w (upd H l (.lst ws))) → r (.ref l) [] H Q) :
    PE X (.Call (.Attribute (.Name x p1) name apos) [] [] cpos) (tE F (chg i f)) := by
  refine pe_imp hme fun σ H Q ⟨t, e, S, ev, e', hm, k⟩ => ?_
  obtain ⟨s, s', xs, ys, z, hi, hss, hf, rfl, rfl⟩ := chg_ok hm
  have q := S.sl i
  rw [hi] at q
  obtain ⟨l, vs, hσ, h4, h5⟩ := lst_of q (either hss)
  refine ⟨.ref l, hσ, .inl ⟨rfl, vs, SqL.of h4⟩, hr l vs xs ys z H Q h4 h5 hf fun ws w r2 per r3 => ?_⟩
  exact k _ _ (chg_pst ok S (Pst.refl S t) hi hss hσ h4 r2) (RD.per per r3)
theorem r_app (l : Addr) (vs : List V) (v : V) (d : D) (xs ys : List D) (z : D) (H : Hp) (Q : VK) (hl : H l = some (.lst vs)) (r : RDs F.K H vs xs) (rd : RD F.K H v d) (hf : appF d xs = some (ys, z)) (k : ∀ ws w, RDs F.K H ws ys → Per H (upd H l (.lst ws)) → RD F.K H w z → Q w (upd H l (.lst ws))) : rAppend (.ref l) [v] H Q := by
  unfold appF at hf
  split at hf
  · rename_i h
    cases hf
    refine ⟨l, vs, v, rfl, rfl, hl, ?_, k _ _ (r.append (.cons rd .nil)) (per_upd hl) .non⟩
    rw [r.length]
    exact lenOk_lt h
  · cases hf
theorem r_pop (l : Addr) (vs : List V) (xs ys : List D) (z : D) (H : Hp) (Q : VK) (hl : H l = some (.lst vs)) (r : RDs F.K H vs xs) (hf : popF xs = some (ys, z)) (k : ∀ ws w, RDs F.K H ws ys → Per H (upd H l (.lst ws)) → RD F.K H w z → Q w (upd H l (.lst ws))) : rPop (.ref l) [] H Q := by
  unfold popF at hf
  split at hf
  · rename_i x h
    cases hf
    rw [List.getLast?_eq_getElem?, ← r.length] at h
    obtain ⟨v, h1, h2⟩ := r.get h
    exact ⟨l, vs, v, rfl, rfl, hl, h1, k _ _ r.dropLast (per_upd hl) h2⟩
  · cases hf
/-! extend: a list or a tuple -/
theorem extLW (l b : Addr) (its its2 : Array Value) (n n2 : Nat) (dd : Option Addr) (sl : Array (Option Value)) (h0 : ¬(!its.isEmpty && Builtin.List.listTooLong (its.size + its2.size)) = true) (h1 : its.size ≤ sizeLine) (h2 : its.size + its2.size ≤ sizeLine + 1) :
    Meets (Builtin.«list.extend» ⟨[.ref l, .ref b], []⟩) (fun _ R s => s.heap.get? l = some { cls := .type "list", data := .seq its n } ∧ s.heap.get? b = some { cls := .type "tuple", dict := dd, data := .seq its2 n2, slots := sl } ∧ R (.ok (.ret Value.none)) { s with heap := s.heap.update l (Obj.mapSeq fun x => x ++ its2) }) :=
  .of_wp fun prog w A R s h => by
    obtain ⟨hp, g, d, tk, os⟩ := s
    obtain ⟨hl, hb, h⟩ := h
    have f1 := AutoSeq1.idx_int
    have f2 := AutoSeq1.sub_tuple_tuple
    have f3 := AutoSeq1.sub_list_list
    have f4 := AutoSeq1.sub_tuple_list
    have f5 := AutoSeq1.sub_list_tuple
    have hz : (its ++ its2).size ≤ sizeLine + 1 := by rw [Array.size_append]; exact h2
    wp_walk using (wpAny_updateSeq hl rfl (hz := h1) (_hz' := hz)), AutoSeq1.wpAny_loadPart' hl, AutoSeq1.wpAny_loadPart' hb
    exact ⟨_, rfl, h⟩
def rExtA (K : PySem.W.Frag) : V → List V → Hp → VK → Prop := fun x vs H Q => ∃ l b xs zs, x = .ref l ∧ vs = [.ref b] ∧ H l = some (.lst xs) ∧ (Rd H b (.lst zs) ∨ SqT K H b zs) ∧ xs.length + zs.length ≤ sizeLine ∧ Q .non (upd H l (.lst (xs ++ zs)))
theorem mt_extA : MtM X "list.extend" (rExtA X.K) := by
  intro pins s σ H x vs v us Q I rx rv h
  obtain ⟨l, b, xs, zs, rfl, rfl, hH, hB, hz, q⟩ := h
  cases rx
  obtain ⟨u, rfl, ru⟩ := rv.one
  cases ru
  obtain ⟨z, its, n, r, hl, e⟩ := I.lstM hH
  have long : ∀ its2 : List Value, xs.length + its2.length ≤ sizeLine → ¬ (!its.toArray.isEmpty && Builtin.List.listTooLong (its.toArray.size + its2.toArray.size)) = true := fun its2 hs => by
    have h2 : its.toArray.size + its2.toArray.size ≤ sizeLine := by rw [List.size_toArray, List.size_toArray, ← hl]; exact hs
    rw [notLongL h2, Bool.and_false]
    exact Bool.false_ne_true
  have fin : ∀ its2 : List Value, Vals zs its2 → ∃ v H', Inv X pins σ H' { s with heap := s.heap.update l (Obj.mapSeq fun x => x ++ its2.toArray) } ∧ RelV v Value.none ∧ Q v H' := fun its2 r2 =>
    ⟨.non, _, I.lset (its' := its ++ its2) (t' := s.toks) hH e (by simp) (r.append r2) (by rw [List.length_append]; exact hz), rfl, q⟩
  rcases hB with hB | hB
  · obtain ⟨z2, its2, n2, r2, e2⟩ := hB.ok I.hok
    have h2 := r2.length
    refine call_meets F.slot_list_extend ⟨_, e, rfl⟩ F.entry_list_extend (F.args_list_extend_2 _ _)
      (AutoSeq1.list_extend_list_list_0 l its.toArray n b its2.toArray n2 (long its2 (by omega)) (by rw [List.size_toArray]; omega) (by rw [List.size_toArray, List.size_toArray]; omega)) ⟨e, e2, fin its2 r2⟩
  · obtain ⟨its2, r2, ⟨⟨c2, d2, t2, sl2⟩, e2, q1, n2, q2⟩, z2⟩ := I.tuple hB
    simp only at q1 q2
    subst q1 q2
    have h2 := r2.length
    refine call_meets F.slot_list_extend ⟨_, e, rfl⟩ F.entry_list_extend (F.args_list_extend_2 _ _)
      (extLW l b its.toArray its2.toArray n n2 d2 sl2 (long its2 (by omega)) (by rw [List.size_toArray]; omega) (by rw [List.size_toArray, List.size_toArray]; omega)) ⟨e, e2, fin its2 r2⟩
theorem r_ext (l : Addr) (vs : List V) (v : V) (d : D) (xs ys : List D) (z : D) (H : Hp) (Q : VK) (hl : H l = some (.lst vs)) (r : RDs F.K H vs xs) (rd : RD F.K H v d) (hf : extF d xs = some (ys, z)) (k : ∀ ws w, RDs F.K H ws ys → Per H (upd H l (.lst ws)) → RD F.K H w z → Q w (upd H l (.lst ws))) : rExtA F.K (.ref l) [v] H Q := by
  unfold extF at hf
  split at hf
  · rename_i zs h
    split at hf
    · rename_i hz
      cases hf
      have hz' := lenOk_le hz
      cases rd with
      | tup h1 h2 =>
        cases h
        exact ⟨l, _, vs, _, rfl, rfl, hl, .inr h1, by rw [r.length, h2.length]; exact hz', k _ _ (r.append h2) (per_upd hl) .non⟩
      | lst h1 h2 =>
        cases h
        exact ⟨l, _, vs, _, rfl, rfl, hl, .inl h1.rd, by rw [r.length, h2.length]; exact hz', k _ _ (r.append h2) (per_upd hl) .non⟩
      | _ => cases h
    · cases hf
  · cases hf
/-! ### a op b op c -/
theorem REV.grow {H H1 H2 : Hp} {e : En} {σ : L2.St} {v : V} {ev : EV} (g : Grow H1 H2) (r : REV F H e σ H1 v ev) : REV F H e σ H2 v ev := by
  cases ev with
  | val d => exact RD.per g.per r
  | fr xs => obtain ⟨a, vs, q1, q2, q3, q4⟩ := r; exact ⟨a, vs, q1, g _ _ q2, RDs.per g.per q3, q4⟩
  | bor xs => obtain ⟨a, vs, q1, q2, q3, q4⟩ := r; exact ⟨a, vs, q1, g _ _ q2, RDs.per g.per q3, q4⟩
def chnM (ma mb mc : M EV) (g1 g2 : D → D → Option Bool) : M EV := ma.bnd fun x => mb.bnd fun y => (M.of (g1 x.dat y.dat)).bnd fun k =>
      if k then mc.bnd fun z => M.of ((g2 y.dat z.dat).map fun c => .val (.bool c)) else M.ret (.val (.bool false))
theorem chn_imp (ok : F.Ok) {ma mb mc : M EV} {g1 g2 : D → D → Option Bool} {σ : L2.St} {H : Hp} {Q : VK} (h : tE F (chnM ma mb mc g1 g2) σ H Q) : tChain (rOp F.K (blV g1)) (rOp F.K (blV g2)) (tE F ma) (tE F mb) (tE F mc) σ H Q := by
  obtain ⟨t, e, S, ev, e', hm, k⟩ := h
  obtain ⟨x, e1, h1, h2⟩ := bnd_ok hm
  obtain ⟨y, e2, h3, h4⟩ := bnd_ok h2
  obtain ⟨b, e2', h5, h6⟩ := bnd_ok h4
  obtain ⟨h7, rfl⟩ := of_ok h5
  refine ⟨t, e, S, x, e1, h1, fun vx H1 P1 r1 => ⟨P1.tabs, e1, P1.st, y, e2, h3, fun vy H2 P2 r2 => ⟨x.dat, y.dat, .val (.bool b), (r1.more S P1 P2).rb, r2.rb, by unfold blV; rw [h7]; rfl, fun z H3 o => ?_⟩⟩⟩
  have hz : z = .bl b := by
    cases (show RD F.K H3 z (.bool b) from o.2)
    rfl
  have P3 := (P1.trans P2).grow ok o.1
  refine ⟨b, hz, ?_⟩
  cases b with
  | false =>
    rw [if_neg Bool.false_ne_true] at h6
    obtain ⟨rfl, rfl⟩ := ret_ok h6
    exact iteF (k _ _ P3 (RD.bl false))
  | true =>
    rw [if_pos rfl] at h6
    obtain ⟨zz, e3, h8, h9⟩ := bnd_ok h6
    obtain ⟨h10, rfl⟩ := of_ok h9
    refine iteT ⟨P3.tabs, e2, P3.st, zz, e3, h8, fun vz H4 P4 r4 => ⟨y.dat, zz.dat, ev, ?_, r4.rb, h10, fun v H5 o5 => ?_⟩⟩
    · exact ((r2.grow o.1).more P1.st (P2.grow ok o.1) P4).rb
    · have P5 := P3.trans P4
      exact k v H5 (P5.grow ok o5.1) (o5.rev P5)
theorem gl_chn (ok : F.Ok) {a b c : Expr} {o1 o2 : CmpOp} {pos : Pos} {ma mb mc : M EV} {g1 g2 : D → D → Option Bool} (h1 : OpR X (compareOp o1) (rOp F.K (blV g1))) (h2 : OpR X (compareOp o2) (rOp F.K (blV g2))) (ha : PE X a (tE F ma)) (hb : PE X b (tE F mb)) (hc : PE X c (tE F mc)) (hm : lastMarks [o1, o2] [b, c] = false) :
    PE X (.Compare a [o1, o2] [b, c] pos) (tE F (chnM ma mb mc g1 g2)) := pe_imp (pe_chain h1 h2 ha hb hc hm) fun σ H Q h => chn_imp ok h
theorem gl_tchn (ok : F.Ok) {a b c : Expr} {o1 o2 : CmpOp} {pos : Pos} {ma mb mc : M EV} {g1 g2 : D → D → Option Bool} (h1 : OpR X (compareOp o1) (rOp F.K (blV g1))) (h2 : OpR X (compareOp o2) (rOp F.K (blV g2))) (ha : PE X a (tE F ma)) (hb : PE X b (tE F mb)) (hc : PE X c (tE F mc)) (hm : lastMarks [o1, o2] [b, c] = false) :
    PT X (.Compare a [o1, o2] [b, c] pos) (tB F ((chnM ma mb mc g1 g2).bnd fun v => M.of (truth v.dat))) := by
  refine pt_imp (pt_chain h1 h2 ha hb hc hm) fun σ H Q ⟨t, e, S, b', e', hm', k⟩ => ?_
  obtain ⟨v, e1, q1, q2⟩ := bnd_ok hm'
  obtain ⟨q3, rfl⟩ := of_ok q2
  refine chn_imp ok ⟨t, e, S, v, e1, q1, fun x H1 P1 r1 => ?_⟩
  have hv : ∃ c, v = .val (.bool c) := by
    obtain ⟨x1, e2, h1, h2⟩ := bnd_ok q1
    obtain ⟨x2, e3, h3, h4⟩ := bnd_ok h2
    obtain ⟨x3, e4, h5, h6⟩ := bnd_ok h4
    split at h6
    · obtain ⟨x4, e5, h7, h8⟩ := bnd_ok h6
      obtain ⟨h9, _⟩ := of_ok h8
      cases q : g2 x2.dat x4.dat with
      | none => rw [q] at h9; cases h9
      | some c => rw [q] at h9; cases h9; exact ⟨c, rfl⟩
    · obtain ⟨rfl, _⟩ := ret_ok h6; exact ⟨false, rfl⟩
  obtain ⟨c, rfl⟩ := hv
  cases q3
  exact ⟨_, r1.bl, k _ _ P1 rfl⟩
end
end Mi
end

section
set_option maxRecDepth 100000
set_option maxHeartbeats 1000000
/-! Mi: what is walked, targets. -/
namespace Mi
open PySem PySem.Spec PyProof.Rows L2
section
variable {F : Fx} {X : Cx}
/-- the i-th of ds -/
def YD (F : Fx) (ds : List D) : Nat → Hp → V → Hp → Prop := fun i H x H' => Grow H H' ∧ ∃ d, ds[i]? = some d ∧ RD F.K H' x d
def tI (F : Fx) (m : M (List D × Lks)) : TI := fun σ H R => LamX.Tabs F.T H ∧ ∃ e, StOk F e σ H ∧ ∃ p e', m e = some (.ok p e') ∧
  ∀ J H', Pst F e σ H e' H' → Locks e e' p.2 → Walk J p.1.length (fun H2 => Ext (MutAt e' σ) H' H2) (YD F p.1) → R J H'
theorem pi_imp {tg e : Expr} {t t' : TI} (h : PI X tg e t) (i : ∀ σ H Q, t' σ H Q → t σ H Q) : PI X tg e t' := ⟨fun pins s σ H Q I q => h.run pins s σ H Q I (i _ _ _ q)⟩
/-- a list that is only read: it stands as long as nothing else is changed -/
theorem REV.listW {e0 e : En} {σ : L2.St} {H0 H : Hp} {v : V} {ev : EV} {xs : List D} (S0 : StOk F e0 σ H0) (P : Pst F e0 σ H0 e H) (h : REV F H0 e σ H v ev) (hd : ev.dat = .list xs) :
    ∃ a vs, v = .ref a ∧ RDs F.K H vs xs ∧ ∀ H2, Ext (MutAt e σ) H H2 → SqL F.K H2 a vs := by
  cases ev with
  | val d =>
    have h' : RD F.K H v d := h
    clear h
    cases hd
    cases h' with
    | lst h r => exact ⟨_, _, rfl, r, fun H2 x => (PerL.per (x.per P.st) h).sq⟩
  | fr ys =>
    cases hd
    obtain ⟨b, us, h1, h2, h3, h4⟩ := h
    exact ⟨b, us, h1, h3, fun H2 x => SqL.of (x.keep b _ h2 (nm_of S0 P.evo h4) (by intro _ z; cases z))⟩
  | bor ys =>
    cases hd
    obtain ⟨b, us, h1, h2, h3, h4⟩ := h
    exact ⟨b, us, h1, h3, fun H2 x => SqL.of (x.keep b _ h2 h4 (by intro _ z; cases z))⟩
theorem yAt {H0 : Hp} {vs : List V} {ds : List D} {J : It} {G G' : Hp → Prop} (w : Walk J vs.length G' (YAt vs)) (r : RDs F.K H0 vs ds) (hg : ∀ H, G H → G' H) (hp : ∀ H, G H → Per H0 H) : Walk J ds.length G (YD F ds) := by
  rw [← r.length]
  refine w.mono hg fun i H x H' hi g y => ?_
  obtain ⟨e, y⟩ := y
  subst e
  obtain ⟨d, h1, h2⟩ := r.getV y
  exact ⟨Grow.refl _, d, h1, RD.per (hp _ g) h2⟩
theorem gl_iex (hK : X.K = F.K) {tg a : Expr} {ma : M (EV × Lks)} (ha : PE X a (tK F ma)) :
    PI X tg a (tI F (ma.bnd fun p => M.of ((walkD p.1.dat).map fun xs => (xs, p.2)))) := by
  have three : PI X tg a (fun σ H R => iList X.K (tK F ma) σ H R ∨ iTup X.K (tK F ma) σ H R ∨ iStr (tK F ma) σ H R) := by
    refine ⟨fun pins s σ H R I h => ?_⟩
    rcases h with h | h | h
    · exact (pi_list ha).run pins s σ H R I h
    · exact (pi_tup ha).run pins s σ H R I h
    · exact (pi_str ha).run pins s σ H R I h
  refine pi_imp three fun σ H R ⟨t, e, S, p, e', hm, k⟩ => ?_
  obtain ⟨q, e1, h1, h2⟩ := bnd_ok hm
  obtain ⟨h3, rfl⟩ := of_ok h2
  cases hd : q.1.dat with
  | list xs =>
    rw [hd] at h3
    cases h3
    refine .inl ⟨t, e, S, q, e1, h1, fun v H1 P1 ⟨r1, l1⟩ => ?_⟩
    obtain ⟨a, vs, rfl, r, w⟩ := r1.listW S P1 hd
    refine ⟨a, rfl, ⟨vs, by rw [hK]; exact w H1 (Ext.refl _ _)⟩, k _ _ P1 l1 ?_⟩
    exact yAt (walk_list (K := X.K) (a := a) (xs := vs)) r (fun H2 x => by rw [hK]; exact w H2 x) fun H2 x => x.per P1.st
  | tuple xs =>
    rw [hd] at h3
    cases h3
    refine .inr (.inl ⟨t, e, S, q, e1, h1, fun v H1 P1 ⟨r1, l1⟩ => ?_⟩)
    have rb := r1.rb
    rw [hd] at rb
    obtain ⟨a, vs, rfl, w, r⟩ := rb.tup
    refine ⟨a, rfl, ⟨vs, by rw [hK]; exact w⟩, k _ _ P1 l1 ?_⟩
    exact yAt (walk_tup (K := X.K) (a := a) (xs := vs)) r (fun H2 x => by rw [hK]; exact sqT_per (x.per P1.st) w) fun H2 x => x.per P1.st
  | str z =>
    rw [hd] at h3
    cases h3
    refine .inr (.inr ⟨t, e, S, q, e1, h1, fun v H1 P1 ⟨r1, l1⟩ => ?_⟩)
    have rb := r1.rb
    rw [hd] at rb
    obtain ⟨rfl, sok⟩ := rb.str
    refine ⟨z, rfl, k _ _ P1 l1 ?_⟩
    have hl : (signsL z).length = z.cps.size := by unfold signsL; simp
    show Walk (Its z) (signsL z).length _ _
    rw [hl]
    refine walk_str.mono (fun _ _ => trivial) fun i H x H' hi g y => ?_
    obtain ⟨rfl, c, hc, rfl⟩ := y
    refine ⟨Grow.refl _, .str ⟨#[c]⟩, ?_, .str _ ?_⟩
    · unfold signsL
      rw [List.getElem?_map]
      simp [hc]
    · exact strOk_sign sok (List.mem_iff_getElem?.mpr ⟨i, by rw [Array.getElem?_toList]; exact hc⟩)
  | _ => rw [hd] at h3; cases h3
theorem rangeL_get {c : Int} : ∀ (n : Nat) (lo : Int) (i : Nat), i < n → (rangeL lo c n)[i]? = some (.int (lo + (i : Nat) * c))
  | 0, _, _, h => absurd h (Nat.not_lt_zero _)
  | n + 1, lo, 0, _ => by
    show (PyData.int lo :: _)[0]? = _
    rw [List.getElem?_cons_zero]
    simp
  | n + 1, lo, i + 1, h => by
    show (PyData.int lo :: _)[i + 1]? = _
    rw [List.getElem?_cons_succ, rangeL_get n (lo + c) i (by omega)]
    have e : lo + c + (i : Int) * c = lo + ((i + 1 : Nat) : Int) * c := by
      rw [Int.natCast_add, Int.add_mul]
      simp
      omega
    rw [e]
theorem rangeL_len {c : Int} : ∀ (n : Nat) (lo : Int), (rangeL lo c n).length = n
  | 0, _ => rfl
  | n + 1, lo => by
    show (_ :: rangeL (lo + c) c n).length = _
    rw [List.length_cons, rangeL_len n]
theorem rgOk_le {i : Int} (h : rgOk i = true) : -(2 ^ 62) ≤ i ∧ i < 2 ^ 62 := by
  unfold rgOk at h
  rw [Bool.and_eq_true, decide_eq_true_iff, decide_eq_true_iff] at h
  have e : (2 : Int) ^ 62 = 4611686018427387904 := by decide
  rw [e]
  omega
theorem wk_rng1 {G : Hp → Prop} {lo : Int} {n : Nat} : Walk (Itr lo n) (rangeL lo 1 n).length G (YD F (rangeL lo 1 n)) := by
  rw [rangeL_len]
  refine walk_range.mono (fun _ _ => trivial) fun i H x H' hi _ y => ?_
  obtain ⟨e, y⟩ := y
  subst e
  refine ⟨Grow.refl _, _, rangeL_get n lo i hi, ?_⟩
  rw [y, Int.mul_one]
  exact .int _
theorem wk_rngC {G : Hp → Prop} {lo c : Int} {n : Nat} : Walk (Itc lo c n) (rangeL lo c n).length G (YD F (rangeL lo c n)) := by
  rw [rangeL_len]
  refine walk_rangeC.mono (fun _ _ => trivial) fun i H x H' hi _ y => ?_
  obtain ⟨e, y⟩ := y
  subst e
  refine ⟨Grow.refl _, _, rangeL_get n lo i hi, ?_⟩
  rw [y]
  exact .int _
theorem RDs.intsE {K : PySem.W.Frag} {H : Hp} : ∀ {ns : List Int} {vs : List V}, RDs K H vs (ns.map PyData.int) → vs = ns.map V.int
  | [], _, .nil => rfl
  | n :: r, _, .cons (.int _) q => by rw [List.map_cons, RDs.intsE q]
/-- ranges: one, two, three arguments -/
theorem gl_rg1 {tg a : Expr} {p pos : Pos} {ms : M (List D)} (hg : Gl X "range") (hm : X.mg "range" = none) (ha : PA X [a] (tDs F ms)) (hs : starEach [a] X.env = [(false, eval a X.env)]) :
    PI X tg (.Call (.Name "range" p) [a] [] pos) (tI F (ms.bnd fun ds => M.of ((rangeD 1 ds).map fun xs => (xs, [])))) := by
  refine pi_imp (pi_range1 hg hm ha hs) fun σ H R ⟨t, e, S, q, e', hm', k⟩ => ?_
  obtain ⟨ds, e1, h1, h2⟩ := bnd_ok hm'
  obtain ⟨h3, rfl⟩ := of_ok h2
  refine ⟨t, e, S, _, e1, h1, fun vs H1 P1 r1 => ?_⟩
  unfold rangeD at h3
  split at h3
  · rename_i n _
    split at h3
    · rename_i ho
      cases h3
      obtain ⟨o1, o2⟩ := rgOk_le ho
      exact ⟨n, RDs.intsE (ns := [n]) r1, o1, o2, k _ _ P1 Locks.nil wk_rng1⟩
    · cases h3
  · rename_i e; cases e
  · rename_i e; cases e
  · cases h3
theorem gl_rg2 {tg a b : Expr} {p pos : Pos} {ms : M (List D)} (hg : Gl X "range") (hm : X.mg "range" = none) (ha : PA X [a, b] (tDs F ms)) (hs : starEach [a, b] X.env = [(false, eval a X.env), (false, eval b X.env)]) (hs2 : starEach [b] X.env = [(false, eval b X.env)]) :
    PI X tg (.Call (.Name "range" p) [a, b] [] pos) (tI F (ms.bnd fun ds => M.of ((rangeD 2 ds).map fun xs => (xs, [])))) := by
  refine pi_imp (pi_range2 hg hm ha hs hs2) fun σ H R ⟨t, e, S, q, e', hm', k⟩ => ?_
  obtain ⟨ds, e1, h1, h2⟩ := bnd_ok hm'
  obtain ⟨h3, rfl⟩ := of_ok h2
  refine ⟨t, e, S, _, e1, h1, fun vs H1 P1 r1 => ?_⟩
  unfold rangeD at h3
  split at h3
  · rename_i e; cases e
  · rename_i m n _
    split at h3
    · rename_i ho
      cases h3
      rw [Bool.and_eq_true] at ho
      obtain ⟨o1, o2⟩ := rgOk_le ho.1
      obtain ⟨o3, o4⟩ := rgOk_le ho.2
      exact ⟨m, n, RDs.intsE (ns := [m, n]) r1, ⟨o1, o2, o3, o4⟩, k _ _ P1 Locks.nil wk_rng1⟩
    · cases h3
  · rename_i e; cases e
  · cases h3
theorem gl_rg3 {tg a b c : Expr} {p pos : Pos} {ms : M (List D)} (hg : Gl X "range") (hm : X.mg "range" = none) (ha : PA X [a, b, c] (tDs F ms)) (hs : starEach [a, b, c] X.env = (false, eval a X.env) :: starEach [b, c] X.env) (hpl : (backTo pos (starEach [b, c] X.env)).any (·.1) = false) :
    PI X tg (.Call (.Name "range" p) [a, b, c] [] pos) (tI F (ms.bnd fun ds => M.of ((rangeD 3 ds).map fun xs => (xs, [])))) := by
  refine pi_imp (pi_range3 hg hm ha hs hpl) fun σ H R ⟨t, e, S, q, e', hm', k⟩ => ?_
  obtain ⟨ds, e1, h1, h2⟩ := bnd_ok hm'
  obtain ⟨h3, rfl⟩ := of_ok h2
  refine ⟨t, e, S, _, e1, h1, fun vs H1 P1 r1 => ?_⟩
  unfold rangeD at h3
  split at h3
  · rename_i e; cases e
  · rename_i e; cases e
  · rename_i m n c _
    split at h3
    · rename_i ho
      cases h3
      rw [Bool.and_eq_true, Bool.and_eq_true, decide_eq_true_iff] at ho
      obtain ⟨⟨ho1, ho2⟩, rfl⟩ := ho
      obtain ⟨o1, o2⟩ := rgOk_le ho1
      obtain ⟨o3, o4⟩ := rgOk_le ho2
      exact ⟨m, n, -1, _, RDs.intsE (ns := [m, n, -1]) r1, RgC.neg o1 o2 o3 o4, k _ _ P1 Locks.nil wk_rngC⟩
    · cases h3
  · cases h3
/-! pairs -/
theorem enumL_get : ∀ (xs : List D) (k i : Nat) (d : D), xs[i]? = some d → (enumL k xs)[i]? = some (.tuple [.int (k + i : Nat), d])
  | [], _, _, _, h => by simp at h
  | x :: r, k, 0, d, h => by
    rw [List.getElem?_cons_zero] at h
    cases h
    rfl
  | x :: r, k, i + 1, d, h => by
    rw [List.getElem?_cons_succ] at h
    show (_ :: enumL (k + 1) r)[i + 1]? = _
    rw [List.getElem?_cons_succ, enumL_get r (k + 1) i d h]
    have e : k + 1 + i = k + (i + 1) := by omega
    rw [e]
theorem enumL_len : ∀ (xs : List D) (k : Nat), (enumL k xs).length = xs.length
  | [], _ => rfl
  | x :: r, k => by
    show (_ :: enumL (k + 1) r).length = _
    rw [List.length_cons, List.length_cons, enumL_len r]
theorem zipL_get : ∀ (xs ys : List D) (i : Nat) (d c : D), xs[i]? = some d → ys[i]? = some c → (zipL xs ys)[i]? = some (.tuple [d, c])
  | [], _, _, _, _, h, _ => by simp at h
  | _ :: _, [], _, _, _, _, h => by simp at h
  | x :: r, y :: q, 0, d, c, h, h' => by
    rw [List.getElem?_cons_zero] at h h'
    cases h
    cases h'
    rfl
  | x :: r, y :: q, i + 1, d, c, h, h' => by
    rw [List.getElem?_cons_succ] at h h'
    show (_ :: zipL r q)[i + 1]? = _
    rw [List.getElem?_cons_succ]
    exact zipL_get r q i d c h h'
theorem zipL_len : ∀ (xs ys : List D), (zipL xs ys).length = min xs.length ys.length
  | [], _ => by simp [zipL]
  | _ :: _, [] => by simp [zipL]
  | x :: r, y :: q => by
    show (_ :: zipL r q).length = _
    rw [List.length_cons, zipL_len r q, List.length_cons, List.length_cons]
    omega
theorem yPair {H0 : Hp} {us vs : Nat → Option V} {n : Nat} {ps : List D} {f g : Nat → Option D} {J : It} {G G' : Hp → Prop} (w : Walk J n G' (YPair us vs)) (hn : ps.length = n) (hg : ∀ H, G H → G' H) (hp : ∀ H, G H → Per H0 H)
    (h1 : ∀ i v, us i = some v → ∃ d, f i = some d ∧ RD F.K H0 v d) (h2 : ∀ i v, vs i = some v → ∃ d, g i = some d ∧ RD F.K H0 v d) (h3 : ∀ i d c, f i = some d → g i = some c → ps[i]? = some (.tuple [d, c])) : Walk J ps.length G (YD F ps) := by
  rw [hn]
  refine w.mono hg fun i H x H' hi gg y => ?_
  obtain ⟨T, a, b, rfl, hT, rfl, ha, hb⟩ := y
  obtain ⟨d, q1, q2⟩ := h1 i a ha
  obtain ⟨c, q3, q4⟩ := h2 i b hb
  have p := (hp _ gg).trans (Grow.upd (o := .tup [a, b]) hT).per
  exact ⟨Grow.upd hT, _, h3 i d c q1 q3, .tup (.inl (.inl upd_same)) (.cons (RD.per p q2) (.cons (RD.per p q4) .nil))⟩
/-- the lists (tuples) among what is only read: they stand as long as nothing else is changed -/
inductive Ws (F : Fx) (O : Addr → Prop) (H : Hp) : List V → List D → Prop
  | nil : Ws F O H [] []
  | cons {v : V} {vs : List V} {d : D} {ds : List D} : (∀ xs, d = .list xs → ∃ a us, v = .ref a ∧ RDs F.K H us xs ∧ ∀ H2, Ext O H H2 → SqL F.K H2 a us) → (∀ xs, d = .tuple xs → ∃ a us, v = .ref a ∧ RDs F.K H us xs ∧ SqT F.K H a us) → Ws F O H vs ds → Ws F O H (v :: vs) (d :: ds)
def tW (F : Fx) (m : M (List D × Lks)) : TA := WP F m fun e _ e' σ H' vs p => Ws F (MutAt e' σ) H' vs p.1 ∧ Locks e e' p.2
theorem Ws.more {e e1 e2 : En} {σ : L2.St} {H H1 H2 : Hp} {vs : List V} {ds : List D} (P : Pst F e σ H e1 H1) (Q : Pst F e1 σ H1 e2 H2) (w : Ws F (MutAt e1 σ) H1 vs ds) : Ws F (MutAt e2 σ) H2 vs ds := by
  have tr : ∀ {H3}, Ext (MutAt e2 σ) H2 H3 → Ext (MutAt e1 σ) H1 H3 := fun {H3} x => ⟨fun a o h n t => x.keep a o (Q.ext.keep a o h n t) (fun m => n (Q.evo.mutAt m)) t, fun a h => Q.ext.trk a (x.trk a h)⟩
  have p := Q.ext.per P.st
  induction w with
  | nil => exact .nil
  | cons h1 h2 _ ih =>
    refine .cons (fun xs e => ?_) (fun xs e => ?_) ih
    · obtain ⟨a, us, q1, q2, q3⟩ := h1 xs e
      exact ⟨a, us, q1, RDs.per p q2, fun H3 x => q3 H3 (tr x)⟩
    · obtain ⟨a, us, q1, q2, q3⟩ := h2 xs e
      exact ⟨a, us, q1, RDs.per p q2, sqT_per p q3⟩
theorem gl_wnil : PA X [] (tW F (M.ret ([], []))) := by
  refine pa_imp pa_nil fun σ H Q ⟨t, e, S, ev, e', hm, k⟩ => ?_
  obtain ⟨rfl, rfl⟩ := ret_ok hm
  exact k _ _ (Pst.refl S t) ⟨.nil, Locks.nil⟩
theorem gl_wcons {a : Expr} {es : List Expr} {m : M (EV × Lks)} {ms : M (List D × Lks)} (ha : PE X a (tK F m)) (hr : PA X es (tW F ms)) (hs : starEach (a :: es) X.env = (false, eval a X.env) :: starEach es X.env) :
    PA X (a :: es) (tW F (m.bnd fun p => ms.bnd fun q => M.ret (p.1.dat :: q.1, p.2 ++ q.2))) := by
  refine pa_imp (pa_cons ha hr hs) fun σ H Q ⟨t, e, S, ds, e', hm, k⟩ => ?_
  obtain ⟨p, e1, h1, h2⟩ := bnd_ok hm
  obtain ⟨q, e2, h3, h4⟩ := bnd_ok h2
  obtain ⟨rfl, rfl⟩ := ret_ok h4
  refine ⟨t, e, S, p, e1, h1, fun v H1 P1 ⟨r1, l1⟩ => ⟨P1.tabs, e1, P1.st, q, e2, h3, fun vs H2 P2 ⟨r2, l2⟩ => k _ _ (P1.trans P2) ⟨.cons (fun xs hd => ?_) (fun xs hd => ?_) r2, l1.app l2 P1.evo P2.evo⟩⟩⟩
  · exact (r1.more S P1 P2).listW S (P1.trans P2) hd
  · have rb := (r1.more S P1 P2).rb
    rw [hd] at rb
    obtain ⟨a, us, q1, q2, q3⟩ := rb.tup
    exact ⟨a, us, q1, q3, q2⟩
theorem gl_en (hK : X.K = F.K) {e : Expr} {p pos tpos : Pos} {elts : List Expr} {kk : Nat} {ms : M (List D × Lks)} (hg : Gl X "enumerate") (hm : X.mg "enumerate" = none) (ha : PA X [e] (tW F ms)) (hs : starEach [e] X.env = [(false, eval e X.env)]) :
    PI X (.Tuple elts kk tpos) (.Call (.Name "enumerate" p) [e] [] pos) (tI F (ms.bnd fun p => M.of ((enumD p.1).map fun xs => (xs, p.2)))) := by
  refine pi_imp (pi_enumA hg hm ha hs) fun σ H R ⟨t, e, S, q, e', hm', k⟩ => ?_
  obtain ⟨⟨ds, ls⟩, e1, h1, h2⟩ := bnd_ok hm'
  obtain ⟨h3, rfl⟩ := of_ok h2
  refine ⟨t, e, S, _, e1, h1, fun vs H1 P1 ⟨r1, l1⟩ => ?_⟩
  unfold enumD at h3
  split at h3
  · rename_i xs heq
    cases h3
    have heq : ds = [.list xs] := heq
    subst heq
    cases r1 with
    | cons w1 _ r => cases r with
      | nil =>
        obtain ⟨a, us, rfl, rs, w⟩ := w1 xs rfl
        refine .inl ⟨a, us, rfl, by rw [hK]; exact w _ (Ext.refl _ _), k _ _ P1 l1 ?_⟩
        refine yPair (f := fun i => some (.int (i : Nat))) (g := fun i => xs[i]?) (walk_enum (K := X.K) (a := a) (xs := us)) ?_ (fun H2 x => by rw [hK]; exact w H2 x) (fun H2 x => x.per P1.st) (fun i v hv => ?_) (fun i v hv => rs.getV hv) fun i d c hd hc => ?_
        · rw [enumL_len, rs.length]
        · cases hv
          exact ⟨_, rfl, .int _⟩
        · cases hd
          have := enumL_get xs 0 i c hc
          rw [Nat.zero_add] at this
          exact this
  · rename_i xs heq
    cases h3
    have heq : ds = [.tuple xs] := heq
    subst heq
    cases r1 with
    | cons _ w1 r => cases r with
      | nil =>
        obtain ⟨a, us, rfl, rs, w⟩ := w1 xs rfl
        refine .inr ⟨a, us, rfl, by rw [hK]; exact w, k _ _ P1 l1 ?_⟩
        refine yPair (f := fun i => some (.int (i : Nat))) (g := fun i => xs[i]?) (walk_enumT (K := X.K) (a := a) (xs := us)) ?_ (fun H2 x => by rw [hK]; exact sqT_per (x.per P1.st) w) (fun H2 x => x.per P1.st) (fun i v hv => ?_) (fun i v hv => rs.getV hv) fun i d c hd hc => ?_
        · rw [enumL_len, rs.length]
        · cases hv
          exact ⟨_, rfl, .int _⟩
        · cases hd
          have := enumL_get xs 0 i c hc
          rw [Nat.zero_add] at this
          exact this
  · cases h3
theorem gl_zp (hK : X.K = F.K) {e e2 : Expr} {p pos tpos : Pos} {elts : List Expr} {kk : Nat} {ms : M (List D × Lks)} (hg : Gl X "zip") (hm : X.mg "zip" = none) (ha : PA X [e, e2] (tW F ms)) (hs : starEach [e, e2] X.env = (false, eval e X.env) :: starEach [e2] X.env) (hpl : (backTo pos (starEach [e2] X.env)).any (·.1) = false) :
    PI X (.Tuple elts kk tpos) (.Call (.Name "zip" p) [e, e2] [] pos) (tI F (ms.bnd fun p => M.of ((zipD p.1).map fun xs => (xs, p.2)))) := by
  refine pi_imp (RZ.pi_zipA hg hm ha hs hpl) fun σ H R ⟨t, e, S, q, e', hm', k⟩ => ?_
  obtain ⟨⟨ds, ls⟩, e1, h1, h2⟩ := bnd_ok hm'
  obtain ⟨h3, rfl⟩ := of_ok h2
  refine ⟨t, e, S, _, e1, h1, fun vs H1 P1 ⟨r1, l1⟩ => ?_⟩
  unfold zipD at h3
  split at h3
  · rename_i xs ys heq
    cases h3
    have heq : ds = [.list xs, .list ys] := heq
    subst heq
    cases r1 with
    | cons w1 _ r => cases r with
      | cons w2 _ r => cases r with
        | nil =>
          obtain ⟨a, us, rfl, rs, w⟩ := w1 xs rfl
          obtain ⟨b, us2, rfl, rs2, w'⟩ := w2 ys rfl
          refine ⟨a, b, us, us2, rfl, .inl ⟨by rw [hK]; exact w _ (Ext.refl _ _), by rw [hK]; exact w' _ (Ext.refl _ _), k _ _ P1 l1 ?_⟩⟩
          refine yPair (f := fun i => xs[i]?) (g := fun i => ys[i]?) (walk_zip (K := X.K) (a := a) (b := b) (xs := us) (ys := us2) rfl) ?_ (fun H2 x => by rw [hK]; exact ⟨w H2 x, w' H2 x⟩) (fun H2 x => x.per P1.st) (fun i v hv => rs.getV hv) (fun i v hv => rs2.getV hv) fun i d c hd hc => zipL_get xs ys i d c hd hc
          rw [zipL_len, rs.length, rs2.length]
  · rename_i xs ys heq
    cases h3
    have heq : ds = [.tuple xs, .tuple ys] := heq
    subst heq
    cases r1 with
    | cons _ w1 r => cases r with
      | cons _ w2 r => cases r with
        | nil =>
          obtain ⟨a, us, rfl, rs, w⟩ := w1 xs rfl
          obtain ⟨b, us2, rfl, rs2, w'⟩ := w2 ys rfl
          refine ⟨a, b, us, us2, rfl, .inr ⟨by rw [hK]; exact w, by rw [hK]; exact w', k _ _ P1 l1 ?_⟩⟩
          have wk : Walk (RZ.ItzT X.K a b) (min us.length us2.length) (fun H => SqT X.K H a us ∧ SqT X.K H b us2) (YPair (fun i => us[i]?) (fun i => us2[i]?)) := by
            refine ⟨fun i _ hi q => ?_, fun _ q => ⟨us, us2, q.1, q.2, by omega⟩, fun i H v H' _ q y => ?_⟩
            · have h1 : i < us.length := by omega
              have h2 : i < us2.length := by omega
              exact ⟨us, us2, us[i], us2[i], q.1, q.2, by simp [h1], by simp [h2]⟩
            · obtain ⟨T, x, z, h1, h2, h3, h4, h5⟩ := y
              exact ⟨T, x, z, h1, h2, h3, h4 us q.1, h5 us2 q.2⟩
          refine yPair (f := fun i => xs[i]?) (g := fun i => ys[i]?) wk ?_ (fun H2 x => by rw [hK]; exact ⟨sqT_per (x.per P1.st) w, sqT_per (x.per P1.st) w'⟩) (fun H2 x => x.per P1.st) (fun i v hv => rs.getV hv) (fun i v hv => rs2.getV hv) fun i d c hd hc => zipL_get xs ys i d c hd hc
          rw [zipL_len, rs.length, rs2.length]
  · cases h3
end
end Mi
end

section
set_option maxRecDepth 100000
set_option maxHeartbeats 1000000
/-! Mi: targets, comprehensions. -/
namespace Mi
open PySem PySem.Spec PyProof.Rows L2
section
variable {F : Fx} {X : Cx}
/-- a target's names were told anew: data, or what is no list -/
structure Tch (ts : List Nat) (e : En) (σ : L2.St) (e' : En) (σ' : L2.St) : Prop where
  len : σ'.length = σ.length
  out : ∀ j, j ∉ ts → σ'[j]? = σ[j]? ∧ e'.g j = e.g j
  own : ∀ j, j ∈ ts → (e'.g j).ly = false ∧ (e.g j).ln = false ∧ ∀ xs, e.g j ≠ .lock xs
theorem Tch.refl (e : En) (σ : L2.St) : Tch [] e σ e σ := ⟨rfl, fun _ _ => ⟨rfl, rfl⟩, fun _ h => nomatch h⟩
theorem Tch.trans {ts us : List Nat} {e e1 e2 : En} {σ σ1 σ2 : L2.St} (a : Tch ts e σ e1 σ1) (b : Tch us e1 σ1 e2 σ2) : Tch (ts ++ us) e σ e2 σ2 := by
  refine ⟨b.len.trans a.len, fun j h => ?_, fun j h => ?_⟩
  · obtain ⟨h1, h2⟩ := a.out j (fun z => h (List.mem_append_left _ z))
    obtain ⟨h3, h4⟩ := b.out j (fun z => h (List.mem_append_right _ z))
    exact ⟨h3.trans h1, h4.trans h2⟩
  · by_cases ha : j ∈ ts
    · obtain ⟨h1, h2, h3⟩ := a.own j ha
      refine ⟨?_, h2, h3⟩
      by_cases hb : j ∈ us
      · exact (b.own j hb).1
      · rw [(b.out j hb).2]; exact h1
    · have hb : j ∈ us := (List.mem_append.mp h).resolve_left ha
      obtain ⟨h1, h2, h3⟩ := b.own j hb
      rw [(a.out j ha).2] at h2 h3
      exact ⟨h1, h2, h3⟩
def tG (F : Fx) (ts : List Nat) (m : D → M Unit) : TG := fun v σ H Q => LamX.Tabs F.T H ∧ ∃ e, StOk F e σ H ∧ ∃ d, RD F.K H v d ∧ ∃ e', m d e = some (.ok () e') ∧ ∀ σ', StOk F e' σ' H → Tch ts e σ e' σ' → Q σ' H
def tGs (F : Fx) (ts : List Nat) (m : List D → M Unit) : TGs := fun vs σ H Q => LamX.Tabs F.T H ∧ ∃ e, StOk F e σ H ∧ ∃ ds, RDs F.K H vs ds ∧ ∃ e', m ds e = some (.ok () e') ∧ ∀ σ', StOk F e' σ' H → Tch ts e σ e' σ' → Q σ' H
theorem pg_imp {e : Expr} {t t' : TG} (h : PG X e t) (i : ∀ v σ H Q, t' v σ H Q → t v σ H Q) : PG X e t' := ⟨fun pins s σ H v u Q I r q => h.run pins s σ H v u Q I r (i _ _ _ _ q)⟩
theorem pgs_imp {e : List Expr} {t t' : TGs} (h : PGs X e t) (i : ∀ v σ H Q, t' v σ H Q → t v σ H Q) : PGs X e t' := ⟨fun pins s σ H v u Q I r q => h.run pins s σ H v u Q I r (i _ _ _ _ q)⟩
/-- a slot is stored anew -/
theorem StOk.store {e : En} {σ : L2.St} {H : Hp} {i : Nat} {v : V} {s : Sl} (S : StOk F e σ H) (h : RSl F H (some (some v)) s) (hm : s.ly = true → ∃ a, v = .ref a ∧ ∀ j b, j ≠ i → (e.g j).ly = true → σ[j]? = some (some (.ref b)) → b ≠ a) :
    StOk F (e.set i s) (σ.set i (some v)) H := by
  have hlen := S.len
  have hσi : i < e.length → (σ.set i (some v))[i]? = some (some v) := fun hi => by
    rw [List.getElem?_set_self (by omega)]
  have hσj : ∀ j, i ≠ j → (σ.set i (some v))[j]? = σ[j]? := fun j hj => List.getElem?_set_ne hj
  refine ⟨by rw [List.length_set, List.length_set]; exact hlen, fun j => ?_, fun j k a b hjk h1 h2 h3 h4 => ?_⟩
  · by_cases hj : i = j
    · subst hj
      by_cases hi : i < e.length
      · rw [En.g_self hi, hσi hi]
        exact h
      · have z : (En.g (e.set i s) i) = .no := by
          unfold En.g
          rw [List.getD_eq_getElem?_getD, List.getElem?_eq_none (by rw [List.length_set]; omega)]
          rfl
        rw [z]
        trivial
    · rw [En.g_ne hj, hσj j hj]
      exact S.sl j
  · have lt : ∀ {n : Nat} {q : Bool}, (En.g (e.set i s) n).ly = q → q = true → n < e.length := fun {n q} h hq => by
      subst hq
      have := En.g_lt (e := e.set i s) (i := n) (by intro z; rw [z] at h; cases h)
      rwa [List.length_set] at this
    have hj := lt (h1) rfl
    have hk := lt h2 rfl
    by_cases zj : i = j
    · subst zj
      rw [En.g_self hj] at h1
      rw [hσi hj] at h3
      rw [En.g_ne hjk] at h2
      rw [hσj k hjk] at h4
      obtain ⟨c, hc, n⟩ := hm (h1)
      rw [hc] at h3
      cases h3
      exact Ne.symm (n k b (Ne.symm hjk) h2 h4)
    · rw [En.g_ne zj] at h1
      rw [hσj j zj] at h3
      by_cases zk : i = k
      · subst zk
        rw [En.g_self hk] at h2
        rw [hσi hk] at h4
        obtain ⟨c, hc, n⟩ := hm h2
        rw [hc] at h4
        cases h4
        exact n j a hjk (h1) h3
      · rw [En.g_ne zk] at h2
        rw [hσj k zk] at h4
        exact S.ap j k a b hjk h1 h2 h3 h4
/-- what a store says -/
theorem putV_ok {i : Nat} {v : EV} {e e' : En} {u : Unit} (h : putV i v e = some (.ok u e')) : (e.g i).ln = false ∧ (∀ xs, e.g i ≠ .lock xs) ∧ ∃ s, ((∃ d, v = .val d ∧ s = .val d) ∨ ∃ xs, v = .fr xs ∧ s = .own xs) ∧ e' = e.set i s := by
  have key : ∀ {s0 : Sl}, e.g i = s0 → s0.ln = false → (∀ xs, s0 ≠ .lock xs) → (match v with
    | .val d => some (Rs.ok () (e.set i (.val d)))
    | .fr xs => some (.ok () (e.set i (.own xs)))
    | .bor _ => none) = some (.ok u e') → (e.g i).ln = false ∧ (∀ xs, e.g i ≠ .lock xs) ∧ ∃ s, ((∃ d, v = .val d ∧ s = .val d) ∨ ∃ xs, v = .fr xs ∧ s = .own xs) ∧ e' = e.set i s := fun {s0} h0 h1 h2 h3 => by
    rw [h0]
    refine ⟨h1, h2, ?_⟩
    cases v with
    | val d => cases h3; exact ⟨_, .inl ⟨d, rfl, rfl⟩, rfl⟩
    | fr xs => cases h3; exact ⟨_, .inr ⟨xs, rfl, rfl⟩, rfl⟩
    | bor _ => cases h3
  unfold putV at h
  cases h0 : e.g i with
  | lent xs => rw [h0] at h; cases h
  | lock xs => rw [h0] at h; cases h
  | no => rw [h0] at h; rw [← h0]; exact key h0 rfl (fun _ z => nomatch z) h
  | val d => rw [h0] at h; rw [← h0]; exact key h0 rfl (fun _ z => nomatch z) h
  | fn g => rw [h0] at h; rw [← h0]; exact key h0 rfl (fun _ z => nomatch z) h
  | clo a b c d => rw [h0] at h; rw [← h0]; exact key h0 rfl (fun _ z => nomatch z) h
  | own xs => rw [h0] at h; rw [← h0]; exact key h0 rfl (fun _ z => nomatch z) h
theorem gl_nm {x : Str} {pos : Pos} {i : Nat} (h : PG X (.Name x pos) (gName i)) : PG X (.Name x pos) (tG F [i] fun d => putV i (.val d)) := by
  refine pg_imp h fun v σ H Q ⟨t, e, S, d, r, e', hm, k⟩ => ?_
  obtain ⟨h1, h2, s, hs, rfl⟩ := putV_ok hm
  rcases hs with ⟨d', hd, rfl⟩ | ⟨xs, hd, _⟩
  · cases hd
    refine k _ (S.store ⟨v, rfl, r⟩ (fun z => nomatch z)) ⟨List.length_set, fun j hj => ?_, fun j hj => ?_⟩
    · have hij : i ≠ j := fun z => hj (by rw [z]; exact List.mem_singleton_self _)
      exact ⟨List.getElem?_set_ne hij, En.g_ne hij⟩
    · rw [List.mem_singleton] at hj
      subst hj
      refine ⟨?_, h1, h2⟩
      rw [En.g_set]
      split
      · rfl
      · rename_i hn
        have : ¬ j < e.length := fun z => hn ⟨rfl, z⟩
        unfold En.g
        rw [List.getD_eq_getElem?_getD, List.getElem?_eq_none (by omega)]
        rfl
  · cases hd
theorem gl_gnil : PGs X [] (tGs F [] (evTs .nil)) := by
  refine pgs_imp pgs_nil fun vs σ H Q ⟨t, e, S, ds, r, e', hm, k⟩ => ?_
  cases ds with
  | nil =>
    cases r
    simp only [evTs] at hm
    obtain ⟨_, rfl⟩ := ret_ok hm
    exact ⟨rfl, k _ S (Tch.refl _ _)⟩
  | cons d r => simp only [evTs, M.fail] at hm; cases hm
theorem gl_gcons {e : Expr} {es : List Expr} {c : CT} {cs : CTs} (h1 : PG X e (tG F c.names (evT c))) (h2 : PGs X es (tGs F cs.names (evTs cs))) (hs : (assignEach (e :: es) X.env).map (·.2) = assign e X.env :: (assignEach es X.env).map (·.2)) : PGs X (e :: es) (tGs F (CTs.names (.cons c cs)) (evTs (.cons c cs))) := by
  refine pgs_imp (pgs_cons h1 h2 hs) fun vs σ H Q ⟨t, e, S, ds, r, e', hm, k⟩ => ?_
  cases ds with
  | nil => simp only [evTs, M.fail] at hm; cases hm
  | cons d ds =>
    simp only [evTs] at hm
    obtain ⟨_, e1, q1, q2⟩ := bnd_ok hm
    cases r with
    | cons r rr =>
      refine ⟨_, _, rfl, t, e, S, d, r, e1, q1, fun σ1 S1 T1 => ⟨t, e1, S1, ds, rr, e', q2, fun σ2 S2 T2 => k _ S2 ?_⟩⟩
      simp only [CTs.names]
      exact T1.trans T2
theorem gl_gtup (hK : X.K = F.K) {es : List Expr} {kk n : Nat} {pos : Pos} {cs : CTs} (hc : X.calm = true) (h : PGs X es (tGs F cs.names (evTs cs))) (hn : (assignEach es X.env).length = n) (hst : (assignEach es X.env).findIdx? (·.1) = none) (hl : ∀ ds e e', evTs cs ds e = some (.ok () e') → ds.length = n) :
    PG X (.Tuple es kk pos) (tG F (CT.names (.tp cs)) (evT (.tp cs))) := by
  refine pg_imp (pg_tup hc h hn hst) fun v σ H Q ⟨t, e, S, d, r, e', hm, k⟩ => ?_
  cases r with
  | tup q rr =>
    simp only [evT] at hm
    refine ⟨_, _, rfl, by rw [hK]; exact q, by rw [rr.length]; exact hl _ _ _ hm, t, e, S, _, rr, e', hm, fun σ' S' T' => k σ' S' ?_⟩
    simp only [CT.names]
    exact T'
  | _ => simp only [evT, M.fail] at hm; cases hm
/-! ### comprehensions -/
theorem wipe_g : ∀ (own : List Nat) (e : En) (j : Nat), (wipe own e).g j = if j ∈ own then .no else e.g j
  | [], e, j => by simp [wipe]
  | v :: vs, e, j => by
    show En.g ((wipe vs e).set v .no) j = _
    rw [En.g_set]
    by_cases h : v = j
    · subst h
      by_cases hl : v < (wipe vs e).length
      · rw [if_pos ⟨rfl, hl⟩, if_pos List.mem_cons_self]
      · rw [if_neg (fun q => hl q.2), if_pos List.mem_cons_self]
        unfold En.g
        rw [List.getD_eq_getElem?_getD, List.getElem?_eq_none (by omega)]
        rfl
    · rw [if_neg (fun q => h q.1), wipe_g vs e j]
      by_cases hj : j ∈ vs
      · rw [if_pos hj, if_pos (List.mem_cons_of_mem _ hj)]
      · rw [if_neg hj, if_neg (fun q => (List.mem_cons.mp q).elim (fun z => h z.symm) hj)]
theorem wipe_len : ∀ (own : List Nat) (e : En), (wipe own e).length = e.length
  | [], _ => rfl
  | v :: vs, e => by
    show ((wipe vs e).set v .no).length = _
    rw [List.length_set, wipe_len vs e]
theorem StOk.resl {e e' : En} {σ σ' : L2.St} {H : Hp} (S : StOk F e σ H) (hl : e'.length ≤ σ'.length) (h : ∀ j, e'.g j ≠ .no → e'.g j = e.g j ∧ σ'[j]? = σ[j]?) : StOk F e' σ' H := by
  refine ⟨hl, fun j => ?_, fun j k a b hjk h1 h2 h3 h4 => ?_⟩
  · cases hz : e'.g j with
    | no => trivial
    | _ =>
      obtain ⟨q1, q2⟩ := h j (by rw [hz]; intro z; cases z)
      have q := S.sl j
      rw [← q1, hz, ← q2] at q
      exact q
  · obtain ⟨q1, q2⟩ := h j (by intro z; rw [z] at h1; cases h1)
    obtain ⟨q3, q4⟩ := h k (by intro z; rw [z] at h2; cases h2)
    rw [q1] at h1
    rw [q2] at h3
    rw [q3] at h2
    rw [q4] at h4
    exact S.ap j k a b hjk h1 h2 h3 h4
theorem wipe_ne {own : List Nat} {e : En} {j : Nat} (h : (wipe own e).g j ≠ .no) : j ∉ own ∧ (wipe own e).g j = e.g j := by
  rw [wipe_g] at h ⊢
  split at h
  · exact absurd rfl h
  · rename_i hj
    exact ⟨hj, by rw [if_neg hj]⟩
theorem wipeS_get {σ : L2.St} {j : Nat} : ∀ {vs : List Nat}, (L2.wipe σ vs)[j]? = if j ∈ vs ∧ j < σ.length then some none else σ[j]?
  | [] => by simp [L2.wipe]
  | v :: vs => by
    show ((L2.wipe σ vs).set v none)[j]? = _
    rw [List.getElem?_set, wipeS_get (vs := vs), L2.wipe_length]
    by_cases h : v = j
    · subst h
      rw [if_pos rfl]
      by_cases hl : v < σ.length
      · rw [if_pos hl, if_pos ⟨List.mem_cons_self, hl⟩]
      · rw [if_neg hl, if_neg (fun q => hl q.2), List.getElem?_eq_none (by omega)]
    · rw [if_neg h]
      by_cases hj : j ∈ vs ∧ j < σ.length
      · rw [if_pos hj, if_pos ⟨List.mem_cons_of_mem _ hj.1, hj.2⟩]
      · rw [if_neg hj, if_neg (fun q => hj ⟨(List.mem_cons.mp q.1).resolve_left (fun z => h z.symm), q.2⟩)]
theorem wipeS_out {σ : L2.St} {j : Nat} {vs : List Nat} (h : j ∉ vs) : (L2.wipe σ vs)[j]? = σ[j]? := by rw [wipeS_get, if_neg (fun q => h q.1)]
theorem wipeS_eq {σ σ' : L2.St} {vs : List Nat} (hl : σ'.length = σ.length) (h : ∀ j, j ∉ vs → σ'[j]? = σ[j]?) : L2.wipe σ' vs = L2.wipe σ vs := by
  apply List.ext_getElem?
  intro j
  rw [wipeS_get, wipeS_get, hl]
  split
  · rfl
  · rename_i hj
    by_cases hm : j ∈ vs
    · have : ¬ j < σ.length := fun z => hj ⟨hm, z⟩
      rw [List.getElem?_eq_none (by omega), List.getElem?_eq_none (by omega)]
    · exact h j hm
theorem tabs_upd {T : List (Addr × Str)} {H : Hp} {l : Addr} {vs ws : List V} (h : H l = some (.lst vs)) (t : LamX.Tabs T H) : LamX.Tabs T (upd H l (.lst ws)) := fun p hp => by
  have ne : ∀ b o, H b = some o → (∀ us, o ≠ .lst us) → b ≠ l := fun b o q n z => by
    rw [z, h] at q
    exact n vs (Option.some.inj q).symm
  obtain ⟨ps, h1, h2, h3⟩ := t p hp
  refine ⟨ps, by rw [upd_ne (ne _ _ h1 (by intro _ z; cases z))]; exact h1, h2, fun pos cv hc => ?_⟩
  obtain ⟨c, e1, e2⟩ := h3 pos cv hc
  exact ⟨c, e1, by rw [upd_ne (ne _ _ e2 (by intro _ z; unfold LamX.CodeO at z; cases z))]; exact e2⟩
/-- a list that no slot bears changes -/
theorem StOk.other (ok : F.Ok) {e : En} {σ : L2.St} {H : Hp} {l : Addr} {vs ws : List V} (S : StOk F e σ H) (h : H l = some (.lst vs)) (n : ∀ j, (e.g j).ly = true → σ[j]? ≠ some (some (.ref l))) : StOk F e σ (upd H l (.lst ws)) := by
  have per : Per H (upd H l (.lst ws)) := per_upd h
  have lst : ∀ {x : Option (Option V)} {zs : List D}, x ≠ some (some (.ref l)) → RLst F.K H x zs → RLst F.K (upd H l (.lst ws)) x zs := fun {x zs} n ⟨b, us, h1, h2, h3⟩ => by
    refine ⟨b, us, h1, ?_, RDs.per per h3⟩
    rw [upd_ne (fun z => n (by rw [h1, z]))]
    exact h2
  refine ⟨S.len, fun j => ?_, S.ap⟩
  have q := S.sl j
  have na := n j
  cases hz : e.g j with
  | no => trivial
  | val d => rw [hz] at q; obtain ⟨v, h1, h2⟩ := q; exact ⟨v, h1, RD.per per h2⟩
  | fn g => rw [hz] at q; exact q
  | clo np ns b cs =>
    rw [hz] at q
    obtain ⟨f, h1, h2⟩ := q
    refine ⟨f, h1, ok.clo _ _ _ _ _ _ _ (fun b o hb n _ => ?_) h2⟩
    rw [upd_ne (fun z => by rw [z, h] at hb; exact n vs (Option.some.inj hb).symm)]
    exact hb
  | own zs => rw [hz] at q na; exact lst (na rfl) q
  | lent zs => rw [hz] at q na; exact lst (na rfl) q
  | lock zs => rw [hz] at q na; exact lst (na rfl) q
theorem Tch.mutAt {ts : List Nat} {e e' : En} {σ σ' : L2.St} (t : Tch ts e σ e' σ') {a : Addr} (h : MutAt e' σ' a) : MutAt e σ a := by
  obtain ⟨j, h1, h2⟩ := h
  by_cases hj : j ∈ ts
  · have := (t.own j hj).1
    rw [mt_ly h1] at this
    cases this
  · obtain ⟨q1, q2⟩ := t.out j hj
    exact ⟨j, by rw [← q2]; exact h1, by rw [← q1]; exact h2⟩
theorem StOk.lyLst {e : En} {σ : L2.St} {H : Hp} (S : StOk F e σ H) {j : Nat} {a : Addr} (h : (e.g j).ly = true) (hσ : σ[j]? = some (some (.ref a))) : ∃ vs, H a = some (.lst vs) := by
  have q := S.sl j
  cases hz : e.g j with
  | own zs => rw [hz] at q; obtain ⟨b, us, h1, h2, h3⟩ := q; rw [hσ] at h1; cases h1; exact ⟨us, h2⟩
  | lent zs => rw [hz] at q; obtain ⟨b, us, h1, h2, h3⟩ := q; rw [hσ] at h1; cases h1; exact ⟨us, h2⟩
  | lock zs => rw [hz] at q; obtain ⟨b, us, h1, h2, h3⟩ := q; rw [hσ] at h1; cases h1; exact ⟨us, h2⟩
  | _ => rw [hz] at h; cases h
/-- one turn of a comprehension, without its list -/
theorem turn_pst {vs ts : List Nat} {e1 ei ea ec : En} {σ σ2 : L2.St} {H1 H H' H4 : Hp} (hts : ∀ j, j ∈ ts → j ∈ vs) (P : Pst F (wipe vs e1) (L2.wipe σ vs) H1 (wipe vs ei) H) (g : Grow H H') (T : Tch ts (wipe vs ei) (L2.wipe σ vs) ea σ2) (P4 : Pst F ea σ2 H' ec H4) :
    L2.wipe σ2 vs = L2.wipe σ vs ∧ Pst F (wipe vs e1) (L2.wipe σ vs) H1 (wipe vs ec) H4 := by
  have hσ : ∀ j, j ∉ vs → σ2[j]? = σ[j]? := fun j hj => by
    rw [(T.out j (fun z => hj (hts j z))).1, wipeS_out hj]
  have hl : σ2.length = σ.length := by rw [T.len, L2.wipe_length]
  have hw : L2.wipe σ2 vs = L2.wipe σ vs := wipeS_eq hl hσ
  have ev : Evo (wipe vs ei) (wipe vs ec) := by
    have key : ∀ j, (wipe vs ec).g j ≠ .no → (wipe vs ec).g j = ec.g j ∧ ea.g j = (wipe vs ei).g j := fun j h => by
      obtain ⟨h1, h2⟩ := wipe_ne h
      exact ⟨h2, (T.out j (fun z => h1 (hts j z))).2⟩
    refine ⟨fun j h => ?_, fun j h => ?_, fun j xs h => ?_, fun j h => ?_, fun j h => ?_⟩
    · obtain ⟨q1, q2⟩ := key j (by intro z; rw [z] at h; cases h)
      rw [q1] at h; rw [← q2]; exact P4.evo.mt j h
    · obtain ⟨q1, q2⟩ := key j (by intro z; rw [z] at h; cases h)
      rw [q1] at h; rw [← q2]; exact P4.evo.ly j h
    · have hj : j ∉ vs := (wipe_ne (by rw [h]; intro z; cases z)).1
      rw [wipe_g, if_neg hj]
      refine P4.evo.lk j xs ?_
      rw [(T.out j (fun z => hj (hts j z))).2]
      exact h
    · obtain ⟨q1, q2⟩ := key j (by intro z; rw [z] at h; cases h)
      rw [q1] at h; rw [← q2]; exact P4.evo.ln j h
    · obtain ⟨q1, q2⟩ := key j (by intro z; rw [z] at h; cases h)
      rw [q1] at h; rw [← q2]; exact P4.evo.ow j h
  refine ⟨hw, ⟨?_, P.evo.trans ev, ⟨fun a o h n t => ?_, fun a h => ?_⟩, P4.tabs⟩⟩
  · refine P4.st.resl ?_ fun j hj => ?_
    · rw [wipe_len, ← hw, L2.wipe_length]; exact P4.st.len
    · obtain ⟨h1, h2⟩ := wipe_ne hj
      exact ⟨h2, by rw [wipeS_out h1, hσ j h1]⟩
  · exact P4.ext.keep a o (g a o (P.ext.keep a o h n t)) (fun m => n (P.evo.mutAt (T.mutAt m))) t
  · exact P.ext.trk a (g.none (P4.ext.trk a h))
theorem lc_end {vs : List Nat} {e1 e3 : En} {σ : L2.St} {H1 H : Hp} (S1 : StOk F e1 σ H1) (hv : ∀ j, j ∈ vs → (e1.g j).ly = false) (P : Pst F (wipe vs e1) (L2.wipe σ vs) H1 (wipe vs e3) H) : Pst F e1 σ H1 (wipe vs e3) H := by
  have back : ∀ {j : Nat} {f : Sl → Bool}, f .no = false → f ((wipe vs e1).g j) = true → f (e1.g j) = true := fun {j f} hf h => by
    rw [wipe_g] at h
    split at h
    · rw [hf] at h; cases h
    · exact h
  refine ⟨P.st.resl ?_ fun j hj => ?_, ⟨fun j h => back rfl (P.evo.mt j h), fun j h => back rfl (P.evo.ly j h), fun j xs h => ?_, fun j h => back rfl (P.evo.ln j h), fun j h => back rfl (P.evo.ow j h)⟩, ⟨fun a o h n t => P.ext.keep a o h (fun m => n ?_) t, P.ext.trk⟩, P.tabs⟩
  · have := P.st.len; rw [L2.wipe_length] at this; exact this
  · exact ⟨rfl, by rw [wipeS_out (wipe_ne hj).1]⟩
  · refine P.evo.lk j xs ?_
    rw [wipe_g, if_neg (fun z => ?_)]
    · exact h
    · have := hv j z
      rw [h] at this
      cases this
  · obtain ⟨j, h1, h2⟩ := m
    have hj : j ∉ vs := (wipe_ne (e := e1) (by intro z; rw [z] at h1; cases h1)).1
    exact ⟨j, back rfl h1, by rw [wipeS_out hj] at h2; exact h2⟩
def tKp (F : Fx) (m : M D) : TE := WP F m fun _ _ _ _ H' v d => RD F.K H' v d
theorem lc_imp (ok : F.Ok) {mi : M (List D × Lks)} {c : CT} {mf : M Bool} {me : M D} {vs : List Nat} (hts : ∀ j, j ∈ c.names → j ∈ vs) {σ : L2.St} {H : Hp} {Q : VK} (h : tE F (mi.bnd fun p => unl p.2 (comp vs (loopM vs (evT c) mf me p.1 []))) σ H Q) :
    tLc (tI F mi) (tG F c.names (evT c)) (tB F mf) (tKp F me) vs σ H Q := by
  obtain ⟨t, e, S, ev, e', hm, k⟩ := h
  obtain ⟨p, e1, h1, h2⟩ := bnd_ok hm
  obtain ⟨e2, h3, rfl⟩ := unl_ok h2
  have hc2 : (∀ j, j ∈ vs → (e1.g j).ly = false) ∧ ∃ ys e3, loopM vs (evT c) mf me p.1 [] (wipe vs e1) = some (.ok ys e3) ∧ ev = .fr ys ∧ e2 = wipe vs e3 := by
    unfold comp at h3
    split at h3
    · rename_i ha
      split at h3
      · rename_i ys e3 hl
        cases h3
        refine ⟨fun j hj => ?_, ys, e3, hl, rfl, rfl⟩
        have := List.all_eq_true.mp ha j hj
        simpa using this
      · cases h3
    · cases h3
  obtain ⟨hv, ys, e3, hl, rfl, rfl⟩ := hc2
  refine ⟨t, e, S, p, e1, h1, fun J H1 P1 l1 w => fun Dd hD => ?_⟩
  have S1 := P1.st
  have S1w : StOk F (wipe vs e1) (L2.wipe σ vs) H1 := S1.resl (by rw [wipe_len, L2.wipe_length]; exact S1.len) fun j hj => by
    obtain ⟨q1, q2⟩ := wipe_ne hj
    exact ⟨q2, wipeS_out q1⟩
  -- no slot bears the new list
  have nly : ∀ {ei : En} {H : Hp}, Pst F (wipe vs e1) (L2.wipe σ vs) H1 (wipe vs ei) H → ∀ j, ((wipe vs ei).g j).ly = true → (L2.wipe σ vs)[j]? ≠ some (some (.ref Dd)) := fun {ei H} P j hj z => by
    obtain ⟨us, q⟩ := S1w.lyLst (P.evo.ly j hj) z
    rw [hD] at q
    cases q
  refine lc_it w (fun i H => ∃ ei acc accV, loopM vs (evT c) mf me (p.1.drop i) acc ei = some (.ok ys e3) ∧ Pst F (wipe vs e1) (L2.wipe σ vs) H1 (wipe vs ei) H ∧ H Dd = some (.lst accV) ∧ RDs F.K H accV acc) ?_ ?_ ?_ ?_
  · refine ⟨wipe vs e1, [], [], by rw [List.drop_zero]; exact hl, ?_, upd_same, .nil⟩
    have P0 : Pst F (wipe vs e1) (L2.wipe σ vs) H1 (wipe vs (wipe vs e1)) H1 := by
      have hw : ∀ j, (wipe vs (wipe vs e1)).g j = (wipe vs e1).g j := fun j => by
        rw [wipe_g]
        split
        · rename_i hj; rw [wipe_g, if_pos hj]
        · rfl
      exact ⟨S1w.resl (by rw [wipe_len, wipe_len, L2.wipe_length]; exact S1.len) fun j _ => ⟨hw j, rfl⟩, ⟨fun j h => by rw [hw] at h; exact h, fun j h => by rw [hw] at h; exact h, fun j xs h => by rw [hw]; exact h, fun j h => by rw [hw] at h; exact h, fun j h => by rw [hw] at h; exact h⟩, Ext.refl _ _, P1.tabs⟩
    exact P0.grow ok (Grow.upd hD)
  · rintro i H2 hi ⟨ei, acc, accV, _, P, _, _⟩
    refine ⟨fun a o h n tt => P.ext.keep a o h (fun m => n ?_) tt, P.ext.trk⟩
    obtain ⟨j, q1, q2⟩ := m
    obtain ⟨q3, q4⟩ := wipe_ne (e := e1) (own := vs) (j := j) (by intro z; rw [z] at q1; cases q1)
    exact ⟨j, by rw [← q4]; exact q1, by rw [← wipeS_out q3]; exact q2⟩
  · rintro i x H2 H2' hi ⟨ei, acc, accV, hl2, P, hDd, rs⟩ ⟨g, d, hd, rd⟩
    have hdrop : p.1.drop i = d :: p.1.drop (i + 1) := by
      rw [List.drop_eq_getElem_cons hi]
      rw [List.getElem?_eq_getElem hi] at hd
      cases hd
      rfl
    rw [hdrop] at hl2
    simp only [loopM] at hl2
    obtain ⟨_, ea, q1, q2⟩ := bnd_ok hl2
    obtain ⟨b, eb, q3, q4⟩ := bnd_ok q2
    have Sg : StOk F (wipe vs ei) (L2.wipe σ vs) H2' := P.st.grow ok g
    refine ⟨P.tabs.ext g, wipe vs ei, Sg, d, rd, ea, q1, fun σ2 S2 T2 => ?_⟩
    have nD : ¬ MutAt ea σ2 Dd := fun m => by
      obtain ⟨us, q⟩ := S1w.mutLst (P.evo.mutAt (T2.mutAt m))
      rw [hD] at q
      cases q
    refine ⟨(turn_pst hts P g T2 (Pst.refl S2 (P.tabs.ext g))).1, P.tabs.ext g, ea, S2, b, eb, q3, fun b' H3 P3 hb => ?_⟩
    have hb : b' = b := hb
    subst hb
    cases b' with
    | true =>
      rw [if_pos rfl] at q4
      obtain ⟨y, ec, q5, q6⟩ := bnd_ok q4
      split at q6
      · rename_i hlen
        refine iteT ⟨P3.tabs, eb, P3.st, y, ec, q5, fun yv H4 P4 r4 => ?_⟩
        have P34 := P3.trans P4
        have TP := (turn_pst hts P g T2 P34).2
        have hD4 : H4 Dd = some (.lst accV) := P34.ext.keep Dd _ (g _ _ hDd) nD (by intro _ z; cases z)
        have per : Per H2 H4 := g.per.trans (P34.ext.per S2)
        refine ⟨accV, hD4, ?_, ec, acc ++ [y], accV ++ [yv], q6, ?_, upd_same, ?_⟩
        · rw [rs.length]; exact lenOk_lt hlen
        · refine ⟨TP.st.other ok hD4 (nly TP), TP.evo, ⟨fun a o h n tt => ?_, fun a h => ?_⟩, tabs_upd hD4 TP.tabs⟩
          · rw [upd_ne (ne_of_none h hD)]
            exact TP.ext.keep a o h n tt
          · by_cases z : a = Dd
            · rw [z, upd_same] at h; cases h
            · rw [upd_ne z] at h; exact TP.ext.trk a h
        · exact RDs.per (per_upd hD4) ((RDs.per per rs).append (.cons r4 .nil))
      · cases q6
    | false =>
      rw [if_neg Bool.false_ne_true] at q4
      have TP := (turn_pst hts P g T2 P3).2
      exact iteF ⟨eb, acc, accV, q4, TP, P3.ext.keep Dd _ (g _ _ hDd) nD (by intro _ z; cases z), RDs.per (g.per.trans (P3.ext.per S2)) rs⟩
  · rintro H2 ⟨ei, acc, accV, hl2, P, hDd, rs⟩
    rw [List.drop_length] at hl2
    simp only [loopM] at hl2
    obtain ⟨rfl, rfl⟩ := ret_ok hl2
    have P13 := P1.trans (lc_end S1 hv P)
    have PU := unlock_pst S P13 (l1.more (lc_end S1 hv P).evo)
    exact k _ _ PU ⟨Dd, accV, rfl, hDd, rs, P1.ext.trk _ hD⟩
theorem gl_lc (ok : F.Ok) {elt tg iter : Expr} {ifs : List Expr} {scope : Scope} {own : List (Str × Nat)} {pos : Pos} {mi : M (List D × Lks)} {c : CT} {mf : M Bool} {me : M D} (hc : X.calm = true) (hN : X.N.Nodup) (hi : PI X tg iter (tI F mi)) (bo : BlkOk X.N X.env.scope scope own)
    (hg : ∀ (s : Shared) (H : Hp) (C : Addr) (cl : List (Str × Addr)) (fp : List Addr), PG (X.blk s H scope (compEnvC scope cl C X.env) fp) tg (tG F c.names (evT c))) (ht : ∀ (s : Shared) (H : Hp) (C : Addr) (cl : List (Str × Addr)) (fp : List Addr), PTs (X.blk s H scope (compEnvC scope cl C X.env) fp) ifs (tB F mf))
    (he : ∀ (s : Shared) (H : Hp) (C : Addr) (cl : List (Str × Addr)) (fp : List Addr), PE (X.blk s H scope (compEnvC scope cl C X.env) fp) elt (tKp F me)) (hs : ∀ x, foldedSetIterable iter X.env x = pure x) (hts : ∀ j, j ∈ c.names → j ∈ own.map (·.2)) :
    PE X (.ListComp elt [⟨tg, iter, ifs, 0⟩] scope pos) (tE F (mi.bnd fun p => unl p.2 (comp (own.map (·.2)) (loopM (own.map (·.2)) (evT c) mf me p.1 [])))) :=
  pe_imp (pe_lc hc hN hi bo hg ht he hs) fun σ H Q h => lc_imp ok hts h
end
end Mi
end

section
set_option maxRecDepth 100000
set_option maxHeartbeats 2000000
/-! Mi: a comprehension with two sources. -/
namespace Mi
open PySem PySem.Spec PyProof.Rows L2
section
variable {F : Fx} {X : Cx}
theorem gen_it {J : It} {n : Nat} {G : Hp → Prop} {Y : Nat → Hp → V → Hp → Prop} (w : Walk J n G Y) {B : V → Hp → (Hp → Prop) → Prop} {Hs : Hp} {Qd : Hp → Prop} (Pv : Nat → Hp → Prop) (h0 : Pv 0 Hs) (hG : ∀ i H, i ≤ n → Pv i H → G H)
    (hs : ∀ i x H H', i < n → Pv i H → Y i H x H' → B x H' (Pv (i + 1))) (hd : ∀ H, Pv n H → Qd H) :
    ∃ W : Nat → Nat → Hp → Prop, (∃ m, W 0 m Hs) ∧ ∀ i m H, W i m H → (J.stop i H ∧ Qd H) ∨ (J.go i H ∧ ∃ Nx : Hp → Prop, (∀ H', Nx H' → ∃ m', m' < m ∧ W (i + 1) m' H') ∧ ∀ x H', J.yld i H x H' → B x H' Nx) := by
  refine ⟨fun i m H => m = n - i ∧ i ≤ n ∧ Pv i H, ⟨n, by simp, Nat.zero_le _, h0⟩, ?_⟩
  rintro i m H ⟨rfl, hi, p⟩
  by_cases hlt : i < n
  · exact .inr ⟨w.goes i H hlt (hG i H hi p), Pv (i + 1), fun H' p' => ⟨n - (i + 1), by omega, rfl, hlt, p'⟩, fun x H' y => hs i x H H' hlt p (w.yields i H x H' hlt (hG i H hi p) y)⟩
  · have e : i = n := by omega
    subst e
    exact .inl ⟨w.stops H (hG i H hi p), hd H p⟩
theorem compI_ok {vs : List Nat} {m : M (List D)} {e1 e2 : En} {ys : List D} (h : compI vs m e1 = some (.ok ys e2)) : (∀ j, j ∈ vs → (e1.g j).ly = false) ∧ ∃ e3, m (wipe vs e1) = some (.ok ys e3) ∧ e2 = wipe vs e3 := by
  unfold compI at h
  split at h
  · rename_i ha
    split at h
    · rename_i zs e3 hl
      cases h
      refine ⟨fun j hj => ?_, e3, hl, rfl⟩
      have := List.all_eq_true.mp ha j hj
      simpa using this
    · cases h
  · cases h
theorem wiped {e1 : En} {σ : L2.St} {H1 : Hp} {vs : List Nat} (S1 : StOk F e1 σ H1) : StOk F (wipe vs e1) (L2.wipe σ vs) H1 := S1.resl (by rw [wipe_len, L2.wipe_length]; exact S1.len) fun j hj => by
  obtain ⟨q1, q2⟩ := wipe_ne hj
  exact ⟨q2, wipeS_out q1⟩
theorem wiped2 {e1 : En} {σ : L2.St} {H1 : Hp} {vs : List Nat} (S1 : StOk F e1 σ H1) (t : LamX.Tabs F.T H1) : Pst F (wipe vs e1) (L2.wipe σ vs) H1 (wipe vs (wipe vs e1)) H1 := by
  have hw : ∀ j, (wipe vs (wipe vs e1)).g j = (wipe vs e1).g j := fun j => by
    rw [wipe_g]
    split
    · rename_i hj; rw [wipe_g, if_pos hj]
    · rfl
  exact ⟨(wiped S1).resl (by rw [wipe_len, wipe_len, L2.wipe_length]; exact S1.len) fun j _ => ⟨hw j, rfl⟩, ⟨fun j h => by rw [hw] at h; exact h, fun j h => by rw [hw] at h; exact h, fun j xs h => by rw [hw]; exact h, fun j h => by rw [hw] at h; exact h, fun j h => by rw [hw] at h; exact h⟩, Ext.refl _ _, t⟩
/-- no slot bears the list at Dd -/
def Nly (e : En) (σ : L2.St) (Dd : Addr) : Prop := ∀ j, (e.g j).ly = true → σ[j]? ≠ some (some (.ref Dd))
theorem Nly.mut {e : En} {σ : L2.St} {Dd : Addr} (n : Nly e σ Dd) : ¬ MutAt e σ Dd := fun ⟨j, h1, h2⟩ => n j (mt_ly h1) h2
theorem Nly.evo {e e' : En} {σ : L2.St} {Dd : Addr} (n : Nly e σ Dd) (v : Evo e e') : Nly e' σ Dd := fun j h => n j (v.ly j h)
theorem Nly.wipe {e : En} {σ : L2.St} {Dd : Addr} {vs : List Nat} (n : Nly e σ Dd) : Nly (Mi.wipe vs e) (L2.wipe σ vs) Dd := fun j h z => by
  obtain ⟨q1, q2⟩ := wipe_ne (e := e) (own := vs) (j := j) (by intro z; rw [z] at h; cases h)
  rw [wipeS_out q1] at z
  rw [q2] at h
  exact n j h z
theorem Nly.tch {ts : List Nat} {e e' : En} {σ σ' : L2.St} {Dd : Addr} (n : Nly e σ Dd) (t : Tch ts e σ e' σ') : Nly e' σ' Dd := fun j h z => by
  by_cases hj : j ∈ ts
  · have := (t.own j hj).1
    rw [h] at this
    cases this
  · obtain ⟨q1, q2⟩ := t.out j hj
    rw [q2] at h
    rw [q1] at z
    exact n j h z
/-- behind evaluations that may change the list at Dd, too -/
structure PstO (F : Fx) (Dd : Addr) (e : En) (σ : L2.St) (H : Hp) (e' : En) (H' : Hp) : Prop where
  st : StOk F e' σ H'
  evo : Evo e e'
  ext : Ext (fun a => MutAt e σ a ∨ a = Dd) H H'
  tabs : LamX.Tabs F.T H'
theorem Pst.o {e e' : En} {σ : L2.St} {H H' : Hp} (p : Pst F e σ H e' H') (Dd : Addr) : PstO F Dd e σ H e' H' := ⟨p.st, p.evo, ⟨fun a o h n t => p.ext.keep a o h (fun m => n (.inl m)) t, p.ext.trk⟩, p.tabs⟩
theorem PstO.trans {Dd : Addr} {e e1 e2 : En} {σ : L2.St} {H H1 H2 : Hp} (p : PstO F Dd e σ H e1 H1) (q : PstO F Dd e1 σ H1 e2 H2) : PstO F Dd e σ H e2 H2 :=
  ⟨q.st, p.evo.trans q.evo, ⟨fun a o h n t => q.ext.keep a o (p.ext.keep a o h n t) (fun m => n (m.imp p.evo.mutAt id)) t, fun a h => p.ext.trk a (q.ext.trk a h)⟩, q.tabs⟩
theorem PstO.pst {Dd : Addr} {e e1 : En} {σ : L2.St} {H H1 : Hp} (p : PstO F Dd e σ H e1 H1) (hD : H Dd = none) : Pst F e σ H e1 H1 :=
  ⟨p.st, p.evo, ⟨fun a o h n t => p.ext.keep a o h (fun m => m.elim n fun z => by rw [z, hD] at h; cases h) t, p.ext.trk⟩, p.tabs⟩
theorem PstO.per {Dd : Addr} {e e1 : En} {σ : L2.St} {H H1 : Hp} {us : List V} (S : StOk F e σ H) (p : PstO F Dd e σ H e1 H1) (hD : H Dd = some (.lst us)) : Per H H1 := by
  have key : ∀ a o, H a = some o → (∀ vs, o ≠ .lst vs) → ¬ (MutAt e σ a ∨ a = Dd) := fun a o h n m => by
    rcases m with m | m
    · obtain ⟨vs, q⟩ := S.mutLst m
      rw [h] at q
      exact n vs (Option.some.inj q)
    · rw [m, hD] at h
      exact n us (Option.some.inj h).symm
  exact ⟨fun a xs h => p.ext.keep a _ h (key a _ h (by intro _ z; cases z)) (by intro _ z; cases z), fun a o u h => p.ext.keep a _ h (key a _ h (by intro _ z; cases z)) (by intro _ z; cases z)⟩
/-- one turn, seen from the loop's start -/
theorem turnO {Dd : Addr} {vs ts : List Nat} {e1 ei ea ec : En} {σ σ2 : L2.St} {H1 H H' H4 : Hp} (hts : ∀ j, j ∈ ts → j ∈ vs) (P : PstO F Dd (wipe vs e1) (L2.wipe σ vs) H1 (wipe vs ei) H) (g : Grow H H') (T : Tch ts (wipe vs ei) (L2.wipe σ vs) ea σ2) (P4 : PstO F Dd ea σ2 H' ec H4) :
    PstO F Dd (wipe vs e1) (L2.wipe σ vs) H1 (wipe vs ec) H4 := by
  have hσ : ∀ j, j ∉ vs → σ2[j]? = σ[j]? := fun j hj => by
    rw [(T.out j (fun z => hj (hts j z))).1, wipeS_out hj]
  have hl : σ2.length = σ.length := by rw [T.len, L2.wipe_length]
  have hw : L2.wipe σ2 vs = L2.wipe σ vs := wipeS_eq hl hσ
  have key : ∀ j, (wipe vs ec).g j ≠ .no → (wipe vs ec).g j = ec.g j ∧ ea.g j = (wipe vs ei).g j := fun j h => by
    obtain ⟨h1, h2⟩ := wipe_ne h
    exact ⟨h2, (T.out j (fun z => h1 (hts j z))).2⟩
  have ev : Evo (wipe vs ei) (wipe vs ec) := by
    have pass : ∀ {f : Sl → Bool} {j : Nat}, f .no = false → (f (ec.g j) = true → f (ea.g j) = true) → f ((wipe vs ec).g j) = true → f ((wipe vs ei).g j) = true := fun {f j} hf hp h => by
      obtain ⟨q1, q2⟩ := key j (by intro z; rw [z, hf] at h; cases h)
      rw [q1] at h; rw [← q2]; exact hp h
    refine ⟨fun j => pass rfl (P4.evo.mt j), fun j => pass rfl (P4.evo.ly j), fun j xs h => ?_, fun j => pass rfl (P4.evo.ln j), fun j => pass rfl (P4.evo.ow j)⟩
    have hj : j ∉ vs := (wipe_ne (by rw [h]; intro z; cases z)).1
    rw [wipe_g, if_neg hj]
    refine P4.evo.lk j xs ?_
    rw [(T.out j (fun z => hj (hts j z))).2]
    exact h
  refine ⟨?_, P.evo.trans ev, ⟨fun a o h n t => ?_, fun a h => ?_⟩, P4.tabs⟩
  · refine P4.st.resl ?_ fun j hj => ?_
    · rw [wipe_len, ← hw, L2.wipe_length]; exact P4.st.len
    · obtain ⟨h1, h2⟩ := wipe_ne hj
      exact ⟨h2, by rw [wipeS_out h1, hσ j h1]⟩
  · exact P4.ext.keep a o (g a o (P.ext.keep a o h n t)) (fun m => n (m.imp (fun m => P.evo.mutAt (T.mutAt m)) id)) t
  · exact P.ext.trk a (g.none (P4.ext.trk a h))
theorem endO {Dd : Addr} {vs : List Nat} {e1 e3 : En} {σ : L2.St} {H1 H : Hp} (S1 : StOk F e1 σ H1) (hv : ∀ j, j ∈ vs → (e1.g j).ly = false) (P : PstO F Dd (wipe vs e1) (L2.wipe σ vs) H1 (wipe vs e3) H) : PstO F Dd e1 σ H1 (wipe vs e3) H := by
  have back : ∀ {j : Nat} {f : Sl → Bool}, f .no = false → f ((wipe vs e1).g j) = true → f (e1.g j) = true := fun {j f} hf h => by
    rw [wipe_g] at h
    split at h
    · rw [hf] at h; cases h
    · exact h
  refine ⟨P.st.resl ?_ fun j hj => ?_, ⟨fun j h => back rfl (P.evo.mt j h), fun j h => back rfl (P.evo.ly j h), fun j xs h => ?_, fun j h => back rfl (P.evo.ln j h), fun j h => back rfl (P.evo.ow j h)⟩, ⟨fun a o h n t => P.ext.keep a o h (fun m => n (m.imp (fun m => ?_) id)) t, P.ext.trk⟩, P.tabs⟩
  · have := P.st.len; rw [L2.wipe_length] at this; exact this
  · exact ⟨rfl, by rw [wipeS_out (wipe_ne hj).1]⟩
  · refine P.evo.lk j xs ?_
    rw [wipe_g, if_neg (fun z => ?_)]
    · exact h
    · have := hv j z
      rw [h] at this
      cases this
  · obtain ⟨j, h1, h2⟩ := m
    have hj : j ∉ vs := (wipe_ne (e := e1) (by intro z; rw [z] at h1; cases h1)).1
    exact ⟨j, back rfl h1, by rw [wipeS_out hj] at h2; exact h2⟩
/-- the list at Dd gets one more -/
theorem PstO.push (ok : F.Ok) {Dd : Addr} {e e1 : En} {σ : L2.St} {H H1 : Hp} {us ws : List V} (p : PstO F Dd e σ H e1 H1) (hD : H1 Dd = some (.lst us)) (nl : Nly e1 σ Dd) : PstO F Dd e σ H e1 (upd H1 Dd (.lst ws)) := by
  refine ⟨p.st.other ok hD nl, p.evo, ⟨fun a o h n t => ?_, fun a h => ?_⟩, tabs_upd hD p.tabs⟩
  · rw [upd_ne (fun z => n (.inr z))]
    exact p.ext.keep a o h n t
  · by_cases z : a = Dd
    · rw [z, upd_same] at h; cases h
    · rw [upd_ne z] at h; exact p.ext.trk a h
/-- the loop that adds to the list at Dd -/
theorem inner_it (ok : F.Ok) {c : CT} {mf : M Bool} {me : M D} {vs : List Nat} (hts : ∀ j, j ∈ c.names → j ∈ vs) {e1 e3 : En} {σ : L2.St} {H1 : Hp} {Dd : Addr} {items acc0 ys : List D} {accV0 : List V} {J : It} {Nx : Hp → Prop} (S1 : StOk F e1 σ H1) (tb : LamX.Tabs F.T H1)
    (nl : Nly e1 σ Dd) (w : Walk J items.length (fun H2 => Per H1 H2) (YD F items)) (hl : loopM vs (evT c) mf me items acc0 (wipe vs e1) = some (.ok ys e3)) (hD0 : H1 Dd = some (.lst accV0)) (rs0 : RDs F.K H1 accV0 acc0)
    (fin : ∀ H accV, PstO F Dd (wipe vs e1) (L2.wipe σ vs) H1 (wipe vs e3) H → H Dd = some (.lst accV) → RDs F.K H accV ys → Nx H) :
    ∃ W1 : Nat → Nat → Hp → Prop, (∃ k, W1 0 k H1) ∧ ∀ j k H, W1 j k H →
      (J.stop j H ∧ Nx H) ∨ (J.go j H ∧ ∃ Nx1 : Hp → Prop, (∀ H', Nx1 H' → ∃ k', k' < k ∧ W1 (j + 1) k' H') ∧ ∀ x H', J.yld j H x H' → tG F c.names (evT c) x (L2.wipe σ vs) H' fun σ3 H5 => L2.wipe σ3 vs = L2.wipe σ vs ∧ tB F mf σ3 H5 fun b H6 =>
        if b = true then tKp F me σ3 H6 fun y H7 => ∃ acc, H7 Dd = some (.lst acc) ∧ acc.length < sizeLine ∧ Nx1 (upd H7 Dd (.lst (acc ++ [y]))) else Nx1 H6) := by
  have S1w : StOk F (wipe vs e1) (L2.wipe σ vs) H1 := wiped S1
  have nw : Nly (wipe vs e1) (L2.wipe σ vs) Dd := nl.wipe
  refine gen_it (B := fun x H' Nx1 => tG F c.names (evT c) x (L2.wipe σ vs) H' fun σ3 H5 => L2.wipe σ3 vs = L2.wipe σ vs ∧ tB F mf σ3 H5 fun b H6 =>
        if b = true then tKp F me σ3 H6 fun y H7 => ∃ acc, H7 Dd = some (.lst acc) ∧ acc.length < sizeLine ∧ Nx1 (upd H7 Dd (.lst (acc ++ [y]))) else Nx1 H6) w
    (fun i H => ∃ ei acc accV, loopM vs (evT c) mf me (items.drop i) acc ei = some (.ok ys e3) ∧ PstO F Dd (wipe vs e1) (L2.wipe σ vs) H1 (wipe vs ei) H ∧ H Dd = some (.lst accV) ∧ RDs F.K H accV acc) ?_ ?_ ?_ ?_
  · exact ⟨wipe vs e1, acc0, accV0, by rw [List.drop_zero]; exact hl, (wiped2 S1 tb).o Dd, hD0, rs0⟩
  · rintro i H2 hi ⟨ei, acc, accV, _, P, _, _⟩
    exact P.per S1w hD0
  · rintro i x H2 H2' hi ⟨ei, acc, accV, hl2, P, hDd, rs⟩ ⟨g, d, hd, rd⟩
    have hdrop : items.drop i = d :: items.drop (i + 1) := by
      rw [List.drop_eq_getElem_cons hi]
      rw [List.getElem?_eq_getElem hi] at hd
      cases hd
      rfl
    rw [hdrop] at hl2
    simp only [loopM] at hl2
    obtain ⟨_, ea, q1, q2⟩ := bnd_ok hl2
    obtain ⟨b, eb, q3, q4⟩ := bnd_ok q2
    have Sg : StOk F (wipe vs ei) (L2.wipe σ vs) H2' := P.st.grow ok g
    refine ⟨P.tabs.ext g, wipe vs ei, Sg, d, rd, ea, q1, fun σ2 S2 T2 => ?_⟩
    have nA : Nly ea σ2 Dd := (nw.evo P.evo).tch T2
    have hw : L2.wipe σ2 vs = L2.wipe σ vs := (turn_pst hts (Pst.refl P.st P.tabs) g T2 (Pst.refl S2 (P.tabs.ext g))).1
    refine ⟨hw, P.tabs.ext g, ea, S2, b, eb, q3, fun b' H3 P3 hb => ?_⟩
    have hb : b' = b := hb
    subst hb
    have keepD : ∀ {ex : En} {H5 : Hp}, Pst F ea σ2 H2' ex H5 → H5 Dd = some (.lst accV) := fun {ex H5} p => p.ext.keep Dd _ (g _ _ hDd) nA.mut (by intro _ z; cases z)
    cases b' with
    | true =>
      rw [if_pos rfl] at q4
      obtain ⟨y, ec, q5, q6⟩ := bnd_ok q4
      split at q6
      · rename_i hlen
        refine iteT ⟨P3.tabs, eb, P3.st, y, ec, q5, fun yv H4 P4 r4 => ?_⟩
        have P34 := P3.trans P4
        have TP := turnO hts P g T2 (P34.o Dd)
        have hD4 := keepD P34
        have per : Per H2 H4 := g.per.trans (P34.ext.per S2)
        refine ⟨accV, hD4, ?_, ec, acc ++ [y], accV ++ [yv], q6, TP.push ok hD4 (nw.evo TP.evo), upd_same, ?_⟩
        · rw [rs.length]; exact lenOk_lt hlen
        · exact RDs.per (per_upd hD4) ((RDs.per per rs).append (.cons r4 .nil))
      · cases q6
    | false =>
      rw [if_neg Bool.false_ne_true] at q4
      exact iteF ⟨eb, acc, accV, q4, turnO hts P g T2 (P3.o Dd), keepD P3, RDs.per (g.per.trans (P3.ext.per S2)) rs⟩
  · rintro H2 ⟨ei, acc, accV, hl2, P, hDd, rs⟩
    rw [List.drop_length] at hl2
    simp only [loopM] at hl2
    obtain ⟨rfl, rfl⟩ := ret_ok hl2
    exact fin H2 accV P hDd rs
/-- a source that is data -/
def tIp (F : Fx) (m : M (List D)) : TI := fun σ H R => LamX.Tabs F.T H ∧ ∃ e, StOk F e σ H ∧ ∃ ds e', m e = some (.ok ds e') ∧ ∀ J H', Pst F e σ H e' H' → Walk J ds.length (fun H2 => Per H' H2) (YD F ds) → R J H'
theorem gl_ip (hK : X.K = F.K) {tg a : Expr} {ma : M D} (ha : PE X a (tKp F ma)) : PI X tg a (tIp F (walkM ma)) := by
  have three : PI X tg a (fun σ H R => iList X.K (tKp F ma) σ H R ∨ iTup X.K (tKp F ma) σ H R ∨ iStr (tKp F ma) σ H R) := by
    refine ⟨fun pins s σ H R I h => ?_⟩
    rcases h with h | h | h
    · exact (pi_list ha).run pins s σ H R I h
    · exact (pi_tup ha).run pins s σ H R I h
    · exact (pi_str ha).run pins s σ H R I h
  refine pi_imp three fun σ H R ⟨t, e, S, p, e', hm, k⟩ => ?_
  obtain ⟨q, e1, h1, h2⟩ := bnd_ok hm
  obtain ⟨h3, rfl⟩ := of_ok h2
  cases q with
  | list xs =>
    cases h3
    refine .inl ⟨t, e, S, _, e1, h1, fun v H1 P1 r1 => ?_⟩
    cases (show RD F.K H1 v (.list p) from r1) with
    | lst hs r =>
    refine ⟨_, rfl, ⟨_, by rw [hK]; exact hs.sq⟩, k _ _ P1 ?_⟩
    exact yAt (walk_list (K := X.K)) r (fun H2 x => by rw [hK]; exact (PerL.per x hs).sq) fun H2 x => x
  | tuple xs =>
    cases h3
    refine .inr (.inl ⟨t, e, S, _, e1, h1, fun v H1 P1 r1 => ?_⟩)
    cases (show RD F.K H1 v (.tuple p) from r1) with
    | tup hs r =>
    refine ⟨_, rfl, ⟨_, by rw [hK]; exact hs⟩, k _ _ P1 ?_⟩
    exact yAt (walk_tup (K := X.K)) r (fun H2 x => by rw [hK]; exact sqT_per x hs) fun H2 x => x
  | str z =>
    cases h3
    refine .inr (.inr ⟨t, e, S, _, e1, h1, fun v H1 P1 r1 => ?_⟩)
    cases (show RD F.K H1 v (.str z) from r1) with
    | str _ sok =>
    refine ⟨z, rfl, k _ _ P1 ?_⟩
    have hl : (signsL z).length = z.cps.size := by unfold signsL; simp
    rw [hl]
    refine walk_str.mono (fun _ _ => trivial) fun i H x H' hi g y => ?_
    obtain ⟨rfl, c, hc, rfl⟩ := y
    refine ⟨Grow.refl _, .str ⟨#[c]⟩, ?_, .str _ (strOk_sign sok (List.mem_iff_getElem?.mpr ⟨i, by rw [Array.getElem?_toList]; exact hc⟩))⟩
    unfold signsL
    rw [List.getElem?_map]
    simp [hc]
  | _ => cases h3
theorem lc2_imp (ok : F.Ok) {mi : M (List D × Lks)} {c c1 : CT} {mf mf1 : M Bool} {mi1 : M (List D)} {me : M D} {vs vs1 : List Nat} (hts : ∀ j, j ∈ c.names → j ∈ vs) (hts1 : ∀ j, j ∈ c1.names → j ∈ vs1) (hvs : ∀ j, j ∈ vs1 → j ∈ vs) {σ : L2.St} {H : Hp} {Q : VK}
    (h : tE F (mi.bnd fun p => unl p.2 (comp vs (loop2M vs (evT c) mf (fun acc => mi1.bnd fun q => compI vs1 (loopM vs1 (evT c1) mf1 me q acc)) p.1 []))) σ H Q) :
    tLc2 (tI F mi) (tG F c.names (evT c)) (tB F mf) (tIp F mi1) (tG F c1.names (evT c1)) (tB F mf1) (tKp F me) vs vs1 σ H Q := by
  obtain ⟨t, e, S, ev, e', hm, k⟩ := h
  obtain ⟨p, e1, h1, h2⟩ := bnd_ok hm
  obtain ⟨e2, h3, rfl⟩ := unl_ok h2
  have hc2 : (∀ j, j ∈ vs → (e1.g j).ly = false) ∧ ∃ ys e3, loop2M vs (evT c) mf (fun acc => mi1.bnd fun q => compI vs1 (loopM vs1 (evT c1) mf1 me q acc)) p.1 [] (wipe vs e1) = some (.ok ys e3) ∧ ev = .fr ys ∧ e2 = wipe vs e3 := by
    unfold comp at h3
    split at h3
    · rename_i ha
      split at h3
      · rename_i ys e3 hl
        cases h3
        refine ⟨fun j hj => ?_, ys, e3, hl, rfl, rfl⟩
        have := List.all_eq_true.mp ha j hj
        simpa using this
      · cases h3
    · cases h3
  obtain ⟨hv, ys, e3, hl, rfl, rfl⟩ := hc2
  refine ⟨t, e, S, p, e1, h1, fun J H1 P1 l1 w => fun Dd hD => ?_⟩
  have S1 := P1.st
  have S1w : StOk F (wipe vs e1) (L2.wipe σ vs) H1 := wiped S1
  have nw : Nly (wipe vs e1) (L2.wipe σ vs) Dd := fun j hj z => by
    obtain ⟨us, q⟩ := S1w.lyLst hj z
    rw [hD] at q
    cases q
  refine gen_it (Hs := upd H1 Dd (.lst [])) (Qd := fun H => Q (.ref Dd) H) (B := fun x H' Nx => tG F c.names (evT c) x (L2.wipe σ vs) H' fun σ2 H2 => L2.wipe σ2 vs = L2.wipe σ vs ∧ tB F mf σ2 H2 fun b H3 =>
    if b = true then tIp F mi1 σ2 H3 fun J1 H4 => ∃ W1 : Nat → Nat → Hp → Prop, (∃ m, W1 0 m H4) ∧ ∀ j k H, W1 j k H →
      (J1.stop j H ∧ Nx H) ∨ (J1.go j H ∧ ∃ Nx1 : Hp → Prop, (∀ H', Nx1 H' → ∃ k', k' < k ∧ W1 (j + 1) k' H') ∧ ∀ x H', J1.yld j H x H' → tG F c1.names (evT c1) x (L2.wipe σ2 vs1) H' fun σ3 H5 => L2.wipe σ3 vs1 = L2.wipe σ2 vs1 ∧ tB F mf1 σ3 H5 fun b H6 =>
        if b = true then tKp F me σ3 H6 fun y H7 => ∃ acc, H7 Dd = some (.lst acc) ∧ acc.length < sizeLine ∧ Nx1 (upd H7 Dd (.lst (acc ++ [y]))) else Nx1 H6)
    else Nx H3) w (fun i H => ∃ ei acc accV, loop2M vs (evT c) mf (fun acc => mi1.bnd fun q => compI vs1 (loopM vs1 (evT c1) mf1 me q acc)) (p.1.drop i) acc ei = some (.ok ys e3) ∧ PstO F Dd (wipe vs e1) (L2.wipe σ vs) H1 (wipe vs ei) H ∧ H Dd = some (.lst accV) ∧ RDs F.K H accV acc) ?_ ?_ ?_ ?_
  · exact ⟨wipe vs e1, [], [], by rw [List.drop_zero]; exact hl, ((wiped2 S1 P1.tabs).grow ok (Grow.upd hD)).o Dd, upd_same, .nil⟩
  · rintro i H2 hi ⟨ei, acc, accV, _, P, _, _⟩
    have P := P.pst hD
    refine ⟨fun a o h n tt => P.ext.keep a o h (fun m => n ?_) tt, P.ext.trk⟩
    obtain ⟨j, q1, q2⟩ := m
    obtain ⟨q3, q4⟩ := wipe_ne (e := e1) (own := vs) (j := j) (by intro z; rw [z] at q1; cases q1)
    exact ⟨j, by rw [← q4]; exact q1, by rw [← wipeS_out q3]; exact q2⟩
  · rintro i x H2 H2' hi ⟨ei, acc, accV, hl2, P, hDd, rs⟩ ⟨g, d, hd, rd⟩
    have hdrop : p.1.drop i = d :: p.1.drop (i + 1) := by
      rw [List.drop_eq_getElem_cons hi]
      rw [List.getElem?_eq_getElem hi] at hd
      cases hd
      rfl
    rw [hdrop] at hl2
    simp only [loop2M] at hl2
    obtain ⟨_, ea, q1, q2⟩ := bnd_ok hl2
    obtain ⟨b, eb, q3, q4⟩ := bnd_ok q2
    have Sg : StOk F (wipe vs ei) (L2.wipe σ vs) H2' := P.st.grow ok g
    refine ⟨P.tabs.ext g, wipe vs ei, Sg, d, rd, ea, q1, fun σ2 S2 T2 => ?_⟩
    have nA : Nly ea σ2 Dd := (nw.evo P.evo).tch T2
    have hw : L2.wipe σ2 vs = L2.wipe σ vs := (turn_pst hts (Pst.refl P.st P.tabs) g T2 (Pst.refl S2 (P.tabs.ext g))).1
    refine ⟨hw, P.tabs.ext g, ea, S2, b, eb, q3, fun b' H3 P3 hb => ?_⟩
    have hb : b' = b := hb
    subst hb
    have keepD : ∀ {ex : En} {H5 : Hp}, Pst F ea σ2 H2' ex H5 → H5 Dd = some (.lst accV) := fun {ex H5} p => p.ext.keep Dd _ (g _ _ hDd) nA.mut (by intro _ z; cases z)
    cases b' with
    | true =>
      rw [if_pos rfl] at q4
      obtain ⟨acc2, ec, q5, q6⟩ := bnd_ok q4
      obtain ⟨its, e4, q7, q8⟩ := bnd_ok q5
      obtain ⟨hv1, e5, q9, rfl⟩ := compI_ok q8
      refine iteT ⟨P3.tabs, eb, P3.st, its, e4, q7, fun J1 H4 P4 w4 => ?_⟩
      have P34 := P3.trans P4
      refine inner_it ok hts1 P4.st P4.tabs (nA.evo P34.evo) w4 q9 (keepD P34) (RDs.per (g.per.trans (P34.ext.per S2)) rs) fun H5 accV5 P5 hD5 rs5 => ?_
      exact ⟨wipe vs1 e5, acc2, accV5, q6, turnO hts P g T2 ((P34.o Dd).trans (endO P4.st hv1 P5)), hD5, rs5⟩
    | false =>
      rw [if_neg Bool.false_ne_true] at q4
      exact iteF ⟨eb, acc, accV, q4, turnO hts P g T2 (P3.o Dd), keepD P3, RDs.per (g.per.trans (P3.ext.per S2)) rs⟩
  · rintro H2 ⟨ei, acc, accV, hl2, P, hDd, rs⟩
    rw [List.drop_length] at hl2
    simp only [loop2M] at hl2
    obtain ⟨rfl, rfl⟩ := ret_ok hl2
    have P := P.pst hD
    have P13 := P1.trans (lc_end S1 hv P)
    have PU := unlock_pst S P13 (l1.more (lc_end S1 hv P).evo)
    exact k _ _ PU ⟨Dd, accV, rfl, hDd, rs, P1.ext.trk _ hD⟩
theorem gl_lc2 (ok : F.Ok) {elt tg iter tg1 iter1 : Expr} {ifs ifs1 : List Expr} {scope : Scope} {own : List (Str × Nat)} {vs1 : List Nat} {pos : Pos} {mi : M (List D × Lks)} {c c1 : CT} {mf mf1 : M Bool} {mi1 : M (List D)} {me : M D} (hc : X.calm = true) (hN : X.N.Nodup) (hi : PI X tg iter (tI F mi)) (bo : BlkOk X.N X.env.scope scope own) (hv : ∀ i ∈ vs1, i ∈ own.map (·.2))
    (hg : ∀ (s : Shared) (H : Hp) (C : Addr) (cl : List (Str × Addr)) (fp : List Addr), PG (X.blk s H scope (compEnvC scope cl C X.env) fp) tg (tG F c.names (evT c))) (ht : ∀ (s : Shared) (H : Hp) (C : Addr) (cl : List (Str × Addr)) (fp : List Addr), PTs (X.blk s H scope (compEnvC scope cl C X.env) fp) ifs (tB F mf))
    (hi1 : ∀ (s : Shared) (H : Hp) (C : Addr) (cl : List (Str × Addr)) (fp : List Addr), PI (X.blk s H scope (compEnvC scope cl C X.env) fp) tg1 iter1 (tIp F mi1))
    (hg1 : ∀ (s : Shared) (H : Hp) (C : Addr) (cl : List (Str × Addr)) (fp : List Addr), PG (X.blk s H scope (compEnvC scope cl C X.env) fp) tg1 (tG F c1.names (evT c1))) (ht1 : ∀ (s : Shared) (H : Hp) (C : Addr) (cl : List (Str × Addr)) (fp : List Addr), PTs (X.blk s H scope (compEnvC scope cl C X.env) fp) ifs1 (tB F mf1))
    (he : ∀ (s : Shared) (H : Hp) (C : Addr) (cl : List (Str × Addr)) (fp : List Addr), PE (X.blk s H scope (compEnvC scope cl C X.env) fp) elt (tKp F me)) (hs : ∀ x, foldedSetIterable iter X.env x = pure x) (hs1 : ∀ env x, foldedSetIterable iter1 env x = pure x) (hts : ∀ j, j ∈ c.names → j ∈ own.map (·.2)) (hts1 : ∀ j, j ∈ c1.names → j ∈ vs1) :
    PE X (.ListComp elt [⟨tg, iter, ifs, 0⟩, ⟨tg1, iter1, ifs1, 0⟩] scope pos) (tE F (mi.bnd fun p => unl p.2 (comp (own.map (·.2)) (loop2M (own.map (·.2)) (evT c) mf (fun acc => mi1.bnd fun q => compI vs1 (loopM vs1 (evT c1) mf1 me q acc)) p.1 [])))) :=
  pe_imp (pe_lc2 hc hN hi bo hv hg ht hi1 hg1 ht1 he hs hs1) fun σ H Q h => lc2_imp ok hts hts1 hv h
end
end Mi
end

section
set_option maxRecDepth 100000
set_option maxHeartbeats 1000000
/-! Mi: a dict of the module with text keys; the empty dict display. -/
namespace Mi
open PySem PySem.Spec PyProof.Rows L2
def cnV : Cn → V
  | .non => .non
  | .bl b => .bl b
  | .int i => .int i
  | .str x => .str x
def cnOk : Cn → Bool
  | .str x => PyData.strOk x && lenOk x.length
  | _ => true
theorem rd_cn {K : PySem.W.Frag} {k : Cn} (h : cnOk k = true) (H : Hp) : RD K H (cnV k) k.d := by
  cases k with
  | non => exact .non
  | bl b => exact .bl b
  | int i => exact .int i
  | str x =>
    refine .str x ?_
    have h : (PyData.strOk x && lenOk x.length) = true := h
    rw [Bool.and_eq_true] at h
    exact ⟨h.1, lenOk_le h.2⟩
/-- the dict at a: its keys in order, its values -/
def DctK (K : PySem.W.Frag) (w : World) (a : Addr) (kvs : List (Str × Cn)) : Prop := ∃ es n, K.lookup a = some ⟨.type "dict", none, .dict es n, #[]⟩ ∧ (a == sysModules) = false ∧ es.toList.map He.keyOf = He.keysIn w.params (kvs.map (·.1)) ∧
  (kvs.map (·.1)).Nodup ∧ ∀ z c, kvs.lookup z = some c → ∃ u, PySem.W.nsIn K a z = some (some u) ∧ RelV (cnV c) u
def kvOk (kvs : List (Str × Cn)) : Bool := lenOk kvs.length && kvs.all fun p => cnOk (.str p.1) && cnOk p.2
theorem pairs_of {P : Program} {w : World} : ∀ {l : List DictEntry} {ks : List Str}, l.map He.keyOf = He.keysIn w.params ks → Pairs (PySem.strKind P w) l (ks.zip (l.map (·.val)))
  | [], [], _ => .nil
  | [], k :: ks, h => by cases h
  | e :: r, [], h => by cases h
  | e :: r, k :: ks, h => by
    have h1 : He.keyOf e :: r.map He.keyOf = some (k, PyData.keyHash w.params k) :: He.keysIn w.params ks := h
    injection h1 with h2 h3
    unfold He.keyOf at h2
    split at h2
    · rename_i x t q
      obtain ⟨h5, _⟩ := Prod.mk.inj (Option.some.inj h2)
      subst h5
      exact .cons (by rw [q]; exact PySem.strKind_is P w x t) rfl (pairs_of h3)
    · cases h2
theorem dct_at {P : Program} {w : World} {K : PySem.W.Frag} {h : Heap} {a : Addr} {kvs : List (Str × Cn)} (X : K.In h) (D : DctK K w a kvs) : ∃ vs : List Value, vs.length = kvs.length ∧ h.DictOf (PySem.strKind P w) a ((kvs.map (·.1)).zip vs) := by
  obtain ⟨es, n, hl, lo, hk, nd, _⟩ := D
  have hlen : es.toList.length = kvs.length := by
    have := congrArg List.length hk
    unfold He.keysIn at this
    simpa using this
  refine ⟨es.toList.map (·.val), by rw [List.length_map, hlen], _, es, n, X _ _ hl, ⟨rfl, rfl, rfl⟩, rfl, fun e he => ?_, pairs_of hk, ?_⟩
  · obtain ⟨x, t, e1, e2⟩ := (He.keysLit_of hk).all e (Array.mem_toList_iff.mpr he)
    exact ⟨x, by rw [e1]; exact PySem.strKind_is P w x t, e2⟩
  · rw [List.map_fst_zip]
    · exact nd
    · rw [List.length_map, List.length_map, hlen]; exact Nat.le_refl _
theorem vals_at : ∀ {vs : List V} {us : List Value}, us.length = vs.length → (∀ (i : Nat) (u : Value), us[i]? = some u → ∃ v, vs[i]? = some v ∧ RelV v u) → Vals vs us
  | [], [], _, _ => .nil
  | [], _ :: _, h, _ => by simp at h
  | _ :: _, [], h, _ => by simp at h
  | v :: vs, u :: us, h, k => by
    obtain ⟨v', q1, q2⟩ := k 0 u rfl
    rw [List.getElem?_cons_zero] at q1
    cases q1
    exact .cons q2 (vals_at (by simpa using h) fun i u hu => by simpa using k (i + 1) u (by rw [List.getElem?_cons_succ]; exact hu))
theorem lookup_memL {β : Type} {z : Str} {c : β} : ∀ {l : List (Str × β)}, l.lookup z = some c → (z, c) ∈ l
  | [], h => by cases h
  | (k, v) :: r, h => by
    by_cases e : z = k
    · subst e
      simp [List.lookup] at h
      rw [h]
      exact List.mem_cons_self
    · have hb : (z == k) = false := beq_eq_false_iff_ne.mpr e
      simp only [List.lookup, hb] at h
      exact List.mem_cons_of_mem _ (lookup_memL h)
section
variable {X : Cx} {F : Fx}
/-- list(d) -/
theorem cr_dkeys (hcalm : X.calm = true) {a : Addr} {kvs : List (Str × Cn)} (D : DctK X.K X.w a kvs) (hz : kvs.length ≤ sizeLine) : CallR X (.type "list") (fun xs H Q => xs = [V.ref a] ∧ ∀ p, H p = none → Q (.ref p) (upd H p (.lst (kvs.map fun q => V.str q.1)))) := by
  intro pins s σ H xs us Q I r q
  obtain ⟨ex, q⟩ := q
  subst ex
  obtain ⟨u, eu, rx⟩ := vals1 r
  subst eu
  cases rx
  obtain ⟨vs, hvl, dd⟩ := dct_at (P := X.prog) I.kIn D
  obtain ⟨ep, hat⟩ := dd.dictAt
  obtain ⟨es, n, hl, lo, hk, nd, _⟩ := D
  have hzl : ((kvs.map (·.1)).zip vs).length = kvs.length := by rw [List.length_zip, List.length_map, hvl, Nat.min_self]
  refine PySem.W.kdl_call (PySem.W.kdl_dict (knd := PySem.strKind X.prog X.w) (kvs := (kvs.map (·.1)).zip vs) (ep := ep) lo) (I.ok.hd hcalm) hat (by rw [hzl]; exact hz) fun h' tk acc c' hk' hD hacc => ?_
  have hv : Vals (kvs.map fun q => V.str q.1) acc.toList := vals_at (by rw [Array.length_toList, hacc.1, hzl, List.length_map]) fun i u hu => by
    obtain ⟨k, x, e1, e2⟩ := hacc.2 i u (by rw [← Array.getElem?_toList]; exact hu)
    obtain ⟨t, rfl⟩ := Value.isStrOf_shape e2
    have e3 : (kvs.map (·.1))[i]? = some k := by
      have := congrArg (Option.map Prod.fst) e1
      rw [← List.getElem?_map, List.map_fst_zip] at this
      · exact this
      · rw [List.length_map, hvl]; exact Nat.le_refl _
    rw [List.getElem?_map] at e3
    obtain ⟨p, e4, e5⟩ := map_ok e3
    exact ⟨.str k, by rw [List.getElem?_map, e4]; exact congrArg (fun z => some (V.str z)) e5, t, rfl⟩
  exact ⟨.ref s.heap.objs.size, upd H s.heap.objs.size (.lst (kvs.map fun q => V.str q.1)), I.laid (t' := tk) hk' (Nat.le_refl _)
    (show ObjOk X.prog X.w _ _ _ (.lst (kvs.map fun q => V.str q.1)) from ⟨by rw [List.length_map]; exact hz, acc.toList, c', hv, by rw [Array.toArray_toList]; exact hD⟩), rfl, q _ (I.hok.fresh (Nat.le_refl _))⟩
def strsE : List (Str × Cn) → CEs
  | [] => .nil
  | p :: r => .cons false (.cst (.str p.1)) (strsE r)
theorem ev_strs {G : Gm} : ∀ (kvs : List (Str × Cn)) (e : En), evEs G (strsE kvs) e = some (.ok (kvs.map fun p => PyData.str p.1) e)
  | [], e => rfl
  | p :: r, e => by
    have ih := ev_strs (G := G) r e
    simp only [strsE, evEs]
    show (kp (evE G (.cst (.str p.1)))).bnd _ e = _
    simp only [evE]
    simp only [M.bnd, kp, M.ret, M.of, EV.keep, Cn.d, ih, List.map_cons]
theorem rds_keys {K : PySem.W.Frag} {H : Hp} : ∀ {kvs : List (Str × Cn)}, (kvs.all fun p => cnOk (.str p.1) && cnOk p.2) = true → RDs K H (kvs.map fun q => V.str q.1) (kvs.map fun p => PyData.str p.1)
  | [], _ => .nil
  | p :: r, h => by
    rw [List.all_cons, Bool.and_eq_true, Bool.and_eq_true] at h
    exact .cons (rd_cn (k := .str p.1) h.1.1 H) (rds_keys h.2)
theorem gl_dkeys (ok : F.Ok) {G : Gm} (hcalm : X.calm = true) {x y : Str} {a : Addr} {kvs : List (Str × Cn)} {p p2 pos : Pos} (D : DctK X.K X.w a kvs) (hk : kvOk kvs = true) (hg : Gl X x) (hm : X.mg x = none) (hv : bootBuiltins x = some (.type "list")) (hn : x ≠ "__name__") (hdb : (x == ("__debug__" : Str)) = false)
    (ha : PE X (.Name y p2) (tC (.ref a))) (hs : starEach [.Name y p2] X.env = (false, eval (.Name y p2) X.env) :: starEach [] X.env) (hpl : (backTo pos (starEach [] X.env)).any (·.1) = false) : PE X (.Call (.Name x p) [.Name y p2] [] pos) (tE F (evE G (.lst (strsE kvs)))) := by
  unfold kvOk at hk
  rw [Bool.and_eq_true] at hk
  refine pe_imp (pe_callTy (cr_dkeys hcalm D (lenOk_le hk.1)) hg hm hv (pa_cons ha pa_nil hs) hn hdb hs hpl) fun σ H Q ⟨t, e, S, ev, e', hm', k⟩ => ?_
  simp only [evE] at hm'
  obtain ⟨xs, e1, h1, h2⟩ := bnd_ok hm'
  rw [ev_strs] at h1
  cases h1
  split at h2
  · obtain ⟨rfl, rfl⟩ := ret_ok h2
    refine ⟨rfl, fun q hq => k _ _ ((Pst.refl S t).grow ok (Grow.upd hq)) ?_⟩
    exact (out_fr hq (rds_keys hk.2)).rev (Pst.refl S t)
  · cases h2
/-- d[e] -/
theorem gl_look (ok : F.Ok) {kvs : List (Str × Cn)} {a : Addr} {o i : Expr} {pos : Pos} {mb : M (EV × Lks)} (D : DctK X.K X.w a kvs) (hk : kvOk kvs = true) (ha : PE X o (tC (.ref a))) (hb : PE X i (tK F mb)) (hs : PlainIx i) :
    PE X (.Subscript o i pos) (tE F (mb.bnd fun p => unl p.2 (M.of (lookD kvs p.1.dat)))) := by
  unfold kvOk at hk
  rw [Bool.and_eq_true] at hk
  refine pe_imp (pe_ix (ix_kdict (X := X)) ha hb hs) fun σ H Q h => ?_
  have h2 := one ok (g := fun d => lookD kvs d) h
  obtain ⟨t, e, S, p, e', hm, k⟩ := h2
  refine ⟨t, e, S, p, e', hm, fun x H1 P1 r1 => ?_⟩
  obtain ⟨dx, ev, hx, hg, k2⟩ := k x H1 P1 r1
  cases dx with
  | str z =>
    obtain ⟨c, h3, rfl⟩ := map_ok (show (kvs.lookup z).map (fun c => EV.val c.d) = some ev from hg)
    obtain ⟨es, n, hl, lo, hkk, nd, hval⟩ := D
    obtain ⟨u, h4, h5⟩ := hval z c h3
    have hc : cnOk c = true := by
      have := List.all_eq_true.mp hk.2 (z, c) (lookup_memL h3)
      rw [Bool.and_eq_true] at this
      exact this.2
    exact ⟨a, z, cnV c, rfl, hx.str.1, ⟨es, n, u, hl, He.keysLit_of hkk, h4, h5⟩, k2 _ _ (out_d (rd_cn hc H1))⟩
  | _ => cases hg
/-- {} -/
theorem gl_emp (ok : F.Ok) {pos : Pos} : PE X (.Dict [] [] pos) (tE F (M.ret (.val (.dict [])))) := by
  have fz : PE X (.Dict [] [] pos) (fun σ H Q => ∀ p, H p = none → ∀ ob, Q (.ref p) (upd H p (.frz ob (.dK [])))) := by
    refine ⟨fun pins s σ H Q I q => thn ((pe_dnewK (X := X) (pos := pos)).run pins s σ H (fun v H1 => ∃ p, v = .ref p ∧ H p = none ∧ H1 = upd H p (.dK [])) I fun p hp => ⟨p, rfl, hp, rfl⟩) fun v s1 ⟨x, H1, I1, r1, p, ex, hp, eH⟩ => ?_⟩
    subst ex eH
    obtain ⟨od, I2⟩ := I1.lock (d := p) (u := .dK []) upd_same trivial
    have e : upd (upd H p (.dK [])) p (.frz od (.dK [])) = upd H p (.frz od (.dK [])) := by
      funext b
      by_cases z : b = p
      · rw [z, upd_same, upd_same]
      · rw [upd_ne z, upd_ne z, upd_ne z]
    rw [e] at I2
    exact ⟨_, _, I2, r1, q p hp od⟩
  refine pe_imp fz fun σ H Q ⟨t, e, S, ev, e', hm, k⟩ => fun p hp ob => ?_
  obtain ⟨rfl, rfl⟩ := ret_ok hm
  exact k _ _ ((Pst.refl S t).grow ok (Grow.upd hp)) (.emp (o := ob) upd_same)
end
end Mi
end

section
set_option maxRecDepth 100000
set_option maxHeartbeats 1000000
/-! Mi: statements. -/
namespace Mi
open PySem PySem.Spec PyProof.Rows L2
section
variable {F : Fx} {X : Cx}
def OwnAt (e : En) (σ : L2.St) (a : Addr) : Prop := ∃ j, (e.g j).ow = true ∧ σ[j]? = some (some (.ref a))
/-- behind statements -/
structure Sst (F : Fx) (e : En) (σ : L2.St) (H : Hp) (e' : En) (σ' : L2.St) (H' : Hp) : Prop where
  st : StOk F e' σ' H'
  ext : Ext (MutAt e σ) H H'
  tabs : LamX.Tabs F.T H'
  own : ∀ a, OwnAt e' σ' a → OwnAt e σ a ∨ H a = none
  lk : ∀ i xs, e.g i = .lock xs → e'.g i = .lock xs ∧ σ'[i]? = σ[i]?
  ln : ∀ i, (e'.g i).ln = true → (e.g i).ln = true ∧ σ'[i]? = σ[i]?
theorem mt_cases {s : Sl} (h : s.mt = true) : s.ow = true ∨ s.ln = true := by cases s <;> first | exact .inl rfl | exact .inr rfl | cases h
theorem ow_mt {s : Sl} (h : s.ow = true) : s.mt = true := by cases s <;> first | rfl | cases h
theorem ln_mt {s : Sl} (h : s.ln = true) : s.mt = true := by cases s <;> first | rfl | cases h
theorem Pst.sst {e e' : En} {σ : L2.St} {H H' : Hp} (p : Pst F e σ H e' H') : Sst F e σ H e' σ H' :=
  ⟨p.st, p.ext, p.tabs, fun a ⟨j, h1, h2⟩ => .inl ⟨j, p.evo.ow j h1, h2⟩, fun i xs h => ⟨p.evo.lk i xs h, rfl⟩, fun i h => ⟨p.evo.ln i h, rfl⟩⟩
theorem Sst.refl {e : En} {σ : L2.St} {H : Hp} (S : StOk F e σ H) (t : LamX.Tabs F.T H) : Sst F e σ H e σ H := (Pst.refl S t).sst
theorem Sst.mut {e e' : En} {σ σ' : L2.St} {H H' : Hp} (p : Sst F e σ H e' σ' H') {a : Addr} (h : MutAt e' σ' a) : MutAt e σ a ∨ H a = none := by
  obtain ⟨j, h1, h2⟩ := h
  rcases mt_cases h1 with q | q
  · rcases p.own a ⟨j, q, h2⟩ with ⟨k, q1, q2⟩ | q
    · exact .inl ⟨k, ow_mt q1, q2⟩
    · exact .inr q
  · obtain ⟨q1, q2⟩ := p.ln j q
    exact .inl ⟨j, ln_mt q1, by rw [← q2]; exact h2⟩
theorem Sst.trans {e e1 e2 : En} {σ σ1 σ2 : L2.St} {H H1 H2 : Hp} (p : Sst F e σ H e1 σ1 H1) (q : Sst F e1 σ1 H1 e2 σ2 H2) : Sst F e σ H e2 σ2 H2 := by
  refine ⟨q.st, ⟨fun a o h n t => q.ext.keep a o (p.ext.keep a o h n t) (fun m => ?_) t, fun a h => p.ext.trk a (q.ext.trk a h)⟩, q.tabs, fun a h => ?_, fun i xs h => ?_, fun i h => ?_⟩
  · rcases p.mut m with z | z
    · exact n z
    · rw [h] at z; cases z
  · rcases q.own a h with z | z
    · exact p.own a z
    · exact .inr (p.ext.trk a z)
  · obtain ⟨h1, h2⟩ := p.lk i xs h
    obtain ⟨h3, h4⟩ := q.lk i xs h1
    exact ⟨h3, h4.trans h2⟩
  · obtain ⟨h1, h2⟩ := q.ln i h
    obtain ⟨h3, h4⟩ := p.ln i h1
    exact ⟨h3, h2.trans h4⟩
theorem Sst.grow (ok : F.Ok) {e : En} {σ : L2.St} {H H' : Hp} (S : StOk F e σ H) (t : LamX.Tabs F.T H) (g : Grow H H') : Sst F e σ H e σ H' := ((Pst.refl S t).grow ok g).sst
/-- a target's store -/
theorem Tch.sst {ts : List Nat} {e e' : En} {σ σ' : L2.St} {H : Hp} (S : StOk F e' σ' H) (t : LamX.Tabs F.T H) (T : Tch ts e σ e' σ') : Sst F e σ H e' σ' H := by
  have notin : ∀ j, ((e'.g j).ly = true) → j ∉ ts := fun j h z => by
    rw [(T.own j z).1] at h
    cases h
  refine ⟨S, Ext.refl _ _, t, fun a ⟨j, h1, h2⟩ => .inl ⟨j, ?_⟩, fun i xs h => ?_, fun i h => ?_⟩
  · obtain ⟨q1, q2⟩ := T.out j (notin j (mt_ly (ow_mt h1)))
    rw [q2] at h1
    rw [q1] at h2
    exact ⟨h1, h2⟩
  · have hi : i ∉ ts := fun z => (T.own i z).2.2 xs h
    obtain ⟨q1, q2⟩ := T.out i hi
    exact ⟨by rw [q2]; exact h, q1⟩
  · obtain ⟨q1, q2⟩ := T.out i (notin i (mt_ly (ln_mt h)))
    rw [q2] at h
    exact ⟨h, q1⟩
/-- locks undone behind statements -/
theorem unlock_sst {e e1 : En} {σ : L2.St} {H H1 : Hp} (S : StOk F e σ H) : ∀ {ls : Lks} {e' : En} {σ' : L2.St} {H' : Hp}, Sst F e σ H e' σ' H' → (ls.map (·.1)).Nodup →
    (∀ p ∈ ls, (p.2.ln = true → (e.g p.1).ln = true) ∧ (p.2.ow = true → (e.g p.1).ow = true) ∧ (e.g p.1).mt = true ∧ ∃ xs, (p.2 = .own xs ∨ p.2 = .lent xs) ∧ e'.g p.1 = .lock xs ∧ σ'[p.1]? = σ[p.1]?) → Sst F e σ H (unlock ls e') σ' H'
  | [], _, _, _, p, _, _ => p
  | (i, s) :: r, e', σ', H', p, nd, l => by
    rw [List.map_cons, List.nodup_cons] at nd
    obtain ⟨hln, how, hm, xs, hs, hk, hσ⟩ := l (i, s) List.mem_cons_self
    have hln : s.ln = true → (e.g i).ln = true := hln
    have how : s.ow = true → (e.g i).ow = true := how
    have hk : e'.g i = .lock xs := hk
    have hσ : σ'[i]? = σ[i]? := hσ
    have hi : i < e'.length := En.g_lt (by rw [hk]; intro z; cases z)
    have q := p.st.sl i
    rw [hk] at q
    have hR : RSl F H' σ'[i]? s := by
      rcases hs with z | z
      · have z : s = .own xs := z
        subst z; exact q
      · have z : s = .lent xs := z
        subst z; exact q
    have hsnl : ∀ ys, s ≠ .lock ys := fun ys z => by
      rcases hs with y | y
      · have y : s = .own xs := y
        rw [y] at z; cases z
      · have y : s = .lent xs := y
        rw [y] at z; cases z
    have S2 : StOk F (e'.set i s) σ' H' := p.st.put hR (fun _ j a b hj h1 h2 h3 => p.st.ap i j a b (Ne.symm hj) (by rw [hk]; rfl) h1 h2 h3)
    have P2 : Sst F e σ H (e'.set i s) σ' H' := by
      refine ⟨S2, p.ext, p.tabs, fun a ⟨j, h1, h2⟩ => ?_, fun j ys h => ?_, fun j h => ?_⟩
      · by_cases hj : i = j
        · subst hj
          rw [En.g_self hi] at h1
          exact .inl ⟨i, how h1, by rw [← hσ]; exact h2⟩
        · rw [En.g_ne hj] at h1
          exact p.own a ⟨j, h1, h2⟩
      · by_cases hj : i = j
        · subst hj; rw [h] at hm; cases hm
        · rw [En.g_ne hj]; exact p.lk j ys h
      · by_cases hj : i = j
        · subst hj
          rw [En.g_self hi] at h
          exact ⟨hln h, hσ⟩
        · rw [En.g_ne hj] at h; exact p.ln j h
    refine unlock_sst S (ls := r) (e' := e'.set i s) (e1 := e1) (H1 := H1) P2 nd.2 fun w hw => ?_
    obtain ⟨h1, h2, h3, ys, h4, h5, h6⟩ := l w (List.mem_cons_of_mem _ hw)
    refine ⟨h1, h2, h3, ys, h4, ?_, h6⟩
    have hne : i ≠ w.1 := fun z => nd.1 (List.mem_map.mpr ⟨w, hw, z.symm⟩)
    rw [En.g_ne hne]
    exact h5
theorem unlock_sst2 {e e1 e' : En} {σ σ' : L2.St} {H H1 H' : Hp} {ls : Lks} (S : StOk F e σ H) (P : Pst F e σ H e1 H1) (l : Locks e e1 ls) (p : Sst F e1 σ H1 e' σ' H') : Sst F e σ H (unlock ls e') σ' H' := by
  refine unlock_sst (e1 := e1) (H1 := H1) S (P.sst.trans p) l.1 fun w hw => ?_
  obtain ⟨h1, h2, h3, xs, h4, h5⟩ := l.2 w hw
  obtain ⟨h6, h7⟩ := p.lk _ _ h5
  exact ⟨h2, h3, h1, xs, h4, h6, h7⟩
/-- a returned value -/
def RR (F : Fx) (e : En) (σ : L2.St) (H H' : Hp) (w : V) : EV → Prop
  | .val d => RD F.K H' w d
  | .fr xs => ∃ a vs, w = .ref a ∧ H' a = some (.lst vs) ∧ RDs F.K H' vs xs ∧ (OwnAt e σ a ∨ H a = none)
  | .bor _ => False
theorem RR.step {e e1 : En} {σ σ1 : L2.St} {H H1 H' : Hp} {w : V} {ev : EV} (p : Sst F e σ H e1 σ1 H1) (h : RR F e1 σ1 H1 H' w ev) : RR F e σ H H' w ev := by
  cases ev with
  | val d => exact h
  | fr xs =>
    obtain ⟨a, vs, h1, h2, h3, h4⟩ := h
    refine ⟨a, vs, h1, h2, h3, ?_⟩
    rcases h4 with z | z
    · exact p.own a z
    · exact .inr (p.ext.trk a z)
  | bor xs => exact h
/-- what is wanted at an end -/
def Fin (F : Fx) (Ds : Ends) (e : En) (σ : L2.St) (H : Hp) : Fl → Prop
  | .nx e' => ∀ σ' H', Sst F e σ H e' σ' H' → Ds.nx σ' H'
  | .bk e' => ∀ σ' H', Sst F e σ H e' σ' H' → Ds.bk σ' H'
  | .ct e' => ∀ σ' H', Sst F e σ H e' σ' H' → Ds.ct σ' H'
  | .rt v e' => ∀ w σ' H', Sst F e σ H e' σ' H' → RR F e σ H H' w v → Ds.rt w H'
  | .exc _ _ => False
theorem Fin.step {Ds : Ends} {e e1 : En} {σ σ1 : L2.St} {H H1 : Hp} {fl : Fl} (p : Sst F e σ H e1 σ1 H1) (h : Fin F Ds e σ H fl) : Fin F Ds e1 σ1 H1 fl := by
  cases fl with
  | nx e' => exact fun σ' H' q => h σ' H' (p.trans q)
  | bk e' => exact fun σ' H' q => h σ' H' (p.trans q)
  | ct e' => exact fun σ' H' q => h σ' H' (p.trans q)
  | rt v e' => exact fun w σ' H' q r => h w σ' H' (p.trans q) (r.step p)
  | exc x e' => exact h
def tS (F : Fx) (m : En → Option Fl) : TS := fun Ds σ H => LamX.Tabs F.T H ∧ ∃ e, StOk F e σ H ∧ ∃ fl, m e = some fl ∧ Fin F Ds e σ H fl
theorem ps_imp {st : Stmt} {t t' : TS} (h : PS X st t) (i : ∀ Ds σ H, t' Ds σ H → t Ds σ H) : PS X st t' := ⟨fun pins s σ H Ds I q => h.run pins s σ H Ds I (i _ _ _ q)⟩
theorem pss_imp {st : List Stmt} {t t' : TS} (h : PSs X st t) (i : ∀ Ds σ H, t' Ds σ H → t Ds σ H) : PSs X st t' := ⟨fun pins s σ H Ds I q => h.run pins s σ H Ds I (i _ _ _ q)⟩
theorem flow_ok {α : Type} {m : M α} {k : α → En → Option Fl} {e : En} {fl : Fl} (h : flow m k e = some fl) (hx : ∀ x e1, fl ≠ .exc x e1) : ∃ a e1, m e = some (.ok a e1) ∧ k a e1 = some fl := by
  unfold flow at h
  split at h
  · cases h
  · rename_i x e1 _
    cases h
    exact absurd rfl (hx x e1)
  · exact ⟨_, _, by assumption, h⟩
theorem Fin.nox {Ds : Ends} {e : En} {σ : L2.St} {H : Hp} {fl : Fl} (h : Fin F Ds e σ H fl) : ∀ x e1, fl ≠ .exc x e1 := fun x e1 z => by
  subst z
  exact h
/-! ### one after another -/
theorem gl_snil : PSs X [] (tS F fun e => some (.nx e)) := by
  refine pss_imp pss_nil fun Ds σ H ⟨t, e, S, fl, hm, k⟩ => ?_
  cases hm
  exact k σ H (Sst.refl S t)
def seqS (m1 m2 : En → Option Fl) : En → Option Fl := fun e => match m1 e with
  | some (.nx e1) => m2 e1
  | o => o
theorem gl_scons {st : Stmt} {rest : List Stmt} {m1 m2 : En → Option Fl} (h1 : PS X st (tS F m1)) (h2 : PSs X rest (tS F m2)) : PSs X (st :: rest) (tS F (seqS m1 m2)) := by
  refine pss_imp (pss_cons h1 h2) fun Ds σ H ⟨t, e, S, fl, hm, k⟩ => ?_
  unfold seqS at hm
  cases h0 : m1 e with
  | none => rw [h0] at hm; cases hm
  | some f1 =>
    rw [h0] at hm
    cases f1 with
    | nx e1 => exact ⟨t, e, S, _, h0, fun σ' H' q => ⟨q.tabs, e1, q.st, fl, hm, k.step q⟩⟩
    | bk e1 => cases hm; exact ⟨t, e, S, _, h0, k⟩
    | ct e1 => cases hm; exact ⟨t, e, S, _, h0, k⟩
    | rt v e1 => cases hm; exact ⟨t, e, S, _, h0, k⟩
    | exc x e1 => cases hm; exact k.elim
theorem gl_pass {pos : Pos} : PS X (.Pass pos) (tS F fun e => some (.nx e)) := ps_imp ps_pass fun Ds σ H ⟨t, e, S, fl, hm, k⟩ => by
  cases hm
  exact k σ H (Sst.refl S t)
theorem gl_brk {pos : Pos} : PS X (.Break pos) (tS F fun e => some (.bk e)) := ps_imp ps_break fun Ds σ H ⟨t, e, S, fl, hm, k⟩ => by
  cases hm
  exact k σ H (Sst.refl S t)
theorem gl_cont {pos : Pos} : PS X (.Continue pos) (tS F fun e => some (.ct e)) := ps_imp ps_continue fun Ds σ H ⟨t, e, S, fl, hm, k⟩ => by
  cases hm
  exact k σ H (Sst.refl S t)
theorem gl_doc {x : Str} {j : Nat} {p p' : Pos} : PS X (.Expr (.Constant (.str x) j p) p') (tS F fun e => some (.nx e)) := ps_imp ps_doc fun Ds σ H ⟨t, e, S, fl, hm, k⟩ => by
  cases hm
  exact k σ H (Sst.refl S t)
theorem gl_retN {pos : Pos} : PS X (.Return none pos) (tS F fun e => some (.rt (.val .none) e)) := ps_imp ps_retN fun Ds σ H ⟨t, e, S, fl, hm, k⟩ => by
  cases hm
  exact k .non σ H (Sst.refl S t) .non
theorem gl_expr {a : Expr} {pos : Pos} {m : M EV} (ha : PE X a (tE F m)) (hs : swapsWith a none pos.line X.env = pure false) : PS X (.Expr a pos) (tS F (flow m fun _ e => some (.nx e))) := by
  refine ps_imp (ps_expr ha hs) fun Ds σ H ⟨t, e, S, fl, hm, k⟩ => ?_
  obtain ⟨v, e1, h1, h2⟩ := flow_ok hm k.nox
  cases h2
  exact ⟨t, e, S, v, e1, h1, fun v' H1 P1 _ => k σ H1 P1.sst⟩
theorem gl_if {c : Expr} {a b : List Stmt} {pos : Pos} {mc : M Bool} {ma mb : En → Option Fl} (hc : PT X c (tB F mc)) (ha : PSs X a (tS F ma)) (hb : PSs X b (tS F mb)) : PS X (.If c a b pos) (tS F (flow mc fun k e => if k then ma e else mb e)) := by
  refine ps_imp (ps_if hc ha hb) fun Ds σ H ⟨t, e, S, fl, hm, k⟩ => ?_
  obtain ⟨x, e1, h1, h2⟩ := flow_ok hm k.nox
  refine ⟨t, e, S, x, e1, h1, fun v H1 P1 r1 => ?_⟩
  obtain rfl : v = x := r1
  cases v with
  | true => exact iteT ⟨P1.tabs, e1, P1.st, fl, h2, k.step P1.sst⟩
  | false => exact iteF ⟨P1.tabs, e1, P1.st, fl, h2, k.step P1.sst⟩
/-! ### return -/
def retM (m : M EV) : En → Option Fl := flow m fun v e => match v with
  | .bor _ => none
  | v => some (.rt v e)
theorem ret_imp {m : M EV} {Ds : Ends} {σ : L2.St} {H : Hp} (h : tS F (retM m) Ds σ H) : tE F m σ H Ds.rt := by
  obtain ⟨t, e, S, fl, hm, k⟩ := h
  obtain ⟨v, e1, h1, h2⟩ := flow_ok hm k.nox
  refine ⟨t, e, S, v, e1, h1, fun w H1 P1 r1 => ?_⟩
  cases v with
  | val d => cases h2; exact k w σ H1 P1.sst r1
  | fr xs => cases h2; obtain ⟨a, vs, q1, q2, q3, q4⟩ := r1; exact k w σ H1 P1.sst ⟨a, vs, q1, q2, q3, .inr q4⟩
  | bor xs => cases h2
theorem gl_ret {a : Expr} {pos : Pos} {m : M EV} (ha : PE X a (tE F m)) : PS X (.Return (some a) pos) (tS F (retM m)) := ps_imp (ps_ret ha) fun _ _ _ h => ret_imp h
/-- a name's list goes along -/
theorem gl_retV {a : Expr} {pos : Pos} {i : Nat} (hv : PE X a (tVar i)) (ha : PE X a (tE F (getV i))) : PS X (.Return (some a) pos) (tS F fun e => match retV (.var i) e with
    | some (xs, e1) => some (.rt (.fr xs) e1)
    | none => retM (getV i) e) := by
  have two : PE X a (fun σ H Q => tVar i σ H Q ∨ tE F (getV i) σ H Q) := ⟨fun pins s σ H Q I q => q.elim (fun q => hv.run pins s σ H Q I q) fun q => ha.run pins s σ H Q I q⟩
  refine ps_imp (ps_ret two) fun Ds σ H ⟨t, e, S, fl, hm, k⟩ => ?_
  have hm : (match retV (.var i) e with
    | some (xs, e1) => some (.rt (.fr xs) e1)
    | none => retM (getV i) e) = some fl := hm
  cases hr : retV (.var i) e with
  | none => rw [hr] at hm; exact .inr (ret_imp ⟨t, e, S, fl, hm, k⟩)
  | some q =>
    obtain ⟨xs, e1⟩ := q
    rw [hr] at hm
    cases hm
    unfold retV at hr
    split at hr
    · rename_i hj
      cases hj
      split at hr
      · rename_i ys hy
        cases hr
        have q := S.sl i
        rw [hy] at q
        obtain ⟨a, vs, h1, h2, h3⟩ := q
        refine .inl ⟨.ref a, h1, k _ σ H ?_ ⟨a, vs, rfl, h2, h3, .inl ⟨i, by rw [hy]; rfl, h1⟩⟩⟩
        have hl : i < e.length := En.g_lt (by rw [hy]; intro z; cases z)
        have Sr : StOk F (e.set i .no) σ H := S.put trivial (fun z => nomatch z)
        have back : ∀ {j : Nat} {f : Sl → Bool}, f .no = false → f (En.g (e.set i .no) j) = true → f (e.g j) = true := fun {j f} hf h => by
          by_cases hj : i = j
          · subst hj; rw [En.g_self hl, hf] at h; cases h
          · rw [En.g_ne hj] at h; exact h
        have Pr : Pst F e σ H (e.set i .no) H := ⟨Sr, ⟨fun j h => back rfl h, fun j h => back rfl h, fun j xs h => ?_, fun j h => back rfl h, fun j h => back rfl h⟩, Ext.refl _ _, t⟩
        · exact Pr.sst
        · by_cases hj : i = j
          · subst hj; rw [hy] at h; cases h
          · rw [En.g_ne hj]; exact h
      · cases hr
    · rename_i hj; exact absurd rfl (hj i)
/-! ### assignments -/
/-- a value goes into a slot -/
theorem put_sst {e e1 e2 : En} {σ : L2.St} {H H1 : Hp} {i : Nat} {v : V} {ev : EV} {u : Unit} (S : StOk F e σ H) (P : Pst F e σ H e1 H1) (r : REV F H e1 σ H1 v ev) (h : putV i ev e1 = some (.ok u e2)) : Sst F e σ H e2 (σ.set i (some v)) H1 := by
  obtain ⟨h1, h2, s, hs, rfl⟩ := putV_ok h
  have hR : RSl F H1 (some (some v)) s ∧ (s.ly = true → ∃ a, v = .ref a ∧ H a = none) ∧ s.ln = false ∧ ∀ ys, s ≠ .lock ys := by
    rcases hs with ⟨d, rfl, rfl⟩ | ⟨xs, rfl, rfl⟩
    · exact ⟨⟨v, rfl, r⟩, (fun z => nomatch z), rfl, fun _ z => nomatch z⟩
    · obtain ⟨a, vs, q1, q2, q3, q4⟩ := r
      exact ⟨⟨a, vs, by rw [q1], q2, q3⟩, fun _ => ⟨a, q1, q4⟩, rfl, fun _ z => nomatch z⟩
  obtain ⟨hR, hly, hln, hlk⟩ := hR
  have nl : ∀ a, H a = none → ∀ j b, j ≠ i → (e1.g j).ly = true → σ[j]? = some (some (.ref b)) → b ≠ a := fun a ha j b _ hy hb z => by
    obtain ⟨us, q⟩ := S.lyLst (P.evo.ly j hy) hb
    rw [z, ha] at q
    cases q
  have S2 := P.st.store (i := i) hR fun z => by
    obtain ⟨a, q1, q2⟩ := hly z
    exact ⟨a, q1, nl a q2⟩
  refine ⟨S2, P.ext, P.tabs, fun a ⟨j, q1, q2⟩ => ?_, fun j xs hj => ?_, fun j hj => ?_⟩
  · have hl : j < (e1.set i s).length := En.g_lt (by intro z; rw [z] at q1; cases q1)
    by_cases hij : i = j
    · subst hij
      rw [List.length_set] at hl
      rw [En.g_self hl] at q1
      obtain ⟨b, q3, q4⟩ := hly (mt_ly (ow_mt q1))
      rw [List.getElem?_set_self (by have := P.st.len; omega)] at q2
      rw [q3] at q2
      cases q2
      exact .inr q4
    · rw [En.g_ne hij] at q1
      rw [List.getElem?_set_ne hij] at q2
      exact .inl ⟨j, P.evo.ow j q1, q2⟩
  · have hk := P.evo.lk j xs hj
    have hij : i ≠ j := fun z => by rw [z] at h2; exact h2 xs hk
    exact ⟨by rw [En.g_ne hij]; exact hk, List.getElem?_set_ne hij⟩
  · have hij : i ≠ j := fun z => by
      subst z
      rw [En.g_set] at hj
      split at hj
      · rw [hln] at hj; cases hj
      · rw [h1] at hj; cases hj
    rw [En.g_ne hij] at hj
    exact ⟨P.evo.ln j hj, List.getElem?_set_ne hij⟩
def asgN (m : M EV) (i : Nat) : En → Option Fl := flow (m.bnd fun v => putV i v) fun _ e => some (.nx e)
theorem asgN_imp {m : M EV} {i : Nat} {Ds : Ends} {σ : L2.St} {H : Hp} (h : tS F (asgN m i) Ds σ H) : tAsg (tE F m) (gName i) Ds σ H := by
  obtain ⟨t, e, S, fl, hm, k⟩ := h
  obtain ⟨_, e2, h1, h2⟩ := flow_ok hm k.nox
  cases h2
  obtain ⟨ev, e1, h3, h4⟩ := bnd_ok h1
  exact ⟨t, e, S, ev, e1, h3, fun v H1 P1 r1 => k _ H1 (put_sst S P1 r1 h4)⟩
def asgT (m : M EV) (c : CT) : En → Option Fl := flow ((kp m).bnd fun v => evT c v) fun _ e => some (.nx e)
theorem asgT_imp (ok : F.Ok) {m : M EV} {c : CT} {Ds : Ends} {σ : L2.St} {H : Hp} (h : tS F (asgT m c) Ds σ H) : tAsg (tKp F (kp m)) (tG F c.names (evT c)) Ds σ H := by
  obtain ⟨t, e, S, fl, hm, k⟩ := h
  obtain ⟨_, e2, h1, h2⟩ := flow_ok hm k.nox
  cases h2
  obtain ⟨d, e1, h3, h4⟩ := bnd_ok h1
  exact ⟨t, e, S, d, e1, h3, fun v H1 P1 r1 => ⟨P1.tabs, e1, P1.st, d, r1, e2, h4, fun σ' S' T' => k _ _ (P1.sst.trans (T'.sst S' P1.tabs))⟩⟩
/-- a, b = x, y -/
def asg2 (i j : Nat) (ma mb : M EV) : En → Option Fl := flow (ma.bnd fun v => mb.bnd fun w => (putV i v).bnd fun _ => putV j w) fun _ e => some (.nx e)
/-- a value that is there stays what it is behind another slot's store -/
theorem put2 {e e1 e2 e3 : En} {σ : L2.St} {H H1 H2 : Hp} {i j : Nat} {v w : V} {ev ew : EV} {u u' : Unit} (S : StOk F e σ H) (P1 : Pst F e σ H e1 H1) (r1 : REV F H e1 σ H1 v ev) {e1' : En} (P2 : Pst F e1 σ H1 e1' H2) (r2 : REV F H1 e1' σ H2 w ew) (hij : i ≠ j)
    (h1 : putV i ev e1' = some (.ok u e2)) (h2 : putV j ew e2 = some (.ok u' e3)) : Sst F e σ H e3 ((σ.set i (some v)).set j (some w)) H2 := by
  have P12 := P1.trans P2
  have s1 := put_sst S P12 (r1.more S P1 P2) h1
  -- behind the first store, the second one's value
  obtain ⟨g1, g2, s, hs, rfl⟩ := putV_ok h2
  have hR : RSl F H2 (some (some w)) s ∧ (s.ly = true → ∃ a, w = .ref a ∧ H1 a = none) ∧ s.ln = false := by
    rcases hs with ⟨d, rfl, rfl⟩ | ⟨xs, rfl, rfl⟩
    · exact ⟨⟨w, rfl, r2⟩, (fun z => nomatch z), rfl⟩
    · obtain ⟨a, vs, q1, q2, q3, q4⟩ := r2
      exact ⟨⟨a, vs, by rw [q1], q2, q3⟩, fun _ => ⟨a, q1, q4⟩, rfl⟩
  obtain ⟨hR, hly, hln⟩ := hR
  -- the slots' lists stood ahead of the second value
  have lyH1 : ∀ k b, (e2.g k).ly = true → (σ.set i (some v))[k]? = some (some (.ref b)) → ∃ us, H1 b = some (.lst us) := fun k b hk hb => by
    obtain ⟨_, _, s0, hs0, rfl⟩ := putV_ok h1
    by_cases hik : i = k
    · subst hik
      have hl : i < e1'.length := by
        have := En.g_lt (e := e1'.set i s0) (i := i) (by intro z; rw [z] at hk; cases hk)
        rwa [List.length_set] at this
      rw [En.g_self hl] at hk
      rw [List.getElem?_set_self (by have := P12.st.len; omega)] at hb
      rcases hs0 with ⟨d, _, rfl⟩ | ⟨xs, rfl, rfl⟩
      · cases hk
      · obtain ⟨a, vs, q1, q2, _, _⟩ := r1
        rw [q1] at hb
        cases hb
        exact ⟨vs, q2⟩
    · rw [En.g_ne hik] at hk
      rw [List.getElem?_set_ne hik] at hb
      exact P1.st.lyLst (P2.evo.ly k hk) hb
  have S3 := s1.st.store (i := j) hR fun z => by
    obtain ⟨a, q1, q2⟩ := hly z
    refine ⟨a, q1, fun k b _ hk hb zz => ?_⟩
    obtain ⟨us, q⟩ := lyH1 k b hk hb
    rw [zz, q2] at q
    cases q
  refine ⟨S3, s1.ext, s1.tabs, fun a ⟨k, q1, q2⟩ => ?_, fun k xs hk => ?_, fun k hk => ?_⟩
  · have hl : k < (e2.set j s).length := En.g_lt (by intro z; rw [z] at q1; cases q1)
    by_cases hjk : j = k
    · subst hjk
      rw [List.length_set] at hl
      rw [En.g_self hl] at q1
      obtain ⟨b, q3, q4⟩ := hly (mt_ly (ow_mt q1))
      rw [List.getElem?_set_self (by have := s1.st.len; omega), q3] at q2
      cases q2
      exact .inr (P1.ext.trk _ q4)
    · rw [En.g_ne hjk] at q1
      rw [List.getElem?_set_ne hjk] at q2
      exact s1.own a ⟨k, q1, q2⟩
  · obtain ⟨q1, q2⟩ := s1.lk k xs hk
    have hjk : j ≠ k := fun z => by rw [z] at g2; exact g2 xs q1
    exact ⟨by rw [En.g_ne hjk]; exact q1, (List.getElem?_set_ne hjk).trans q2⟩
  · have hjk : j ≠ k := fun z => by
      subst z
      rw [En.g_set] at hk
      split at hk
      · rw [hln] at hk; cases hk
      · rw [g1] at hk; cases hk
    rw [En.g_ne hjk] at hk
    obtain ⟨q1, q2⟩ := s1.ln k hk
    exact ⟨q1, (List.getElem?_set_ne hjk).trans q2⟩
theorem gl_par {i j : Nat} {x y : Str} {a b : Expr} {px py pt pos : Pos} {kt k2 pt2} {ma mb : M EV} (hc : X.calm = true) (hN : X.N.Nodup) (hi : X.N[i]? = some x) (hj : X.N[j]? = some y) (hij : i ≠ j)
    (hx : X.env.scope.names.lookup x = some .local) (hy : X.env.scope.names.lookup y = some .local) (ha : PE X a (tE F ma)) (hb : PE X b (tE F mb)) (hs1 : starEach [a, b] X.env = (false, eval a X.env) :: starEach [b] X.env) (hs2 : starEach [b] X.env = (false, eval b X.env) :: starEach [] X.env)
    (hw : swappedStores [.Tuple [.Name x px, .Name y py] kt pt] (.Tuple [a, b] k2 pt2) X.env = pure (some [x, y])) :
    PS X (.Assign [.Tuple [.Name x px, .Name y py] kt pt] (.Tuple [a, b] k2 pt2) pos) (tS F (asg2 i j ma mb)) := by
  refine ps_imp (ps_par hc hN hi hj hij hx hy (pa_cons ha (pa_cons hb pa_nil hs2) hs1) hw) fun Ds σ H ⟨t, e, S, fl, hm, k⟩ => ?_
  obtain ⟨_, e4, h1, h2⟩ := flow_ok hm k.nox
  cases h2
  obtain ⟨ev, e1, h3, h4⟩ := bnd_ok h1
  obtain ⟨ew, e2, h5, h6⟩ := bnd_ok h4
  obtain ⟨_, e3, h7, h8⟩ := bnd_ok h6
  exact ⟨t, e, S, ev, e1, h3, fun v H1 P1 r1 => ⟨P1.tabs, e1, P1.st, ew, e2, h5, fun w H2 P2 r2 => ⟨v, w, rfl, k _ _ (put2 S P1 r1 P2 r2 hij h7 h8)⟩⟩⟩
/-! ### loops -/
theorem gl_while {c : Expr} {body : List Stmt} {pos : Pos} {mc : M Bool} {mb : En → Option Fl} {n : Nat} (hp : PassesOwn (model X.prog X.w) X.A X.env X.xe) (hc : PT X c (tB F mc)) (hb : PSs X body (tS F mb)) : PS X (.While c body [] pos) (tS F (whileM mc mb n)) := by
  refine ps_imp (ps_while hp hc hb) fun Ds σ H ⟨t, e, S, fl, hm, k⟩ => ?_
  refine ⟨fun m σ' H' => ∃ ei, whileM mc mb m ei = some fl ∧ Sst F e σ H ei σ' H', ⟨n, e, hm, Sst.refl S t⟩, ?_⟩
  rintro m σ' H' ⟨ei, hw, p⟩
  cases m with
  | zero => simp only [whileM] at hw; cases hw
  | succ m =>
    simp only [whileM] at hw
    cases h0 : mc ei with
    | none => rw [h0] at hw; cases hw
    | some r0 =>
      rw [h0] at hw
      cases r0 with
      | exc x e1 => cases hw; exact k.elim
      | ok b e1 =>
        refine ⟨p.tabs, ei, p.st, b, e1, h0, fun b' H1 P1 hb' => ?_⟩
        obtain rfl : b' = b := hb'
        have p1 := p.trans P1.sst
        cases b' with
        | false => cases hw; exact iteF (k σ' H1 p1)
        | true =>
          refine iteT ⟨fun σ2 H2 => ∃ ei, whileM mc mb m ei = some fl ∧ Sst F e σ H ei σ2 H2, fun σ2 H2 q => ⟨m, Nat.lt_succ_self m, q⟩, p1.tabs, e1, p1.st, ?_⟩
          simp only at hw
          cases h1 : mb e1 with
          | none => rw [h1] at hw; cases hw
          | some f1 =>
            rw [h1] at hw
            cases f1 with
            | nx e2 => exact ⟨_, rfl, fun σ2 H2 q => ⟨e2, hw, p1.trans q⟩⟩
            | ct e2 => exact ⟨_, rfl, fun σ2 H2 q => ⟨e2, hw, p1.trans q⟩⟩
            | bk e2 => cases hw; exact ⟨_, rfl, fun σ2 H2 q => k σ2 H2 (p1.trans q)⟩
            | rt v e2 => cases hw; exact ⟨_, rfl, fun w σ2 H2 q r => k w σ2 H2 (p1.trans q) (r.step p1)⟩
            | exc x e2 => cases hw; exact k.elim
theorem gl_for (ok : F.Ok) {tg iter : Expr} {body : List Stmt} {pos : Pos} {mi : M (List D × Lks)} {c : CT} {mb : En → Option Fl} (hp : PassesOwn (model X.prog X.w) X.A X.env X.xe) (hc : X.calm = true) (hi : PI X tg iter (tI F mi)) (hg : PG X tg (tG F c.names (evT c))) (hb : PSs X body (tS F mb))
    (hs : ∀ x, foldedSetIterable iter X.env x = pure x) : PS X (.For tg iter body [] pos) (tS F (flow mi fun p e => (forM (evT c) mb p.1 e).map (Fl.unl p.2))) := by
  refine ps_imp (ps_for hp hc hi hg hb hs) fun Ds σ H ⟨t, e, S, fl, hm, k⟩ => ?_
  obtain ⟨p, e1, h1, h2⟩ := flow_ok hm k.nox
  cases hf : forM (evT c) mb p.1 e1 with
  | none => rw [hf] at h2; cases h2
  | some f0 =>
    rw [hf] at h2
    cases h2
    refine ⟨t, e, S, p, e1, h1, fun J H1 P1 l1 w => ?_⟩
    -- the end, seen from behind the locks
    have k1 : Fin F Ds e1 σ H1 f0 := by
      cases f0 with
      | nx e2 => exact fun σ' H' q => k σ' H' (unlock_sst2 S P1 l1 q)
      | bk e2 => exact fun σ' H' q => k σ' H' (unlock_sst2 S P1 l1 q)
      | ct e2 => exact fun σ' H' q => k σ' H' (unlock_sst2 S P1 l1 q)
      | rt v e2 => exact fun w σ' H' q r => k w σ' H' (unlock_sst2 S P1 l1 q) (r.step P1.sst)
      | exc x e2 => exact k
    refine for_it w (fun i σ' H' => ∃ ei, forM (evT c) mb (p.1.drop i) ei = some f0 ∧ Sst F e1 σ H1 ei σ' H') ⟨e1, by rw [List.drop_zero]; exact hf, Sst.refl P1.st P1.tabs⟩ (fun i σ' H' _ ⟨ei, _, q⟩ => q.ext) ?_ ?_
    · rintro i x σ' H' H2 hi' ⟨ei, hw, q⟩ ⟨g, d, hd, rd⟩
      have hdrop : p.1.drop i = d :: p.1.drop (i + 1) := by
        rw [List.drop_eq_getElem_cons hi']
        rw [List.getElem?_eq_getElem hi'] at hd
        cases hd
        rfl
      rw [hdrop] at hw
      simp only [forM] at hw
      have qg := q.trans (Sst.grow ok q.st q.tabs g)
      cases h0 : evT c d ei with
      | none => rw [h0] at hw; cases hw
      | some r0 =>
        rw [h0] at hw
        cases r0 with
        | exc x e1 => cases hw; exact k1.elim
        | ok u ea =>
          cases u
          refine ⟨qg.tabs, ei, qg.st, d, rd, ea, h0, fun σ2 S2 T2 => ?_⟩
          have q2 := qg.trans (T2.sst S2 qg.tabs)
          simp only at hw
          refine ⟨qg.tabs, ea, S2, ?_⟩
          cases h1 : mb ea with
          | none => rw [h1] at hw; cases hw
          | some f1 =>
            rw [h1] at hw
            cases f1 with
            | nx e2 => exact ⟨_, rfl, fun σ3 H3 z => ⟨e2, hw, q2.trans z⟩⟩
            | ct e2 => exact ⟨_, rfl, fun σ3 H3 z => ⟨e2, hw, q2.trans z⟩⟩
            | bk e2 => cases hw; exact ⟨_, rfl, fun σ3 H3 z => k1 σ3 H3 (q2.trans z)⟩
            | rt v e2 => cases hw; exact ⟨_, rfl, fun w σ3 H3 z r => k1 w σ3 H3 (q2.trans z) (r.step q2)⟩
            | exc x e2 => cases hw; exact k1.elim
    · rintro σ' H' ⟨ei, hw, q⟩
      rw [List.drop_length] at hw
      simp only [forM] at hw
      cases hw
      exact k1 σ' H' q
/-! ### x[i] = v -/
theorem gl_sset (ok : F.Ok) {x : Str} {i : Nat} {ki v : Expr} {p1 tpos pos : Pos} {mk mv : M EV} (hx : PE X (.Name x p1) (tVar i)) (hk : PE X ki (tE F mk)) (hv : PE X v (tE F mv)) 
    (hs : swapsWithSole [.Subscript (.Name x p1) ki tpos] v pos.line X.env = pure false) (hw : swappedStores [.Subscript (.Name x p1) ki tpos] v X.env = pure none) (ha : ∀ v, assign (.Subscript (.Name x p1) ki tpos) X.env v = (do
      let ov ← holding [v] (eval (.Name x p1) X.env)
      let iv ← holding [v, ov] (eval ki X.env)
      standAt tpos
      holding [v, ov, iv] (setItem ov iv v)
      release [v, ov, iv] [])) : PS X (.Assign [.Subscript (.Name x p1) ki tpos] v pos) (tS F (flow ((kp mv).bnd fun x => (chk i).bnd fun _ => (kp mk).bnd fun j => chg i (setF j x)) fun _ e => some (.nx e))) := by
  refine ps_imp (ps_asg (pe_kept ok hv) (pg_sub hx (pe_kept ok hk) set_list ha) hs hw rfl) fun Ds σ H ⟨t, e, S, fl, hm, k⟩ => ?_
  obtain ⟨_, e3, h1, h2⟩ := flow_ok hm k.nox
  cases h2
  obtain ⟨d, e1, h3, h4⟩ := bnd_ok h1
  obtain ⟨_, e1', h5, h6⟩ := bnd_ok h4
  obtain ⟨hmt, rfl⟩ := chk_ok h5
  obtain ⟨kd, e2, h7, h8⟩ := bnd_ok h6
  obtain ⟨s, s', xs, ys, z, hi, hss, hf, rfl, rfl⟩ := chg_ok h8
  refine ⟨t, e, S, d, e1', h3, fun vv H1 P1 r1 => ?_⟩
  obtain ⟨l, us, hσ, hl⟩ := mt_slot P1.st hmt
  refine ⟨.ref l, hσ, P1.tabs, e1', P1.st, kd, e2, h7, fun kv H2 P2 r2 => ?_⟩
  have q := P2.st.sl i
  rw [hi] at q
  obtain ⟨b, vs, h9, h10, h11⟩ := lst_of q (either hss)
  rw [hσ] at h9
  cases h9
  unfold setF at hf
  split at hf
  · rename_i j
    cases hn : ixN xs.length j with
    | none => rw [hn] at hf; cases hf
    | some n =>
      rw [hn] at hf
      cases hf
      cases r2
      refine ⟨l, vs, j, n, rfl, rfl, h10, by rw [h11.length]; exact hn, k _ _ (P1.sst.trans (chg_pst ok P1.st P2 hi hss hσ h10 ?_).sst)⟩
      exact RDs.set (RD.per (P2.ext.per P1.st) r1) n h11
  · cases hf
/-! ### x[i], y = v -/
theorem gl_sasg (ok : F.Ok) (hK : X.K = F.K) {x y : Str} {i j : Nat} {ki v : Expr} {p1 p2 tpos upos pos : Pos} {kk : Nat} {mk mv : M EV} (hc : X.calm = true) (hx : PE X (.Name x p1) (tVar i)) (hk : PE X ki (tE F mk)) (hv : PE X v (tE F mv)) (hy : PG X (.Name y p2) (gName j))
    (hs : swapsWithSole [.Tuple [.Subscript (.Name x p1) ki tpos, .Name y p2] kk upos] v pos.line X.env = pure false) (hw : swappedStores [.Tuple [.Subscript (.Name x p1) ki tpos, .Name y p2] kk upos] v X.env = pure none) (ha : ∀ v, assign (.Subscript (.Name x p1) ki tpos) X.env v = (do
      let ov ← holding [v] (eval (.Name x p1) X.env)
      let iv ← holding [v, ov] (eval ki X.env)
      standAt tpos
      holding [v, ov, iv] (setItem ov iv v)
      release [v, ov, iv] [])) : PS X (.Assign [.Tuple [.Subscript (.Name x p1) ki tpos, .Name y p2] kk upos] v pos) (tS F (flow ((kp mv).bnd fun x => match x with
      | .tuple [a, b] => (chk i).bnd fun _ => (kp mk).bnd fun kk => (chg i (setF kk a)).bnd fun _ => putV j (.val b)
      | _ => M.fail) fun _ e => some (.nx e))) := by
  refine ps_imp (ps_asg (pe_kept ok hv) (pg_tup hc (pgs_cons (pg_sub hx (pe_kept ok hk) set_list ha) (pgs_cons hy pgs_nil rfl) rfl) rfl rfl) hs hw rfl) fun Ds σ H ⟨t, e, S, fl, hm, k⟩ => ?_
  obtain ⟨_, e4, h1, h2⟩ := flow_ok hm k.nox
  cases h2
  obtain ⟨d, e1, h3, h4⟩ := bnd_ok h1
  split at h4
  · rename_i a b
    obtain ⟨_, e1', h5, h6⟩ := bnd_ok h4
    obtain ⟨hmt, rfl⟩ := chk_ok h5
    obtain ⟨kd, e2, h7, h8⟩ := bnd_ok h6
    obtain ⟨_, e3, h9, h10⟩ := bnd_ok h8
    obtain ⟨s, s', xs, ys, z, hi, hss, hf, rfl, rfl⟩ := chg_ok h9
    refine ⟨t, e, S, _, e1', h3, fun vv H1 P1 r1 => ?_⟩
    cases r1 with
    | tup hq rs =>
      cases rs with
      | cons ra rs => cases rs with
        | cons rb rs => cases rs with
          | nil =>
            obtain ⟨l, us, hσ, hl⟩ := mt_slot P1.st hmt
            refine ⟨_, _, rfl, by rw [hK]; exact hq, rfl, _, _, rfl, .ref l, hσ, P1.tabs, e1', P1.st, kd, e2, h7, fun kv H2 P2 r2 => ?_⟩
            have q := P2.st.sl i
            rw [hi] at q
            obtain ⟨b', vs, h11, h12, h13⟩ := lst_of q (either hss)
            rw [hσ] at h11
            cases h11
            unfold setF at hf
            split at hf
            · rename_i jj
              cases hn : ixN xs.length jj with
              | none => rw [hn] at hf; cases hf
              | some n =>
                rw [hn] at hf
                cases hf
                cases r2
                have P3 := chg_pst ok P1.st P2 hi hss hσ h12 (RDs.set (RD.per (P2.ext.per P1.st) ra) n h13)
                refine ⟨l, vs, jj, n, rfl, rfl, h12, by rw [h13.length]; exact hn, _, _, rfl, rfl, k _ _ ?_⟩
                exact put_sst (ev := .val b) S (P1.trans P3) (RD.per (P3.ext.per P1.st) rb) h10
            · cases hf
  · cases h4
end
end Mi
end

section
set_option maxRecDepth 100000
set_option maxHeartbeats 1000000
/-! Mi: calls of defs. -/
namespace Mi
open PySem PySem.Spec PyProof.Rows L2
section
variable {F : Fx} {X : Cx}
/-- how one argument stands -/
def AE (F : Fx) (e0 e : En) (σ : L2.St) (H0 H : Hp) (v : V) (a : Arg) : Prop := RSl F H (some (some v)) a.1 ∧ match a.2 with
  | none => a.1.ly = true → a.1.ow = true ∧ ∃ p, v = .ref p ∧ H0 p = none
  | some (i, s0) => σ[i]? = some (some v) ∧ (e0.g i).ly = true ∧
      ((∃ xs, s0 = .own xs ∧ a.1 = .lent xs ∧ (e0.g i).ow = true ∧ (e.g i).ly = false) ∨ (∃ xs, s0 = .lent xs ∧ a.1 = .lent xs ∧ (e0.g i).ln = true ∧ (e.g i).ly = false) ∨ (∃ xs, s0 = .lock xs ∧ a.1 = .lock xs ∧ e.g i = .lock xs))
/-- what else is told stays told behind an evaluation that may change but the lists of e -/
theorem RSl.keep (ok : F.Ok) {e : En} {σ : L2.St} {H H' : Hp} {x : Option (Option V)} {s : Sl} (S : StOk F e σ H) (E : Ext (MutAt e σ) H H') (r : RSl F H x s) (n : s.ly = true → ∀ p, x = some (some (.ref p)) → ¬ MutAt e σ p) : RSl F H' x s := by
  have per := E.per S
  have lst : ∀ xs, (∀ p, x = some (some (.ref p)) → ¬ MutAt e σ p) → RLst F.K H x xs → RLst F.K H' x xs := fun xs n ⟨b, us, h1, h2, h3⟩ => ⟨b, us, h1, E.keep b _ h2 (n b h1) (by intro _ z; cases z), RDs.per per h3⟩
  cases s with
  | no => trivial
  | val d => obtain ⟨v, h1, h2⟩ := r; exact ⟨v, h1, RD.per per h2⟩
  | fn g => exact r
  | clo np ns b cs =>
    obtain ⟨f, h1, h2⟩ := r
    refine ⟨f, h1, ok.clo _ _ _ _ _ _ _ (fun a o h q1 q2 => E.keep a o h (fun m => ?_) q2) h2⟩
    obtain ⟨us, q⟩ := S.mutLst m
    rw [h] at q
    exact q1 us (Option.some.inj q)
  | own xs => exact lst xs (n rfl) r
  | lent xs => exact lst xs (n rfl) r
  | lock xs => exact lst xs (n rfl) r
theorem AE.more (ok : F.Ok) {e0 e e' : En} {σ : L2.St} {H0 H H' : Hp} {v : V} {a : Arg} (S0 : StOk F e0 σ H0) (P0 : Pst F e0 σ H0 e H) (P : Pst F e σ H e' H') (h : AE F e0 e σ H0 H v a) : AE F e0 e' σ H0 H' v a := by
  obtain ⟨s, r⟩ := a
  obtain ⟨h1, h2⟩ := h
  cases r with
  | none =>
    have h2 : s.ly = true → s.ow = true ∧ ∃ p, v = .ref p ∧ H0 p = none := h2
    refine ⟨h1.keep ok P0.st P.ext fun hy p hp => ?_, h2⟩
    obtain ⟨_, q, rfl, hq⟩ := h2 hy
    cases hp
    exact nm_of S0 P0.evo hq
  | some is =>
    obtain ⟨i, s0⟩ := is
    obtain ⟨g1, g2, g3⟩ := h2
    have g1 : σ[i]? = some (some v) := g1
    have nm : ∀ p, (some (some v) : Option (Option V)) = some (some (.ref p)) → (e.g i).mt = false → ¬ MutAt e σ p := fun p hp hm ⟨j, m1, m2⟩ => by
      have hj : j ≠ i := fun z => by rw [z, hm] at m1; cases m1
      exact S0.ap j i p p hj (P0.evo.ly j (mt_ly m1)) g2 m2 (g1.trans hp) rfl
    have hmf : (e.g i).mt = false := by
      rcases g3 with ⟨xs, _, _, _, z⟩ | ⟨xs, _, _, _, z⟩ | ⟨xs, _, _, z⟩
      · cases hm : (e.g i).mt with
        | false => rfl
        | true => rw [mt_ly hm] at z; cases z
      · cases hm : (e.g i).mt with
        | false => rfl
        | true => rw [mt_ly hm] at z; cases z
      · have z : e.g i = .lock xs := z
        rw [z]; rfl
    have ly' : (e.g i).ly = false → (e'.g i).ly = false := fun z => by
      cases hm : (e'.g i).ly with
      | false => rfl
      | true => rw [P.evo.ly i hm] at z; cases z
    refine ⟨h1.keep ok P0.st P.ext fun hy p hp => nm p hp hmf, g1, g2, ?_⟩
    rcases g3 with ⟨xs, z1, z2, z3, z4⟩ | ⟨xs, z1, z2, z3, z4⟩ | ⟨xs, z1, z2, z3⟩
    · exact .inl ⟨xs, z1, z2, z3, ly' z4⟩
    · exact .inr (.inl ⟨xs, z1, z2, z3, ly' z4⟩)
    · exact .inr (.inr ⟨xs, z1, z2, P.evo.lk _ _ z3⟩)
theorem AE.back {e0 e e' : En} {σ : L2.St} {H0 H H' : Hp} {v : V} {a : Arg} (P0 : Pst F e0 σ H0 e H) (h : AE F e e' σ H H' v a) : AE F e0 e' σ H0 H' v a := by
  obtain ⟨s, r⟩ := a
  obtain ⟨h1, h2⟩ := h
  refine ⟨h1, ?_⟩
  cases r with
  | none =>
    intro hy
    obtain ⟨q1, p, q2, q3⟩ := h2 hy
    exact ⟨q1, p, q2, P0.ext.trk p q3⟩
  | some is =>
    obtain ⟨i, s0⟩ := is
    obtain ⟨g1, g2, g3⟩ := h2
    refine ⟨g1, P0.evo.ly i g2, ?_⟩
    rcases g3 with ⟨xs, z1, z2, z3, z4⟩ | ⟨xs, z1, z2, z3, z4⟩ | z
    · exact .inl ⟨xs, z1, z2, P0.evo.ow i z3, z4⟩
    · exact .inr (.inl ⟨xs, z1, z2, P0.evo.ln i z3, z4⟩)
    · exact .inr (.inr z)
structure As (F : Fx) (e0 e : En) (σ : L2.St) (H0 H : Hp) (vs : List V) (as : List Arg) : Prop where
  len : vs.length = as.length
  el : ∀ (k : Nat) (v : V) (a : Arg), vs[k]? = some v → as[k]? = some a → AE F e0 e σ H0 H v a
  nw : ∀ (k l : Nat) (v : V) (a : Arg) (w : V) (b : Arg), k ≠ l → vs[k]? = some v → as[k]? = some a → vs[l]? = some w → as[l]? = some b → a.1.ow = true → b.1.ow = true → v ≠ w
def tA1 (F : Fx) (m : M Arg) : TE := WP F m fun e H e' σ H' v a => AE F e e' σ H H' v a
def tAs (F : Fx) (m : M (List Arg)) : TA := WP F m fun e H e' σ H' vs as => As F e e' σ H H' vs as
theorem gl_anil : PA X [] (tAs F (M.ret [])) := by
  refine pa_imp pa_nil fun σ H Q ⟨t, e, S, ev, e', hm, k⟩ => ?_
  obtain ⟨rfl, rfl⟩ := ret_ok hm
  exact k _ _ (Pst.refl S t) ⟨rfl, fun k v a h => by simp at h, fun k l v a w b _ h => by simp at h⟩
theorem ow_ref {H : Hp} {v : V} {s : Sl} (r : RSl F H (some (some v)) s) (h : s.ow = true) : ∃ p vs, v = .ref p ∧ H p = some (.lst vs) := by
  cases s with
  | own xs => obtain ⟨a, vs, h1, h2, _⟩ := r; cases h1; exact ⟨a, vs, rfl, h2⟩
  | _ => cases h
theorem As.cons (ok : F.Ok) {e e1 e2 : En} {σ : L2.St} {H H1 H2 : Hp} {v : V} {p : Arg} {vs : List V} {q : List Arg} (S : StOk F e σ H) (P1 : Pst F e σ H e1 H1) (r1 : AE F e e1 σ H H1 v p) (P2 : Pst F e1 σ H1 e2 H2) (r2 : As F e1 e2 σ H1 H2 vs q) :
    As F e e2 σ H H2 (v :: vs) (p :: q) := by
  -- the first one's new list stands ahead of the others' ones
  have far : ∀ (l : Nat) (w : V) (b : Arg), vs[l]? = some w → q[l]? = some b → p.1.ow = true → b.1.ow = true → v ≠ w := fun l w b hw hb o1 o2 z => by
    obtain ⟨a1, us, rfl, q2⟩ := ow_ref r1.1 o1
    subst z
    have q3 := r2.el l _ b hw hb
    obtain ⟨s, r⟩ := b
    obtain ⟨h5, h6⟩ := q3
    cases r with
    | none =>
      obtain ⟨_, p', z1, z2⟩ := h6 (mt_ly (ow_mt o2))
      cases z1
      rw [q2] at z2
      cases z2
    | some is =>
      obtain ⟨i, s0⟩ := is
      obtain ⟨_, _, g3⟩ := h6
      rcases g3 with ⟨xs, _, z, _⟩ | ⟨xs, _, z, _⟩ | ⟨xs, _, z, _⟩
      · have z : s = .lent xs := z
        rw [z] at o2; cases o2
      · have z : s = .lent xs := z
        rw [z] at o2; cases o2
      · have z : s = .lock xs := z
        rw [z] at o2; cases o2
  refine ⟨by rw [List.length_cons, List.length_cons, r2.len], fun i w b hw hb => ?_, fun i l w b w' b' hil hw hb hw' hb' o1 o2 => ?_⟩
  · cases i with
    | zero =>
      rw [List.getElem?_cons_zero] at hw hb
      cases hw
      cases hb
      exact r1.more ok S P1 P2
    | succ i =>
      rw [List.getElem?_cons_succ] at hw hb
      exact (r2.el i w b hw hb).back P1
  · cases i with
    | zero =>
      cases l with
      | zero => exact absurd rfl hil
      | succ l =>
        rw [List.getElem?_cons_zero] at hw hb
        rw [List.getElem?_cons_succ] at hw' hb'
        cases hw
        cases hb
        exact far l w' b' hw' hb' o1 o2
    | succ i =>
      cases l with
      | zero =>
        rw [List.getElem?_cons_zero] at hw' hb'
        rw [List.getElem?_cons_succ] at hw hb
        cases hw'
        cases hb'
        exact Ne.symm (far i w b hw hb o2 o1)
      | succ l =>
        rw [List.getElem?_cons_succ] at hw hb hw' hb'
        exact r2.nw i l w b w' b' (fun z => hil (by rw [z])) hw hb hw' hb' o1 o2
theorem gl_acons (ok : F.Ok) {a : Expr} {es : List Expr} {m : M Arg} {ms : M (List Arg)} (ha : PE X a (tA1 F m)) (hr : PA X es (tAs F ms)) (hs : starEach (a :: es) X.env = (false, eval a X.env) :: starEach es X.env) :
    PA X (a :: es) (tAs F (m.bnd fun x => ms.bnd fun xs => M.ret (x :: xs))) := by
  refine pa_imp (pa_cons ha hr hs) fun σ H Q ⟨t, e, S, ds, e', hm, k⟩ => ?_
  obtain ⟨p, e1, h1, h2⟩ := bnd_ok hm
  obtain ⟨q, e2, h3, h4⟩ := bnd_ok h2
  obtain ⟨rfl, rfl⟩ := ret_ok h4
  exact ⟨t, e, S, p, e1, h1, fun v H1 P1 r1 => ⟨P1.tabs, e1, P1.st, q, e2, h3, fun vs H2 P2 r2 => k _ _ (P1.trans P2) (As.cons ok S P1 r1 P2 r2)⟩⟩
/-- an expression's value as an argument -/
theorem gl_a1 {a : Expr} {m : M EV} (ha : PE X a (tE F m)) : PE X a (tA1 F (m.bnd argE)) := by
  refine pe_imp ha fun σ H Q ⟨t, e, S, ag, e', hm, k⟩ => ?_
  obtain ⟨ev, e1, h1, h2⟩ := bnd_ok hm
  refine ⟨t, e, S, ev, e1, h1, fun v H1 P1 r1 => ?_⟩
  cases ev with
  | val d =>
    obtain ⟨rfl, rfl⟩ := ret_ok h2
    exact k _ _ P1 ⟨⟨v, rfl, r1⟩, fun z => nomatch z⟩
  | fr xs =>
    obtain ⟨rfl, rfl⟩ := ret_ok h2
    obtain ⟨a1, us, rfl, q2, q3, q4⟩ := r1
    exact k _ _ P1 ⟨⟨a1, us, rfl, q2, q3⟩, fun _ => ⟨rfl, a1, rfl, q4⟩⟩
  | bor xs => cases h2
theorem gl_aFn {a : Expr} {g : Nat} (ha : PE X a (tC (.ref (F.fa g)))) : PE X a (tA1 F (M.ret (.fn g, none))) := by
  refine pe_imp ha fun σ H Q ⟨t, e, S, ag, e', hm, k⟩ => ?_
  obtain ⟨rfl, rfl⟩ := ret_ok hm
  exact k _ _ (Pst.refl S t) ⟨rfl, fun z => nomatch z⟩
theorem gl_aV {x : Str} {pos : Pos} {i : Nat} (h : PE X (.Name x pos) (tVar i)) : PE X (.Name x pos) (tA1 F (argV i)) := by
  refine pe_imp h fun σ H Q ⟨t, e, S, ag, e', hm, k⟩ => ?_
  have q := S.sl i
  have lend : ∀ {s : Sl} {xs : List D}, e.g i = s → (s = .own xs ∨ s = .lent xs) → RLst F.K H σ[i]? xs → (∀ b H', Pst F e σ H (e.set i .no) H' → AE F e (e.set i .no) σ H H' b (.lent xs, some (i, s)) → Q b H') → tVar i σ H Q := fun {s xs} hs hk r k => by
    obtain ⟨a, vs, h1, h2, h3⟩ := r
    have hl : i < e.length := En.g_lt (by rw [hs]; rcases hk with z | z <;> (rw [z]; intro y; cases y))
    have back : ∀ {j : Nat} {f : Sl → Bool}, f .no = false → f (En.g (e.set i .no) j) = true → f (e.g j) = true := fun {j f} hf h => by
      by_cases hj : i = j
      · subst hj; rw [En.g_self hl, hf] at h; cases h
      · rw [En.g_ne hj] at h; exact h
    refine ⟨.ref a, h1, k _ H ⟨S.put trivial (fun z => nomatch z), ⟨fun j h => back rfl h, fun j h => back rfl h, fun j ys h => ?_, fun j h => back rfl h, fun j h => back rfl h⟩, Ext.refl _ _, t⟩ ⟨⟨a, vs, rfl, h2, h3⟩, h1, ?_, ?_⟩⟩
    · by_cases hj : i = j
      · subst hj
        rcases hk with z | z <;> (rw [hs, z] at h; cases h)
      · rw [En.g_ne hj]; exact h
    · rw [hs]; rcases hk with z | z <;> (rw [z]; rfl)
    · rcases hk with z | z
      · exact .inl ⟨xs, z, rfl, by rw [hs, z]; rfl, by rw [En.g_self hl]; rfl⟩
      · exact .inr (.inl ⟨xs, z, rfl, by rw [hs, z]; rfl, by rw [En.g_self hl]; rfl⟩)
  unfold argV at hm
  split at hm
  · rename_i d hd
    rw [hd] at q
    obtain ⟨v, h1, h2⟩ := q
    cases hm
    exact ⟨v, h1, k v H (Pst.refl S t) ⟨⟨v, rfl, h2⟩, fun z => nomatch z⟩⟩
  · rename_i g hd
    rw [hd] at q
    cases hm
    exact ⟨_, q, k _ H (Pst.refl S t) ⟨rfl, fun z => nomatch z⟩⟩
  · rename_i np ns b cs hd
    rw [hd] at q
    obtain ⟨f, h1, h2⟩ := q
    cases hm
    exact ⟨_, h1, k _ H (Pst.refl S t) ⟨⟨f, rfl, h2⟩, fun z => nomatch z⟩⟩
  · rename_i xs hd
    rw [hd] at q
    cases hm
    exact lend hd (.inl rfl) q k
  · rename_i xs hd
    rw [hd] at q
    cases hm
    exact lend hd (.inr rfl) q k
  · rename_i xs hd
    rw [hd] at q
    obtain ⟨a, vs, h1, h2, h3⟩ := q
    cases hm
    exact ⟨.ref a, h1, k _ H (Pst.refl S t) ⟨⟨a, vs, rfl, h2, h3⟩, h1, by rw [hd]; rfl, .inr (.inr ⟨xs, rfl, rfl, hd⟩)⟩⟩
  · cases hm
end
end Mi
end

section
set_option maxRecDepth 100000
set_option maxHeartbeats 1000000
/-! Mi: calls of defs, joined. -/
namespace Mi
open PySem PySem.Spec PyProof.Rows L2
section
variable {F : Fx} {X : Cx}
theorem map_g {as : List Arg} {k : Nat} : (En.g (as.map (·.1)) k) = match as[k]? with
    | some a => a.1
    | none => .no := by
  unfold En.g
  rw [List.getD_eq_getElem?_getD, List.getElem?_map]
  cases as[k]? <;> rfl
theorem map_g' {as : List Arg} {k : Nat} (h : (En.g (as.map (·.1)) k) ≠ .no) : ∃ a, as[k]? = some a ∧ (En.g (as.map (·.1)) k) = a.1 := by
  rw [map_g] at h ⊢
  cases hk : as[k]? with
  | none => rw [hk] at h; exact absurd rfl h
  | some a => exact ⟨a, rfl, rfl⟩
theorem vs_get {vs : List V} {k : Nat} {v : V} (h : (vs.map some)[k]? = some (some v)) : vs[k]? = some v := by
  rw [List.getElem?_map] at h
  cases hk : vs[k]? with
  | none => rw [hk] at h; cases h
  | some w => rw [hk] at h; cases h; rfl
/-- a list among the arguments: new, or a slot's own -/
theorem AE.who {e0 e : En} {σ : L2.St} {H0 H : Hp} {v : V} {a : Arg} (h : AE F e0 e σ H0 H v a) (hy : a.1.ly = true) : (a.1.ow = true ∧ ∃ p, v = .ref p ∧ H0 p = none) ∨ ∃ i s0, a.2 = some (i, s0) ∧ σ[i]? = some (some v) ∧ (e0.g i).ly = true := by
  obtain ⟨s, r⟩ := a
  obtain ⟨h1, h2⟩ := h
  cases r with
  | none => exact .inl (h2 hy)
  | some is =>
    obtain ⟨i, s0⟩ := is
    obtain ⟨g1, g2, _⟩ := h2
    exact .inr ⟨i, s0, rfl, g1, g2⟩
theorem apart_ne {as : List Arg} (h : apart as = true) {k l i : Nat} {a b : Arg} {s s' : Sl} (hk : as[k]? = some a) (hl : as[l]? = some b) (ha : a.2 = some (i, s)) (hb : b.2 = some (i, s')) : k = l := by
  unfold apart at h
  rw [decide_eq_true_iff] at h
  induction as generalizing k l with
  | nil => simp at hk
  | cons c r ih =>
    have f : ∀ {m : Nat} {d : Arg} {s : Sl}, r[m]? = some d → d.2 = some (i, s) → i ∈ r.filterMap fun a => a.2.map (·.1) := fun {m d s} hm hd => List.mem_filterMap.mpr ⟨d, List.mem_of_getElem? hm, by rw [hd]; rfl⟩
    cases k with
    | zero =>
      rw [List.getElem?_cons_zero] at hk
      cases hk
      cases l with
      | zero => rfl
      | succ l =>
        rw [List.getElem?_cons_succ] at hl
        rw [List.filterMap_cons_some (by rw [ha]; rfl), List.nodup_cons] at h
        exact absurd (f hl hb) h.1
    | succ k =>
      rw [List.getElem?_cons_succ] at hk
      cases l with
      | zero =>
        rw [List.getElem?_cons_zero] at hl
        cases hl
        rw [List.filterMap_cons_some (by rw [hb]; rfl), List.nodup_cons] at h
        exact absurd (f hk ha) h.1
      | succ l =>
        rw [List.getElem?_cons_succ] at hl
        congr 1
        refine ih ?_ hk hl
        cases hc : (fun a : Arg => a.2.map (·.1)) c with
        | none => rw [List.filterMap_cons_none (f := fun a : Arg => a.2.map (·.1)) hc] at h; exact h
        | some j => rw [List.filterMap_cons_some (f := fun a : Arg => a.2.map (·.1)) hc, List.nodup_cons] at h; exact h.2
theorem args_st {e0 e : En} {σ : L2.St} {H0 H : Hp} {vs : List V} {as : List Arg} (S0 : StOk F e0 σ H0) (A : As F e0 e σ H0 H vs as) (ap : apart as = true) : StOk F (as.map (·.1)) (vs.map some) H := by
  refine ⟨by rw [List.length_map, List.length_map, A.len]; exact Nat.le_refl _, fun k => ?_, fun k l a b hkl h1 h2 h3 h4 => ?_⟩
  · rw [map_g]
    cases hk : as[k]? with
    | none => trivial
    | some a =>
      have hkl : k < vs.length := by
        rw [A.len]
        exact (List.getElem?_eq_some_iff.mp hk).1
      have hv : vs[k]? = some vs[k] := List.getElem?_eq_getElem hkl
      rw [List.getElem?_map, hv]
      exact (A.el k _ a hv hk).1
  · obtain ⟨x, hx, ex⟩ := map_g' (as := as) (k := k) (by intro z; rw [z] at h1; cases h1)
    obtain ⟨y, hy, ey⟩ := map_g' (as := as) (k := l) (by intro z; rw [z] at h2; cases h2)
    rw [ex] at h1
    rw [ey] at h2
    have hv := vs_get h3
    have hw := vs_get h4
    intro z
    subst z
    rcases (A.el k _ x hv hx).who h1 with ⟨o1, p, q1, q2⟩ | ⟨i, s0, q1, q2, q3⟩
    · cases q1
      rcases (A.el l _ y hw hy).who h2 with ⟨o2, _, _, _⟩ | ⟨i', s0', r1, r2, r3⟩
      · exact A.nw k l _ x _ y hkl hv hx hw hy o1 o2 rfl
      · obtain ⟨us, q⟩ := S0.lyLst r3 r2
        rw [q2] at q
        cases q
    · rcases (A.el l _ y hw hy).who h2 with ⟨o2, p', r1, r2⟩ | ⟨i', s0', r1, r2, r3⟩
      · cases r1
        obtain ⟨us, q⟩ := S0.lyLst q3 q2
        rw [r2] at q
        cases q
      · by_cases hii : i = i'
        · subst hii
          exact hkl (apart_ne ap hx hy q1 r1)
        · exact S0.ap i i' a a hii q3 r3 q2 r2 rfl
/-- a list that the callee may change -/
theorem args_mut {e0 e : En} {σ : L2.St} {H0 H : Hp} {vs : List V} {as : List Arg} (A : As F e0 e σ H0 H vs as) {p : Addr} (m : MutAt (as.map (·.1)) (vs.map some) p) :
    H0 p = none ∨ ∃ i, σ[i]? = some (some (.ref p)) ∧ (e0.g i).mt = true ∧ (e.g i).ly = false := by
  obtain ⟨k, h1, h2⟩ := m
  obtain ⟨x, hx, ex⟩ := map_g' (as := as) (k := k) (by intro z; rw [z] at h1; cases h1)
  rw [ex] at h1
  have q := A.el k _ x (vs_get h2) hx
  obtain ⟨s, r⟩ := x
  obtain ⟨g1, g2⟩ := q
  cases r with
  | none =>
    obtain ⟨_, p', z1, z2⟩ := g2 (mt_ly h1)
    cases z1
    exact .inl z2
  | some is =>
    obtain ⟨i, s0⟩ := is
    obtain ⟨g3, g4, g5⟩ := g2
    rcases g5 with ⟨xs, z1, z2, z3, z4⟩ | ⟨xs, z1, z2, z3, z4⟩ | ⟨xs, z1, z2, z3⟩
    · exact .inr ⟨i, g3, ow_mt z3, z4⟩
    · exact .inr ⟨i, g3, ln_mt z3, z4⟩
    · have z2 : s = .lock xs := z2
      rw [z2] at h1
      cases h1
/-- what is put back -/
def Bk (as : List Arg) (o : List Sl) (j : Nat) (s1 : Sl) : Prop := ∃ (k : Nat) (s s0 : Sl), as[k]? = some (s, some (j, s0)) ∧
  ((∃ xs ys, s0 = .own xs ∧ o[k]? = some (.lent ys) ∧ s1 = .own ys) ∨ (∃ xs ys, s0 = .lent xs ∧ o[k]? = some (.lent ys) ∧ s1 = .lent ys) ∨ (∃ xs, s0 = .lock xs ∧ s1 = .lock xs))
theorem back_ok : ∀ {as : List Arg} {o : List Sl} {e e' : En}, back as o e = some e' → e'.length = e.length ∧ ∀ j, e'.g j = e.g j ∨ Bk as o j (e'.g j)
  | [], o, e, e', h => by
    simp only [back] at h
    cases h
    exact ⟨rfl, fun j => .inl rfl⟩
  | (s, none) :: r, o, e, e', h => by
    simp only [back] at h
    obtain ⟨h1, h2⟩ := back_ok h
    refine ⟨h1, fun j => (h2 j).imp id fun ⟨k, s, s0, q1, q2⟩ => ⟨k + 1, s, s0, by rw [List.getElem?_cons_succ]; exact q1, ?_⟩⟩
    rw [show o.tail[k]? = o[k + 1]? by cases o <;> simp] at q2
    exact q2
  | (s, some (i, s0)) :: r, o, e, e', h => by
    have go : ∀ {s1 : Sl}, back r o.tail (e.set i s1) = some e' → ((∃ xs ys, s0 = .own xs ∧ o[0]? = some (.lent ys) ∧ s1 = .own ys) ∨ (∃ xs ys, s0 = .lent xs ∧ o[0]? = some (.lent ys) ∧ s1 = .lent ys) ∨ (∃ xs, s0 = .lock xs ∧ s1 = .lock xs)) →
        e'.length = e.length ∧ ∀ j, e'.g j = e.g j ∨ Bk ((s, some (i, s0)) :: r) o j (e'.g j) := fun {s1} h q => by
      obtain ⟨h1, h2⟩ := back_ok h
      refine ⟨by rw [h1, List.length_set], fun j => ?_⟩
      rcases h2 j with z | ⟨k, s', s0', q1, q2⟩
      · rw [En.g_set] at z
        split at z
        · rename_i hj
          refine .inr ⟨0, s, s0, by rw [List.getElem?_cons_zero, hj.1], ?_⟩
          rw [z]
          exact q
        · exact .inl z
      · refine .inr ⟨k + 1, s', s0', by rw [List.getElem?_cons_succ]; exact q1, ?_⟩
        rw [show o.tail[k]? = o[k + 1]? by cases o <;> simp] at q2
        exact q2
    have hh : ∀ ys, o.head? = some (.lent ys) → o[0]? = some (.lent ys) := fun ys z => by
      cases o with
      | nil => cases z
      | cons a b => exact z
    simp only [back] at h
    split at h
    · rename_i xs ys hq
      exact go h (.inl ⟨xs, ys, rfl, hh ys hq, rfl⟩)
    · rename_i xs ys hq
      exact go h (.inr (.inl ⟨xs, ys, rfl, hh ys hq, rfl⟩))
    · exact go h (.inr (.inr ⟨_, rfl, rfl⟩))
    · cases h
/-- a call's end -/
structure Cend (F : Fx) (as : List Sl) (vs : List V) (H : Hp) (os : List Sl) (v : EV) (w : V) (H' : Hp) : Prop where
  ext : Ext (MutAt as (vs.map some)) H H'
  tabs : LamX.Tabs F.T H'
  back : ∀ (k : Nat) (ys : List D), os[k]? = some (.lent ys) → RLst F.K H' ((vs.map some)[k]?) ys
  val : RR F as (vs.map some) H H' w v
/-- a def's promise: f of its arguments -/
def spG (F : Fx) (np : Nat) (f : List Sl → Option Cr) : Sp := fun vs H Q _ => LamX.Tabs F.T H ∧ ∃ as v os, StOk F as (vs.map some) H ∧ vs.length = np ∧ f as = some (.ok v os) ∧ ∀ w H', Cend F as vs H os v w H' → Q w H'
/-- behind a call -/
theorem call_pst (ok : F.Ok) {e e1 e' : En} {σ : L2.St} {H H1 H2 : Hp} {vs : List V} {as : List Arg} {os : List Sl} {v : EV} {w : V} (S : StOk F e σ H) (P : Pst F e σ H e1 H1) (A : As F e e1 σ H H1 vs as) (ap : apart as = true)
    (hb : back as os e1 = some e') (hv : ∀ xs, v ≠ .bor xs) (C : Cend F (as.map (·.1)) vs H1 os v w H2) : Pst F e σ H e' H2 ∧ REV F H e' σ H2 w v := by
  obtain ⟨hl, hj⟩ := back_ok hb
  have SA := args_st S A ap
  -- a list of another slot is not the callee's
  have far : ∀ {j : Nat} {p : Addr}, (e.g j).ly = true → (e1.g j).ly = true → σ[j]? = some (some (.ref p)) → ¬ MutAt (as.map (·.1)) (vs.map some) p := fun {j p} h1 h2 h3 m => by
    rcases args_mut A m with z | ⟨i, z1, z2, z3⟩
    · obtain ⟨us, q⟩ := S.lyLst h1 h3
      rw [z] at q
      cases q
    · have hij : i ≠ j := fun y => by rw [y, h2] at z3; cases z3
      exact S.ap i j p p hij (mt_ly z2) h1 z1 h3 rfl
  -- what a restored slot is
  have bk : ∀ {j : Nat}, Bk as os j (e'.g j) → ∃ (k : Nat) (x : V) (a : Arg), vs[k]? = some x ∧ as[k]? = some a ∧ AE F e e1 σ H H1 x a ∧ σ[j]? = some (some x) ∧ (e.g j).ly = true ∧
      ((∃ ys, os[k]? = some (.lent ys) ∧ e'.g j = .own ys ∧ (e.g j).ow = true ∧ (e1.g j).ly = false) ∨ (∃ ys, os[k]? = some (.lent ys) ∧ e'.g j = .lent ys ∧ (e.g j).ln = true ∧ (e1.g j).ly = false) ∨ (∃ xs, e'.g j = .lock xs ∧ e1.g j = .lock xs)) := fun {j} ⟨k, s, s0, q1, q2⟩ => by
    have hk : k < vs.length := by
      rw [A.len]
      exact (List.getElem?_eq_some_iff.mp q1).1
    have hx : vs[k]? = some vs[k] := List.getElem?_eq_getElem hk
    have q := A.el k _ _ hx q1
    obtain ⟨g1, g3, g4, g5⟩ := id q
    refine ⟨k, _, _, hx, q1, q, g3, g4, ?_⟩
    rcases g5 with ⟨xs, z1, z2, z3, z4⟩ | ⟨xs, z1, z2, z3, z4⟩ | ⟨xs, z1, z2, z3⟩
    · rcases q2 with ⟨xs', ys, y1, y2, y3⟩ | ⟨xs', ys, y1, y2, y3⟩ | ⟨xs', y1, y2⟩
      · exact .inl ⟨ys, y2, y3, z3, z4⟩
      · rw [z1] at y1; cases y1
      · rw [z1] at y1; cases y1
    · rcases q2 with ⟨xs', ys, y1, y2, y3⟩ | ⟨xs', ys, y1, y2, y3⟩ | ⟨xs', y1, y2⟩
      · rw [z1] at y1; cases y1
      · exact .inr (.inl ⟨ys, y2, y3, z3, z4⟩)
      · rw [z1] at y1; cases y1
    · rcases q2 with ⟨xs', ys, y1, y2, y3⟩ | ⟨xs', ys, y1, y2, y3⟩ | ⟨xs', y1, y2⟩
      · rw [z1] at y1; cases y1
      · rw [z1] at y1; cases y1
      · rw [z1] at y1
        cases y1
        exact .inr (.inr ⟨xs, y2, z3⟩)
  have ly : ∀ j, (e'.g j).ly = true → (e.g j).ly = true := fun j h => by
    rcases hj j with z | z
    · rw [z] at h; exact P.evo.ly j h
    · obtain ⟨_, _, _, _, _, _, _, q, _⟩ := bk z; exact q
  have st : StOk F e' σ H2 := by
    refine ⟨by rw [hl]; exact P.st.len, fun j => ?_, fun j l a b hjl h1 h2 h3 h4 => S.ap j l a b hjl (ly j h1) (ly l h2) h3 h4⟩
    rcases hj j with z | z
    · rw [z]
      exact (P.st.sl j).keep ok SA C.ext fun hy p hp => far (P.evo.ly j hy) hy hp
    · obtain ⟨k, x, a, q1, q2, q3, q4, q5, q6⟩ := bk z
      have hvk : (vs.map some)[k]? = some (some x) := by rw [List.getElem?_map, q1]; rfl
      rcases q6 with ⟨ys, y1, y2, _, _⟩ | ⟨ys, y1, y2, _, _⟩ | ⟨xs, y1, y2⟩
      · rw [y2, q4, ← hvk]; exact C.back k ys y1
      · rw [y2, q4, ← hvk]; exact C.back k ys y1
      · have q := P.st.sl j
        rw [y2] at q
        rw [y1]
        exact q.keep ok SA C.ext fun hy p hp => far q5 (by rw [y2]; rfl) hp
  have evo : Evo e e' := by
    refine ⟨fun j h => ?_, ly, fun j xs h => ?_, fun j h => ?_, fun j h => ?_⟩
    · rcases hj j with z | z
      · rw [z] at h; exact P.evo.mt j h
      · obtain ⟨_, _, _, _, _, _, _, _, q⟩ := bk z
        rcases q with ⟨ys, _, _, q, _⟩ | ⟨ys, _, _, q, _⟩ | ⟨xs, q, _⟩
        · exact ow_mt q
        · exact ln_mt q
        · rw [q] at h; cases h
    · have h1 := P.evo.lk j xs h
      rcases hj j with z | z
      · rw [z]; exact h1
      · obtain ⟨_, _, _, _, _, _, _, _, q⟩ := bk z
        rcases q with ⟨ys, _, _, q, _⟩ | ⟨ys, _, _, q, _⟩ | ⟨xs', q, q'⟩
        · rw [h] at q; cases q
        · rw [h] at q; cases q
        · rw [h1] at q'; cases q'; exact q
    · rcases hj j with z | z
      · rw [z] at h; exact P.evo.ln j h
      · obtain ⟨_, _, _, _, _, _, _, _, q⟩ := bk z
        rcases q with ⟨ys, _, y, q, _⟩ | ⟨ys, _, _, q, _⟩ | ⟨xs, q, _⟩
        · rw [y] at h; cases h
        · exact q
        · rw [q] at h; cases h
    · rcases hj j with z | z
      · rw [z] at h; exact P.evo.ow j h
      · obtain ⟨_, _, _, _, _, _, _, _, q⟩ := bk z
        rcases q with ⟨ys, _, _, q, _⟩ | ⟨ys, _, y, q, _⟩ | ⟨xs, q, _⟩
        · exact q
        · rw [y] at h; cases h
        · rw [q] at h; cases h
  have ext : Ext (MutAt e σ) H H2 := by
    refine ⟨fun a o h n t => C.ext.keep a o (P.ext.keep a o h n t) (fun m => ?_) t, fun a h => P.ext.trk a (C.ext.trk a h)⟩
    rcases args_mut A m with z | ⟨i, z1, z2, _⟩
    · rw [h] at z; cases z
    · exact n ⟨i, z2, z1⟩
  refine ⟨⟨st, evo, ext, C.tabs⟩, ?_⟩
  have val := C.val
  cases v with
  | val d => exact val
  | bor xs => exact absurd rfl (hv xs)
  | fr xs =>
    obtain ⟨a, us, q1, q2, q3, q4⟩ := val
    refine ⟨a, us, q1, q2, q3, ?_⟩
    rcases q4 with ⟨k, z1, z2⟩ | z
    · obtain ⟨x, hx, ex⟩ := map_g' (as := as) (k := k) (by intro z; rw [z] at z1; cases z1)
      rw [ex] at z1
      rcases A.el k _ x (vs_get z2) hx with ⟨g1, g2⟩
      obtain ⟨s, r⟩ := x
      cases r with
      | none =>
        obtain ⟨_, p', y1, y2⟩ := g2 (mt_ly (ow_mt z1))
        cases y1
        exact y2
      | some is =>
        obtain ⟨i, s0⟩ := is
        obtain ⟨_, _, g5⟩ := g2
        rcases g5 with ⟨_, _, y, _⟩ | ⟨_, _, y, _⟩ | ⟨_, _, y, _⟩
        · have y : s = _ := y
          rw [y] at z1; cases z1
        · have y : s = _ := y
          rw [y] at z1; cases z1
        · have y : s = _ := y
          rw [y] at z1; cases z1
    · exact P.ext.trk a z
/-- what callM says -/
theorem callM_ok {f : List Sl → Option Cr} {as : List Arg} {e e' : En} {ev : EV} (h : callM f as e = some (.ok ev e')) : apart as = true ∧ ∃ os, f (as.map (·.1)) = some (.ok ev os) ∧ back as os e = some e' ∧ ∀ xs, ev ≠ .bor xs := by
  unfold callM at h
  split at h
  · rename_i ha
    refine ⟨ha, ?_⟩
    split at h
    · rename_i v os hf
      split at h
      · rename_i e2 hb
        split at h
        · cases h
        · rename_i hn
          cases h
          exact ⟨os, hf, hb, fun xs z => hn xs z⟩
      · cases h
    · cases h
  · cases h
theorem call_imp (ok : F.Ok) {np : Nat} {f : List Sl → Option Cr} {ms : M (List Arg)} {σ : L2.St} {H : Hp} {Q : VK} (hnp : ∀ as r, f as = some r → as.length = np) (h : tE F (ms.bnd fun as => callM f as) σ H Q) : tAs F ms σ H fun vs H1 => spG F np f vs H1 Q (fun _ _ _ => False) := by
  obtain ⟨t, e, S, ev, e', hm, k⟩ := h
  obtain ⟨as, e1, h1, h2⟩ := bnd_ok hm
  obtain ⟨ap, os, hf, hb, hv⟩ := callM_ok h2
  refine ⟨t, e, S, as, e1, h1, fun vs H1 P1 A => ⟨P1.tabs, as.map (·.1), ev, os, args_st S A ap, ?_, hf, fun w H2 C => ?_⟩⟩
  · rw [A.len, ← hnp _ _ hf, List.length_map]
  · obtain ⟨p, r⟩ := call_pst ok S P1 A ap hb hv C
    exact k w H2 p r
end
end Mi
end

section
set_option maxRecDepth 100000
set_option maxHeartbeats 1000000
/-! Mi: a def's body keeps its promise. -/
namespace Mi
open PySem PySem.Spec PyProof.Rows L2
section
variable {F : Fx}
theorem startE_g {ns i : Nat} {as : List Sl} : En.g (startE ns as) i = En.g as i := by
  unfold En.g startE
  rw [List.getD_eq_getElem?_getD, List.getD_eq_getElem?_getD]
  by_cases h : i < as.length
  · rw [List.getElem?_append_left h]
  · rw [List.getElem?_append_right (by omega), List.getElem?_replicate, List.getElem?_eq_none (l := as) (by omega)]
    split <;> rfl
theorem start_get {N : List Str} {vs : List V} {i : Nat} {v : V} (h : (L2.start N vs)[i]? = some (some v)) : (vs.map some)[i]? = some (some v) := by
  unfold L2.start at h
  by_cases hi : i < vs.length
  · rw [List.getElem?_append_left (by rw [List.length_map]; exact hi)] at h
    exact h
  · rw [List.getElem?_append_right (by rw [List.length_map]; omega), List.getElem?_replicate] at h
    split at h <;> cases h
theorem start_get' {N : List Str} {vs : List V} {i : Nat} (hi : i < vs.length) : (L2.start N vs)[i]? = (vs.map some)[i]? := by
  unfold L2.start
  rw [List.getElem?_append_left (by rw [List.length_map]; exact hi)]
theorem StOk.start {as : List Sl} {vs : List V} {H : Hp} (S : StOk F as (vs.map some) H) (N : List Str) : StOk F (startE N.length as) (L2.start N vs) H := by
  have hl := S.len
  rw [List.length_map] at hl
  refine S.resl ?_ fun j hj => ?_
  · unfold startE L2.start
    rw [List.length_append, List.length_append, List.length_replicate, List.length_replicate, List.length_map]
    omega
  · rw [startE_g] at hj
    have := En.g_lt hj
    exact ⟨startE_g, start_get' (by omega)⟩
theorem outs_get {np k : Nat} {e : En} {ys : List D} (h : (outs np e)[k]? = some (.lent ys)) : k < np ∧ e.g k = .lent ys := by
  unfold outs at h
  rw [List.getElem?_map] at h
  cases hk : (e.take np)[k]? with
  | none => rw [hk] at h; cases h
  | some s =>
    rw [hk] at h
    have hlt : k < np := by
      have := (List.getElem?_eq_some_iff.mp hk).1
      rw [List.length_take] at this
      omega
    refine ⟨hlt, ?_⟩
    rw [List.getElem?_take_of_lt hlt] at hk
    have hs : s = .lent ys := by
      have h' : (match s with
        | .lent xs => Sl.lent xs
        | _ => Sl.no) = .lent ys := Option.some.inj h
      cases s <;> first | exact h' | cases h'
    unfold En.g
    rw [List.getD_eq_getElem?_getD, hk, hs]
    rfl
/-- an end of the body is an end of the call -/
theorem sst_cend {N : List Str} {np : Nat} {as : List Sl} {vs : List V} {H H' : Hp} {e' : En} {σ' : L2.St} {v : EV} {w : V} (hl : vs.length = np) (p : Sst F (startE N.length as) (L2.start N vs) H e' σ' H') (r : RR F (startE N.length as) (L2.start N vs) H H' w v) : Cend F as vs H (outs np e') v w H' := by
  have mt : ∀ {q : Addr}, MutAt (startE N.length as) (L2.start N vs) q → MutAt as (vs.map some) q := fun {q} ⟨j, h1, h2⟩ => ⟨j, by rw [startE_g] at h1; exact h1, start_get h2⟩
  have ow : ∀ {q : Addr}, OwnAt (startE N.length as) (L2.start N vs) q → OwnAt as (vs.map some) q := fun {q} ⟨j, h1, h2⟩ => ⟨j, by rw [startE_g] at h1; exact h1, start_get h2⟩
  refine ⟨⟨fun a o h n t => p.ext.keep a o h (fun m => n (mt m)) t, p.ext.trk⟩, p.tabs, fun k ys hk => ?_, ?_⟩
  · obtain ⟨h1, h2⟩ := outs_get hk
    have q := p.st.sl k
    rw [h2, (p.ln k (by rw [h2]; rfl)).2, start_get' (by omega)] at q
    exact q
  · cases v with
    | val d => exact r
    | bor xs => exact r
    | fr xs =>
      obtain ⟨a, us, q1, q2, q3, q4⟩ := r
      exact ⟨a, us, q1, q2, q3, q4.imp ow id⟩
/-- what a call of the body m gives -/
def bodyF (np ns : Nat) (m : En → Option Fl) (as : List Sl) : Option Cr := if as.length == np then endF np (m (startE ns as)) else none
theorem body_sp {N : List Str} {np : Nat} {m : En → Option Fl} {vs : List V} {H : Hp} {Q : VK} {E : XK} (h : spG F np (bodyF np N.length m) vs H Q E) : tS F m { nx := fun _ H' => Q .non H', rt := Q } (L2.start N vs) H := by
  obtain ⟨t, as, v, os, S, hl, hf, k⟩ := h
  unfold bodyF at hf
  split at hf
  · cases hm : m (startE N.length as) with
    | none => rw [hm] at hf; cases hf
    | some fl =>
      rw [hm] at hf
      refine ⟨t, _, S.start N, fl, hm, ?_⟩
      cases fl with
      | nx e' => cases hf; exact fun σ' H' p => k .non H' (sst_cend hl p .non)
      | rt u e' => cases hf; exact fun w σ' H' p r => k w H' (sst_cend hl p r)
      | bk e' => cases hf
      | ct e' => cases hf
      | exc x e' => cases hf
  · cases hf
abbrev CX0 : CXT := fun _ _ _ _ _ _ => False
theorem fn_step {P : Program} {w : World} {K : PySem.W.Frag} {mg : Str → Option Value} {base : Heap} {k : Nat} {f : Addr} {name qual : Str} {params : Arguments} {body : List Stmt} {scope : Scope} {dV kV doc pm cdv ct oc : Value} {an od : Option Addr}
    {osl : Array (Option Value)} {N ps : List Str} {m : En → Option Fl} (lk : K.lookup f = some ⟨oc, od, .func (PySem.W.fnOf name qual params body scope dV kV doc pm an cdv ct), osl⟩) (hcd : PySem.W.codeIn K cdv qual = true) (S : FnScope N ps scope)
    (hb : ∀ (A : Around) (outer : List Env) (s : Shared) (H : Hp) (E : XK), Room k (A.deeper (envOfC qual scope s.heap.objs.size f cdv)) → PSs (cxOf CX0 P w K mg base N qual scope f cdv A outer s H E) body (tS F m)) :
    FnOk P w K mg base CX0 (k + 1) f (PySem.W.fnOf name qual params body scope dV kV doc pm an cdv ct) ps (spG F ps.length (bodyF ps.length N.length m)) :=
  fn_of lk hcd S (fun vs H Q E ⟨_, _, _, _, _, hl, _, _⟩ => hl) fun A outer s H vs Q E hr hsp => ⟨tS F m, hb A outer s H E hr, body_sp hsp⟩
/-- no call at depth 0 -/
theorem fn_zero {P : Program} {w : World} {K : PySem.W.Frag} {mg : Str → Option Value} {base : Heap} {f : Addr} {fd : FuncData} {ps : List Str} : FnOk P w K mg base CX0 0 f fd ps (spG F ps.length fun _ => none) :=
  ⟨fun vs H Q E ⟨_, _, _, _, _, hl, _, _⟩ => hl, fun A outer s H args us vs Q E hr he hb hv ⟨_, _, _, _, _, _, hf, _⟩ => by cases hf⟩
end
end Mi
end

section
namespace Mi
open PySem PySem.Spec PyProof.Rows L2
structure PlainP (fd : FuncData) (ns : List Str) : Prop where
  po : fd.params.posonlyargs = []
  ar : fd.params.args.map (·.arg) = ns
  va : fd.params.vararg = none
  ko : fd.params.kwonlyargs = []
  ka : fd.params.kwarg = none
  df : fd.defaults = .none
theorem zip_lookup {ns : List Str} (nd : ns.Nodup) : ∀ {us : List Value} {i : Nat} {n : Str} {u : Value}, ns[i]? = some n → us[i]? = some u → (ns.zip us).lookup n = some u := by
  induction ns with
  | nil => intro us i n u h; simp at h
  | cons m r ih =>
    intro us i n u h h2
    rw [List.nodup_cons] at nd
    cases us with
    | nil => simp at h2
    | cons v vs =>
      cases i with
      | zero =>
        simp at h h2
        subst h h2
        simp [List.lookup]
      | succ i =>
        simp at h h2
        have hne : n ≠ m := fun z => nd.1 (by rw [← z]; exact List.mem_of_getElem? h)
        have hb : (n == m) = false := beq_eq_false_iff_ne.mpr hne
        simp only [List.zip_cons_cons, List.lookup, hb]
        exact ih nd.2 h h2
theorem zip_fm {ns : List Str} (nd : ns.Nodup) {us : List Value} (hl : us.length = ns.length) : (ns.filterMap fun n => ((ns.zip us).lookup n).map (n, ·)) = ns.zip us := by
  have key : ∀ (ms : List Str) (k : Nat), ms = ns.drop k → (ms.filterMap fun n => ((ns.zip us).lookup n).map (n, ·)) = ms.zip (us.drop k) := by
    intro ms
    induction ms with
    | nil => intro k h; simp
    | cons m r ih =>
      intro k h
      have hk : ns[k]? = some m := by
        have := congrArg List.head? h
        rw [List.head?_drop] at this
        simpa using this.symm
      have hlt : k < ns.length := (List.getElem?_eq_some_iff.mp hk).1
      have hu : us[k]? = some us[k] := List.getElem?_eq_getElem (by omega)
      have hz := zip_lookup nd hk hu
      have hr : r = ns.drop (k + 1) := by
        have := congrArg List.tail h
        rw [List.tail_drop] at this
        simpa using this
      rw [List.filterMap_cons_some (b := (m, us[k])) (by rw [hz]; rfl), ih (k + 1) hr, List.drop_eq_getElem_cons (i := k) (by omega), List.zip_cons_cons]
  have := key ns 0 rfl
  simpa using this
theorem bind_pos {fd : FuncData} {ns : List Str} (p : PlainP fd ns) (nd : ns.Nodup) {us : List Value} (hl : us.length = ns.length) : bindArgs fd ⟨us, []⟩ = pure (ns.zip us) := by
  have hm : (ns.filter fun n => ((ns.zip us).lookup n).isNone) = [] := by
    rw [List.filter_eq_nil_iff]
    intro n hn
    obtain ⟨i, hi⟩ := List.mem_iff_getElem?.mp hn
    have hlt : i < ns.length := (List.getElem?_eq_some_iff.mp hi).1
    rw [zip_lookup nd hi (List.getElem?_eq_getElem (by omega))]
    simp
  unfold bindArgs
  simp only [p.po, p.ar, p.va, p.ko, p.ka, p.df, List.map_nil, List.nil_append, List.append_nil, hl]
  simp [seqItems?, notAStandIn, hm, zip_fm nd hl]

theorem lookup_app {l m : List (Str × Value)} {n : Str} : (l ++ m).lookup n = (l.lookup n).or (m.lookup n) := by
  induction l with
  | nil => simp
  | cons p r ih =>
    obtain ⟨k, v⟩ := p
    by_cases h : n = k
    · subst h; simp [List.lookup]
    · have hb : (n == k) = false := beq_eq_false_iff_ne.mpr h
      simp [List.lookup, hb, ih]
theorem kw_loop {ns : List Str} {f : Str × Value → List (Str × Value) × List (Str × Value) → Sem (ForInStep (List (Str × Value) × List (Str × Value)))} (hf : ∀ x s, x.1 ∈ ns → s.1.lookup x.1 = none → f x s = pure (ForInStep.yield (s.1 ++ [(x.1, x.2)], s.2))) :
    ∀ (l s0 ex : List (Str × Value)), (∀ k ∈ l.map (·.1), k ∈ ns ∧ s0.lookup k = none) → (l.map (·.1)).Nodup → forIn l (s0, ex) f = pure (s0 ++ l, ex)
  | [], s0, ex, _, _ => by rw [List.forIn_nil, List.append_nil]
  | x :: r, s0, ex, h, nd => by
    rw [List.map_cons, List.nodup_cons] at nd
    obtain ⟨h1, h2⟩ := h x.1 (by rw [List.map_cons]; exact List.mem_cons_self)
    rw [List.forIn_cons, hf x (s0, ex) h1 h2]
    show (pure (ForInStep.yield (s0 ++ [(x.1, x.2)], ex)) >>= _) = _
    rw [pure_bind]
    show forIn r (s0 ++ [(x.1, x.2)], ex) f = _
    rw [kw_loop hf r (s0 ++ [(x.1, x.2)]) ex (fun k hk => ?_) nd.2]
    · rw [List.append_assoc]; rfl
    · obtain ⟨q1, q2⟩ := h k (by rw [List.map_cons]; exact List.mem_cons_of_mem _ hk)
      refine ⟨q1, ?_⟩
      rw [lookup_app, q2]
      have hne : k ≠ x.1 := fun z => nd.1 (by rw [← z]; exact hk)
      have hb : (k == x.1) = false := beq_eq_false_iff_ne.mpr hne
      simp [List.lookup, hb]
theorem bind_kw {fd : FuncData} {ns : List Str} (p : PlainP fd ns) {us : List Value} {kws : List (Str × Value)} (hu : us.length ≤ ns.length) (hk : ∀ k ∈ kws.map (·.1), k ∈ ns ∧ (ns.zip us).lookup k = none) (nk : (kws.map (·.1)).Nodup)
    (hall : ∀ n ∈ ns, ((ns.zip us ++ kws).lookup n).isSome = true) : bindArgs fd ⟨us, kws⟩ = pure (ns.filterMap fun n => ((ns.zip us ++ kws).lookup n).map (n, ·)) := by
  have hm : (ns.filter fun n => ((ns.zip us ++ kws).lookup n).isNone) = [] := by
    rw [List.filter_eq_nil_iff]
    intro n hn
    have := hall n hn
    cases h : (ns.zip us ++ kws).lookup n with
    | none => rw [h] at this; cases this
    | some x => simp
  unfold bindArgs
  simp only [p.po, p.ar, p.va, p.ko, p.ka, p.df, List.map_nil, List.nil_append, List.append_nil]
  rw [kw_loop (ns := ns) (fun x s h1 h2 => ?_) kws (ns.zip us) [] hk nk]
  · have hgt : ¬ us.length > ns.length := by omega
    simp [seqItems?, notAStandIn, hm, hgt]
  · have hc : (ns.contains x.1 || ([] : List Str).contains x.1) = true := by simp [h1]
    simp only [hc, h2, Option.isSome_none, if_true, Bool.false_eq_true, if_false]
end Mi
end

section
set_option maxRecDepth 100000
set_option maxHeartbeats 1000000
/-! Mi: lambdas: their making. -/
namespace Mi
open PySem PySem.Spec PyProof.Rows L2
abbrev lamQ (X : Cx) : Str := X.env.qual ++ "<lambda>"
/-- the lambda's object -/
abbrev lamO (X : Cx) (params : Arguments) (body : Expr) (scope : Scope) (pm : Value) (c' : Addr) (ctv : Value) : Obj := PySem.W.kla_obj "<lambda>" (lamQ X) params body scope (cloFrom X.env.cells scope.names []) pm c' ctv
/-- a lambda is made: known from now on -/
def tLamMk (T : List (Addr × Str)) (X : Cx) (params : Arguments) (body : Expr) (scope : Scope) : TE := fun _ H Q => LamX.Tabs T H ∧ ∀ (f c' : Addr) (pm ctv : Value) (H1 : Hp), LamX.ExtN H H1 → LamX.Tabs T H1 → (∀ a, H1 a = none → H a = none) → H f = none →
  H1 f = some (.frz (lamO X params body scope pm c' ctv) (.own 0)) → H1 c' = some (LamX.CodeO c' (lamQ X)) → Q (.ref f) H1
section
variable {X : Cx}
theorem adopt {pins : List (Addr × Obj)} {σ : L2.St} {H : Hp} {s : Shared} {h' : Heap} {tk : Nat} {ob : Obj} (hf : ob.isFreed = false) (I : Inv X pins σ H s) (k : ∀ b u, s.heap.get? b = some u → h'.get? b = some u) (hs : s.heap.objs.size ≤ h'.objs.size) :
    Inv X pins σ (upd H h'.objs.size (.frz ob (.own 0))) { s with heap := h'.push ob, toks := tk } := by
  refine I.laid (fun b u e => Heap.get?_push_of_some _ (k b u e)) hs ?_
  have e := Heap.get?_push_size h' (o := ob) hf
  exact ⟨e, ob, e⟩
theorem tabs_frz {T : List (Addr × Str)} {H : Hp} {f : Addr} {o : HO} (t : LamX.Tabs T H) (hf : H f = none) : LamX.Tabs T (upd H f o) := t.ext fun b u e => by rw [upd_ne (ne_of_none e hf)]; exact e
theorem pe_lam {T : List (Addr × Str)} {c P : Addr} {params : Arguments} {body : Expr} {scope : Scope} {pos : Pos} (TB : LamX.TabB X.base X.mg c P) (hcode : X.env.code = .ref c) (hm : (P, lamQ X) ∈ T) (hu : ∀ p ∈ T, p.1 = P → p.2 = lamQ X)
    (hdef : defaultsOf params X.env = ([], [])) (hfree : ∀ y ∈ scope.names, y.2 = .free → X.env.scope.names.lookup y.1 = some .cell ∨ X.env.scope.names.lookup y.1 = some .free) : PE X (.Lambda params body scope pos) (tLamMk T X params body scope) := by
  refine ⟨fun pins s σ H Q I ⟨hT, h⟩ => ?_⟩
  have has : ∀ y ∈ scope.names, y.2 = .free → ∃ a, X.env.cells.lookup y.1 = some a := fun y hy e => (hfree y hy e).elim (fun z => I.ok.has _ (.inl z)) fun z => I.ok.has _ (.inr z)
  obtain ⟨ps, hP, tr, am⟩ := hT (P, lamQ X) hm
  have atP : s.heap.get? P = some { cls := .none, data := .fields ps } := I.hok P _ hP
  refine PySem.W.kla_eval hdef ?_
  have cl := closure_ok has
  have gl := I.mod.glob.keeps I.bk
  have cd := TB.code.keeps I.bk
  have bm := TB.bm.keeps I.bk
  cases hc : codeAmong pos ps.toList with
  | some cv =>
    obtain ⟨c1, rfl, co⟩ := am pos cv hc
    refine PySem.W.kla_makeFunctionHit (P := P) (mg := X.mg) cl I.ok.glob gl hcode cd atP tr hc bm fun tv hp tk kp le => ?_
    have fr : H hp.objs.size = none := I.hok.fresh le
    refine ⟨.ref hp.objs.size, _, adopt rfl I kp le, rfl, h hp.objs.size c1 _ tv _ (fun b o e _ => ?_) (tabs_frz hT fr) (fun a e => ?_) fr upd_same ?_⟩
    · rw [upd_ne (ne_of_none e fr)]; exact e
    · by_cases z : a = hp.objs.size
      · rw [z, upd_same] at e; cases e
      · rw [upd_ne z] at e; exact e
    · rw [upd_ne (ne_of_none co fr)]; exact co
  | none =>
    refine PySem.W.kla_makeFunction (P := P) (mg := X.mg) cl I.ok.glob gl hcode cd atP tr hc TB.gP bm fun c1 tv hp tk kp ge lt rec' tb => ?_
    obtain ⟨c2, oc, vs, tq, e2, hoc, hd, hv⟩ := rec'
    cases e2
    have nc : H c1 = none := I.hok.fresh ge
    have I1 := LamX.inv_table (q := lamQ X) (t' := s.toks) (more := #[rawInt pos.line, rawInt pos.col, .ref c1]) I hP kp tb ge ⟨oc, vs, tq, hoc, hd, hv⟩
    have I2 := adopt (tk := tk) (ob := lamO X params body scope ((X.mg "__name__").getD .none) c1 tv) rfl I1 (fun _ _ e => e) (Nat.le_refl _)
    have nf : H hp.objs.size = none := I.hok.fresh (Nat.le_trans ge (Nat.le_of_lt lt))
    have nfc : hp.objs.size ≠ c1 := Nat.ne_of_gt lt
    have nfP : hp.objs.size ≠ P := Nat.ne_of_gt (Heap.lt_size tb)
    have nPc : P ≠ c1 := ne_of_none hP nc
    have old : ∀ b o, H b = some o → b ≠ P → upd (upd (upd H P (.tbl (ps ++ #[rawInt pos.line, rawInt pos.col, .ref c1]))) c1 (LamX.CodeO c1 (lamQ X))) hp.objs.size (.frz (lamO X params body scope ((X.mg "__name__").getD .none) c1 tv) (.own 0)) b = some o := fun b o e hb => by
      rw [upd_ne (ne_of_none e nf), upd_ne (ne_of_none e nc), upd_ne hb]
      exact e
    have nt : ∀ b o, H b = some o → (∀ q, o ≠ .tbl q) → b ≠ P := fun b o e q z => by
      rw [z, hP] at e
      exact q ps (Option.some.inj e).symm
    have newC : upd (upd (upd H P (.tbl (ps ++ #[rawInt pos.line, rawInt pos.col, .ref c1]))) c1 (LamX.CodeO c1 (lamQ X))) hp.objs.size (.frz (lamO X params body scope ((X.mg "__name__").getD .none) c1 tv) (.own 0)) c1 = some (LamX.CodeO c1 (lamQ X)) := by
      rw [upd_ne (Ne.symm nfc), upd_same]
    refine ⟨.ref hp.objs.size, _, I2, rfl, h hp.objs.size c1 _ tv _ (fun b o e q => old b o e (nt b o e q)) (fun p hp' => ?_) (fun a e => ?_) nf upd_same newC⟩
    · by_cases hb : p.1 = P
      · refine ⟨ps ++ #[rawInt pos.line, rawInt pos.col, .ref c1], ?_, ?_, fun p' cv hcv => ?_⟩
        · rw [hb, upd_ne (Ne.symm nfP), upd_ne nPc, upd_same]
        · rw [Array.toList_append]
          exact PySem.TriplesOk_snoc _ _ _ _ tr
        · rw [Array.toList_append] at hcv
          rw [hu p hp' hb]
          rcases LamX.among_app _ tr hcv with z | z
          · obtain ⟨c0, e1, e2⟩ := am p' cv z
            exact ⟨c0, e1, old _ _ e2 (nt _ _ e2 fun q => LamX.codeO_ne q)⟩
          · exact ⟨c1, z, newC⟩
      · obtain ⟨ps', a1, a2, a3⟩ := hT p hp'
        refine ⟨ps', old _ _ a1 hb, a2, fun p' cv hcv => ?_⟩
        obtain ⟨c0, e1, e2⟩ := a3 p' cv hcv
        exact ⟨c0, e1, old _ _ e2 (nt _ _ e2 fun q => LamX.codeO_ne q)⟩
    · by_cases z1 : a = hp.objs.size
      · rw [z1, upd_same] at e; cases e
      · rw [upd_ne z1] at e
        by_cases z2 : a = c1
        · rw [z2, upd_same] at e; cases e
        · rw [upd_ne z2] at e
          by_cases z3 : a = P
          · rw [z3, upd_same] at e; cases e
          · rw [upd_ne z3] at e; exact e
end
end Mi
end

section
set_option maxRecDepth 100000
set_option maxHeartbeats 1000000
/-! Mi: cells hidden and shown. -/
namespace Mi
open PySem PySem.Spec PyProof.Rows L2
def hide (C : List Addr) (H : Hp) : Hp := fun a => if a ∈ C then none else H a
def shw (C : List Addr) (H H' : Hp) : Hp := fun a => if a ∈ C then H a else H' a
def adds (C : List Addr) (ob : Addr → Obj) (H : Hp) : Hp := fun a => if a ∈ C then some (.frz (ob a) (.own 0)) else H a
/-- these are known as they stand -/
def Cels (C : List Addr) (H : Hp) : Prop := ∀ c ∈ C, ∃ o, H c = some (.frz o (.own 0))
section
variable {P : Program} {w : World} {C : List Addr} {H H' : Hp} {h h' : Heap} {fs : List Addr} {ob : Addr → Obj}
theorem hide_in {a : Addr} (h : a ∈ C) : hide C H a = none := if_pos h
theorem hide_out {a : Addr} (h : a ∉ C) : hide C H a = H a := if_neg h
theorem hide_some {a : Addr} {o : HO} (h : hide C H a = some o) : a ∉ C ∧ H a = some o := by
  by_cases hc : a ∈ C
  · rw [hide_in hc] at h; cases h
  · rw [hide_out hc] at h; exact ⟨hc, h⟩
theorem shw_in {a : Addr} (h : a ∈ C) : shw C H H' a = H a := if_pos h
theorem shw_out {a : Addr} (h : a ∉ C) : shw C H H' a = H' a := if_neg h
theorem adds_in {a : Addr} (h : a ∈ C) : adds C ob H a = some (.frz (ob a) (.own 0)) := if_pos h
theorem adds_out {a : Addr} (h : a ∉ C) : adds C ob H a = H a := if_neg h
theorem Cels.nin (c : Cels C H) {a : Addr} {o : HO} (h : H a = some o) (n : ∀ ob, o ≠ .frz ob (.own 0)) : a ∉ C := fun z => by
  obtain ⟨q, e⟩ := c a z
  rw [h] at e
  exact n q (Option.some.inj e)
theorem hok_hide (c : Cels C H) (k : HOk P w H h) : HOk P w (hide C H) h := fun a o e => by
  obtain ⟨h1, h2⟩ := hide_some e
  refine (k a o h2).stay (fun _ _ _ q => q) (fun b q => ?_) fun b xs q => ?_
  · rw [hide_out (c.nin q (by intro _ z; cases z))]; exact q
  · rw [hide_out (c.nin q (by intro _ z; cases z))]; exact q
/-- behind what ran while they were hidden -/
theorem un_shw (c : Cels C H) (k : HOk P w H h) (hfs : ∀ a ∈ fs, H a = none) (u : Un fs [] (hide C H) H' h h') (k' : HOk P w H' h') :
    Un fs [] H (shw C H H') h h' ∧ HOk P w (shw C H H') h' ∧ Grow H' (shw C H H') ∧ ∀ a ∈ C, H' a = none := by
  have nin : ∀ {a : Addr}, H a = none → a ∉ C := fun {a} e z => by
    obtain ⟨q, e'⟩ := c a z
    rw [e] at e'
    cases e'
  have obj : ∀ a ∈ C, ∃ o, H a = some (.frz o (.own 0)) ∧ h.get? a = some o ∧ h'.get? a = some o ∧ H' a = none := fun a ha => by
    obtain ⟨o, e⟩ := c a ha
    obtain ⟨q, _⟩ := k a _ e
    have nf : a ∉ fs := fun z => by
      have := hfs a z
      rw [e] at this
      cases this
    exact ⟨o, e, q, u.keep a o q (hide_in ha) nf (by simp), u.free a o q (hide_in ha) (by simp)⟩
  have gr : Grow H' (shw C H H') := fun a o e => by
    rw [shw_out fun z => ?_]
    · exact e
    · obtain ⟨_, _, _, _, q⟩ := obj a z
      rw [e] at q
      cases q
  refine ⟨⟨fun b o e n hb hx => u.keep b o e (by rw [hide_out (nin n)]; exact n) hb hx, fun b o e n hb hx => u.slot b o e (by rw [hide_out (nin n)]; exact n) hb hx, fun b o e n hx => ?_, u.there, fun b xs e => ?_, fun b o x e => ?_, fun b ps e => ?_⟩, fun a o e => ?_, gr, fun a ha => (obj a ha).choose_spec.2.2.2⟩
  · rw [shw_out (nin n)]
    exact u.free b o e (by rw [hide_out (nin n)]; exact n) hx
  · have hb := c.nin e (by intro _ z; cases z)
    rw [shw_out hb]
    exact u.tups b xs (by rw [hide_out hb]; exact e)
  · by_cases hb : b ∈ C
    · rw [shw_in hb]; exact e
    · rw [shw_out hb]
      exact u.frzs b o x (by rw [hide_out hb]; exact e)
  · have hb := c.nin e (by intro _ z; cases z)
    rw [shw_out hb]
    exact u.tbls b ps (by rw [hide_out hb]; exact e)
  · by_cases ha : a ∈ C
    · rw [shw_in ha] at e
      obtain ⟨o', h1, h2, h3, _⟩ := obj a ha
      rw [h1] at e
      cases e
      exact ⟨h3, o', h3⟩
    · rw [shw_out ha] at e
      exact (k' a o e).stay (fun _ _ _ q => q) (fun b q => gr _ _ q) fun b xs q => gr _ _ q
theorem hok_adds (n : ∀ c ∈ C, H c = none) (o : ∀ c ∈ C, h.get? c = some (ob c)) (k : HOk P w H h) : HOk P w (adds C ob H) h := fun a u e => by
  have gr : Grow H (adds C ob H) := fun b x q => by
    rw [adds_out fun z => by rw [n b z] at q; cases q]
    exact q
  by_cases ha : a ∈ C
  · rw [adds_in ha] at e
    cases e
    exact ⟨o a ha, ob a, o a ha⟩
  · rw [adds_out ha] at e
    exact (k a u e).stay (fun _ _ _ q => q) (fun b q => gr _ _ q) fun b xs q => gr _ _ q
theorem grow_adds (n : ∀ c ∈ C, H c = none) : Grow H (adds C ob H) := fun b x q => by
  rw [adds_out fun z => by rw [n b z] at q; cases q]
  exact q
/-- behind what ran while they were known -/
theorem un_rem (n : ∀ c ∈ C, H c = none) (o : ∀ c ∈ C, h.get? c = some (ob c)) (u : Un fs [] (adds C ob H) H' h h') (k' : HOk P w H' h') : Un fs [] H (hide C H') h h' ∧ HOk P w (hide C H') h' ∧ Cels C H' := by
  have frz : ∀ c ∈ C, H' c = some (.frz (ob c) (.own 0)) := fun c hc => u.frzs c _ _ (adds_in hc)
  have cel : Cels C H' := fun c hc => ⟨ob c, frz c hc⟩
  have nin : ∀ {a : Addr} {x : HO}, H a = some x → a ∉ C := fun {a x} e z => by rw [n a z] at e; cases e
  have at' : ∀ b ob', h.get? b = some ob' → b ∈ C → h'.get? b = some ob' := fun b ob' e hb => by
    obtain ⟨q, _⟩ := k' b _ (frz b hb)
    rw [o b hb] at e
    cases e
    exact q
  refine ⟨⟨fun b x e q hb hx => ?_, fun b x e q hb hx => ?_, fun b x e q hx => ?_, u.there, fun b xs e => ?_, fun b x y e => ?_, fun b ps e => ?_⟩, hok_hide cel k', cel⟩
  · by_cases hc : b ∈ C
    · exact at' b x e hc
    · exact u.keep b x e (by rw [adds_out hc]; exact q) hb hx
  · by_cases hc : b ∈ C
    · exact ⟨x.slots, at' b x e hc⟩
    · exact u.slot b x e (by rw [adds_out hc]; exact q) hb hx
  · by_cases hc : b ∈ C
    · exact hide_in hc
    · rw [hide_out hc]
      exact u.free b x e (by rw [adds_out hc]; exact q) hx
  · rw [hide_out (nin e)]; exact u.tups b xs (by rw [adds_out (nin e)]; exact e)
  · rw [hide_out (nin e)]; exact u.frzs b x y (by rw [adds_out (nin e)]; exact e)
  · rw [hide_out (nin e)]; exact u.tbls b ps (by rw [adds_out (nin e)]; exact e)
end
section
variable {K : PySem.W.Frag} {C : List Addr} {H : Hp}
mutual
theorem RD.hide (c : Cels C H) : ∀ {d : D} {v : V}, RD K H v d → RD K (hide C H) v d
  | _, _, .non => .non
  | _, _, .bl b => .bl b
  | _, _, .int i => .int i
  | _, _, .str x h => .str x h
  | _, _, .tup h r => .tup (by
      rcases h with (h | ⟨o, h⟩) | h
      · exact .inl (.inl (by rw [hide_out (c.nin h (by intro _ z; cases z))]; exact h))
      · exact .inl (.inr ⟨o, by rw [hide_out (c.nin h (by intro _ z; cases z))]; exact h⟩)
      · exact .inr h) (RDs.hide c r)
  | _, _, .lst ⟨o, h⟩ r => .lst ⟨o, by rw [hide_out (c.nin h (by intro _ z; cases z))]; exact h⟩ (RDs.hide c r)
  | _, _, .emp (o := o) h => .emp (o := o) (by rw [hide_out (c.nin h (by intro _ z; cases z))]; exact h)
theorem RDs.hide (c : Cels C H) : ∀ {ds : List D} {vs : List V}, RDs K H vs ds → RDs K (hide C H) vs ds
  | _, _, .nil => .nil
  | _, _, .cons h r => .cons (RD.hide c h) (RDs.hide c r)
end
theorem RLst.hide (c : Cels C H) {x : Option (Option V)} {xs : List D} (h : RLst K H x xs) : RLst K (hide C H) x xs := by
  obtain ⟨a, vs, h1, h2, h3⟩ := h
  exact ⟨a, vs, h1, by rw [hide_out (c.nin h2 (by intro _ z; cases z))]; exact h2, RDs.hide c h3⟩
theorem tabs_hide (c : Cels C H) {T : List (Addr × Str)} (t : LamX.Tabs T H) : LamX.Tabs T (hide C H) := fun p hp => by
  obtain ⟨ps, a1, a2, a3⟩ := t p hp
  refine ⟨ps, by rw [hide_out (c.nin a1 (by intro _ z; cases z))]; exact a1, a2, fun p' cv hcv => ?_⟩
  obtain ⟨c0, e1, e2⟩ := a3 p' cv hcv
  exact ⟨c0, e1, by rw [hide_out (c.nin e2 (by intro _ z; unfold LamX.CodeO at z; cases z))]; exact e2⟩
end
end Mi
end

section
set_option maxRecDepth 100000
set_option maxHeartbeats 1000000
/-! Mi: lambdas: their calls. -/
namespace Mi
open PySem PySem.Spec PyProof.Rows L2
/-- what of the text a lambda must have -/
structure LamSt (ps cs : List Str) (params : Arguments) (scope : Scope) : Prop where
  kind : scope.kind = .function
  co : scope.isCoroutine = false
  gen : scope.isGenerator = false
  nd : (ps ++ cs).Nodup
  par : ∀ x ∈ ps, scope.names.lookup x = some .local
  cap : ∀ x ∈ cs, scope.names.lookup x = some .free
  nocell : ∀ y ∈ scope.names, y.2 ≠ .cell
  free : ∀ y ∈ scope.names, y.2 = .free → y.1 ∈ cs
  po : params.posonlyargs = []
  ar : params.args.map (·.arg) = ps
  va : params.vararg = none
  ko : params.kwonlyargs = []
  ka : params.kwarg = none
def RC (K : PySem.W.Frag) (fa : Nat → Addr) (H : Hp) (v : V) : Sl → Prop
  | .val d => RD K H v d
  | .fn g => v = .ref (fa g)
  | _ => False
abbrev LKP := CE → Expr → Scope → List Str → List Str → Prop
/-- a lambda's object, its cells known -/
def CloF (K : PySem.W.Frag) (fa : Nat → Addr) (LK : LKP) : CloP := fun H f np ns body caps => ∃ (qual : Str) (params : Arguments) (bodyE : Expr) (scope : Scope) (clos : List (Str × Addr)) (pm : Value) (c' : Addr) (ctv : Value) (ps cs : List Str),
  H f = some (.frz (PySem.W.kla_obj "<lambda>" qual params bodyE scope clos pm c' ctv) (.own 0)) ∧ H c' = some (LamX.CodeO c' qual) ∧ LamSt ps cs params scope ∧ LK body bodyE scope ps cs ∧ ps.length = np ∧ (ps ++ cs).length = ns ∧ caps.length = cs.length ∧
  (∀ (i : Nat) (x : Str), cs[i]? = some x → ∃ (c : Addr) (oc : Obj) (u : Value) (v : V) (s : Sl), clos.lookup x = some c ∧ H c = some (.frz oc (.own 0)) ∧ oc.data = .cell (some u) ∧ RelV v u ∧ caps[i]? = some s ∧ RC K fa H v s) ∧
  (∀ x c, clos.lookup x = some c → x ∈ cs) ∧ ∀ x y c, clos.lookup x = some c → clos.lookup y = some c → x = y
theorem RC.per {K : PySem.W.Frag} {fa : Nat → Addr} {H H' : Hp} {v : V} {s : Sl} (p : Per H H') (h : RC K fa H v s) : RC K fa H' v s := by
  cases s <;> first | exact RD.per p h | exact h
theorem CloF.keep {K : PySem.W.Frag} {fa : Nat → Addr} {LK : LKP} {H H' : Hp} {f : Addr} {np ns : Nat} {b : CE} {cs : List Sl} (k : ∀ a o, H a = some o → (∀ xs, o ≠ .lst xs) → (∀ ps, o ≠ .tbl ps) → H' a = some o) (h : CloF K fa LK H f np ns b cs) : CloF K fa LK H' f np ns b cs := by
  have p : Per H H' := ⟨fun a xs h => k a _ h (by intro _ z; cases z) (by intro _ z; cases z), fun a o u h => k a _ h (by intro _ z; cases z) (by intro _ z; cases z)⟩
  obtain ⟨qual, params, bodyE, scope, clos, pm, c', ctv, ps, cs', h1, h2, h3, h4, h5, h6, h7, h8, h9, h10⟩ := h
  refine ⟨qual, params, bodyE, scope, clos, pm, c', ctv, ps, cs', p.2 _ _ _ h1, k _ _ h2 (by intro _ z; unfold LamX.CodeO at z; cases z) (by intro _ z; unfold LamX.CodeO at z; cases z), h3, h4, h5, h6, h7, fun i x hx => ?_, h9, h10⟩
  obtain ⟨c, oc, u, v, s, q1, q2, q3, q4, q5, q6⟩ := h8 i x hx
  exact ⟨c, oc, u, v, s, q1, p.2 _ _ _ q2, q3, q4, q5, q6.per p⟩
/-- the context of a lambda's body -/
def lamC (P : Program) (w : World) (K : PySem.W.Frag) (mg : Str → Option Value) (base : Heap) (N : List Str) (qual : Str) (scope : Scope) (f c' : Addr) (clos : List (Str × Addr)) (A : Around) (outer : List Env) (s : Shared) (H : Hp) : Cx where
  prog := P
  w := w
  K := K
  mg := mg
  base := base
  A := A.deeper (PySem.W.envX qual scope s.heap.objs.size f (.ref c') clos)
  N := N
  s_0 := s
  H_0 := H
  env := PySem.W.envX qual scope s.heap.objs.size f (.ref c') clos
  outer := outer
  stack := PySem.W.envX qual scope s.heap.objs.size f (.ref c') clos :: outer
  ex := []
  fn := fun _ => false
  calm := true
  pn := []
  xe := fun _ _ => False
section
variable {P : Program} {w : World} {K : PySem.W.Frag} {mg : Str → Option Value} {base : Heap}
theorem lookup_nodup {α : Type} : ∀ {l : List (Str × α)} {k : Str} {v : α}, (l.map (·.1)).Nodup → (k, v) ∈ l → l.lookup k = some v
  | [], _, _, _, h => nomatch h
  | (m, u) :: r, k, v, nd, h => by
    rw [List.map_cons, List.nodup_cons] at nd
    rcases List.mem_cons.mp h with z | z
    · cases z
      simp [List.lookup]
    · have hne : k ≠ m := fun y => nd.1 (by rw [← y]; exact List.mem_map.mpr ⟨(k, v), z, rfl⟩)
      have hb : (k == m) = false := beq_eq_false_iff_ne.mpr hne
      simp only [List.lookup, hb]
      exact lookup_nodup nd.2 z
theorem zip_sub : ∀ (ps : List Str) (us : List Value), ((ps.zip us).map (·.1)).Sublist ps
  | [], _ => by simp
  | _ :: _, [] => by simp
  | p :: ps, u :: us => by
    rw [List.zip_cons_cons, List.map_cons]
    exact (zip_sub ps us).cons_cons p
theorem rev_lookup {ps : List Str} {us : List Value} (nd : ps.Nodup) {i : Nat} {x : Str} {u : Value} (h1 : ps[i]? = some x) (h2 : us[i]? = some u) : (ps.zip us).reverse.lookup x = some u := by
  refine lookup_nodup ?_ ?_
  · rw [List.map_reverse]
    have : ((ps.zip us).map (·.1)).Nodup := nd.sublist (zip_sub ps us)
    exact (List.reverse_perm _).nodup_iff.mpr this
  · rw [List.mem_reverse]
    refine List.mem_of_getElem? (i := i) ?_
    rw [List.getElem?_zip_eq_some]
    exact ⟨h1, h2⟩
theorem lam_start3 {ps cs : List Str} {params : Arguments} {qual : Str} {scope : Scope} {f c' : Addr} {clos : List (Str × Addr)} {A : Around} {outer : List Env} {s : Shared} {H : Hp} {h₁ : Heap} {tk : Nat} {us : List Value} {vs cv : List V} (L : LamSt ps cs params scope)
    (e0 : Env0 P w K mg base A outer s H) (hd : A.handled = none) (hns : h₁.Ns s.heap.objs.size fun y => (ps.zip us).reverse.lookup y) (kp : ∀ b o, s.heap.get? b = some o → h₁.get? b = some o) (hl : vs.length = ps.length) (r : Vals vs us)
    (hcl : cv.length = cs.length) (hc : ∀ (i : Nat) (x : Str), cs[i]? = some x → ∃ c u v, clos.lookup x = some c ∧ H c = none ∧ s.heap.IsCell c (some u) ∧ RelV v u ∧ cv[i]? = some v) (hm : ∀ x c, clos.lookup x = some c → x ∈ cs) (inj : ∀ x y c, clos.lookup x = some c → clos.lookup y = some c → x = y) :
    Inv (lamC P w K mg base (ps ++ cs) qual scope f c' clos A outer s H) [] ((vs ++ cv).map some) H { s with heap := h₁, toks := tk } := by
  have noA : ∀ b : Addr, b ∉ (lamC P w K mg base (ps ++ cs) qual scope f c' clos A outer s H).ex := fun b z => absurd (show b ∈ ([] : List Addr) from z) (by simp)
  have cell : ∀ x c, clos.lookup x = some c → ∃ u, H c = none ∧ s.heap.IsCell c (some u) := fun x c e => by
    obtain ⟨i, hi⟩ := List.mem_iff_getElem?.mp (hm x c e)
    obtain ⟨c1, u, v, q1, q2, q3, _⟩ := hc i x hi
    rw [e] at q1
    cases q1
    exact ⟨u, q2, q3⟩
  refine ⟨⟨e0.mod, L.kind, rfl, rfl, Nat.le_refl _, inj, fun y hy => ?_, fun y c z _ => ?_, fun _ => hd, Around.frames_deeper e0.frames, .inr ⟨rfl, rfl⟩, fun b z => absurd z (noA b), e0.bs, e0.bsz, fun b _ _ => noA b, fun b z => absurd z (noA b), e0.funs, e0.frf⟩,
    rfl, e0.bare, Un.kept kp, ⟨_, hns, fun i y v e1 e2 e3 => ?_⟩, fun y c e => ?_, e0.hok.fresh (Nat.le_refl _), fun y c e => (cell y c e).choose_spec.1, fun q hq => absurd (show q ∈ ([] : List (Addr × Obj)) ++ [] from hq) (by simp), e0.hok.kept kp, ?_⟩
  · have hy : scope.names.lookup y = some .cell ∨ scope.names.lookup y = some .free := hy
    rcases hy with k | k
    · exact absurd rfl (L.nocell _ (PySem.mem_of_lookup k))
    · obtain ⟨i, hi⟩ := List.mem_iff_getElem?.mp (L.free _ (PySem.mem_of_lookup k) rfl)
      obtain ⟨c, _, _, q, _⟩ := hc i y hi
      exact ⟨c, q⟩
  · have z : false = true := z
    cases z
  · have e1 : (ps ++ cs)[i]? = some y := e1
    by_cases hi : i < ps.length
    · rw [List.getElem?_append_left hi] at e1
      rw [List.getElem?_map, List.getElem?_append_left (by omega)] at e2
      cases hv : vs[i]? with
      | none => rw [hv] at e2; cases e2
      | some v' =>
        rw [hv] at e2
        cases e2
        obtain ⟨u, hu, rv⟩ := r.get hv
        exact ⟨u, rv, .inl ⟨L.par y (List.mem_of_getElem? e1), rev_lookup (List.nodup_append.mp L.nd).1 e1 hu⟩⟩
    · rw [List.getElem?_append_right (by omega)] at e1
      rw [List.getElem?_map, List.getElem?_append_right (by omega)] at e2
      obtain ⟨c, u, v', q1, q2, q3, q4, q5⟩ := hc _ y e1
      rw [hl, q5] at e2
      cases e2
      refine ⟨u, q4, .inr ⟨.inr (L.cap y (List.mem_of_getElem? e1)), c, q1, ?_⟩⟩
      obtain ⟨o, ho, hd⟩ := q3
      exact ⟨o, kp _ _ ho, hd⟩
  · obtain ⟨u, _, o, ho, hd⟩ := cell y c e
    exact ⟨_, o, kp _ _ ho, hd⟩
  · rw [List.length_map, List.length_append, hl, hcl]
    show _ = (ps ++ cs).length
    rw [List.length_append]
end
end Mi
end

section
set_option maxRecDepth 100000
set_option maxHeartbeats 1000000
/-! Mi: a lambda's body run. -/
namespace Mi
open PySem PySem.Spec PyProof.Rows L2
theorem list_choose {α β : Type} : ∀ {cs : List α} {Φ : Nat → α → β → Prop}, (∀ (i : Nat) (x : α), cs[i]? = some x → ∃ v, Φ i x v) → ∃ cv : List β, cv.length = cs.length ∧ ∀ (i : Nat) (x : α), cs[i]? = some x → ∃ v, cv[i]? = some v ∧ Φ i x v
  | [], _, _ => ⟨[], rfl, fun i x h => by simp at h⟩
  | c :: cs, Φ, h => by
    obtain ⟨v, hv⟩ := h 0 c rfl
    obtain ⟨cv, h1, h2⟩ := list_choose (cs := cs) (Φ := fun i x v => Φ (i + 1) x v) fun i x hx => h (i + 1) x (by rw [List.getElem?_cons_succ]; exact hx)
    refine ⟨v :: cv, by rw [List.length_cons, List.length_cons, h1], fun i x hx => ?_⟩
    cases i with
    | zero =>
      rw [List.getElem?_cons_zero] at hx
      cases hx
      exact ⟨v, rfl, hv⟩
    | succ i =>
      rw [List.getElem?_cons_succ] at hx
      obtain ⟨u, q1, q2⟩ := h2 i x hx
      exact ⟨u, by rw [List.getElem?_cons_succ]; exact q1, q2⟩
theorem app_g {as bs : List Sl} {j : Nat} : En.g (as ++ bs) j = if j < as.length then En.g as j else En.g bs (j - as.length) := by
  unfold En.g
  rw [List.getD_eq_getElem?_getD, List.getD_eq_getElem?_getD, List.getD_eq_getElem?_getD]
  split
  · rename_i h
    rw [List.getElem?_append_left h]
  · rename_i h
    rw [List.getElem?_append_right (by omega)]
section
variable {P : Program} {w : World} {mg : Str → Option Value} {base : Heap} {F : Fx} {LK : LKP}
def lamF (np ns : Nat) (m : M EV) (caps as : List Sl) : Option Cr := if as.length == np && as.all Sl.pl then match m (startE ns (as ++ caps)) with
  | some (.ok (.bor _) _) => none
  | some (.ok v e) => some (.ok v (outs np e))
  | _ => none else none
theorem lamF_ok {np ns : Nat} {m : M EV} {caps as os : List Sl} {v : EV} (h : lamF np ns m caps as = some (.ok v os)) : as.length = np ∧ as.all Sl.pl = true ∧ ∃ e', m (startE ns (as ++ caps)) = some (.ok v e') ∧ os = outs np e' ∧ ∀ xs, v ≠ .bor xs := by
  unfold lamF at h
  split at h
  · rename_i ha
    rw [Bool.and_eq_true, beq_iff_eq] at ha
    refine ⟨ha.1, ha.2, ?_⟩
    split at h
    · cases h
    · rename_i v' e hn hm
      cases h
      exact ⟨e, hm, rfl, fun xs z => hn xs z⟩
    · cases h
  · cases h
theorem lam_run {j np ns : Nat} {b : CE} {caps : List Sl} {m : M EV} {f : Addr} {A : Around} {outer : List Env} {s : Shared} {H : Hp} {vs : List V} {us : List Value} {Q : VK} (hclo : F.clo = CloF F.K F.fa LK)
    (hbody : ∀ (qual : Str) (scope : Scope) (params : Arguments) (bodyE : Expr) (ps cs : List Str) (f c' : Addr) (clos : List (Str × Addr)) (A : Around) (outer : List Env) (s : Shared) (H : Hp), LamSt ps cs params scope → LK b bodyE scope ps cs → Room j (A.deeper (PySem.W.envX qual scope s.heap.objs.size f (.ref c') clos)) →
      PE (lamC P w F.K mg base (ps ++ cs) qual scope f c' clos A outer s H) bodyE (tE F m))
    (hr : Room (j + 1) A) (e0 : Env0 P w F.K mg base A outer s H) (c : F.clo H f np ns b caps) (r : Vals vs us) (h : spG F np (lamF np ns m caps) vs H Q (fun _ _ _ => False)) :
    codeAny (model P w) A (.call (.ref f) ⟨us, []⟩) (CR CX0 outer P w H s Q (fun _ _ _ => False)) s := by
  rw [hclo] at c
  obtain ⟨qual, params, bodyE, scope, clos, pm, c', ctv, ps, cs, h1, h2, L, hLK, hnp, hns', hcl, h8, h9, h10⟩ := c
  obtain ⟨t, as, ev, os, S, hlv, hf, k⟩ := h
  obtain ⟨hla, hpl, e', hm, rfl, hnb⟩ := lamF_ok hf
  -- the cells
  let C : List Addr := cs.filterMap fun x => clos.lookup x
  have memC : ∀ a, a ∈ C → ∃ i x, cs[i]? = some x ∧ clos.lookup x = some a := fun a ha => by
    obtain ⟨x, hx, e⟩ := List.mem_filterMap.mp ha
    obtain ⟨i, hi⟩ := List.mem_iff_getElem?.mp hx
    exact ⟨i, x, hi, e⟩
  have cel : Cels C H := fun a ha => by
    obtain ⟨i, x, hi, e⟩ := memC a ha
    obtain ⟨c1, oc, u, v, s1, q1, q2, _⟩ := h8 i x hi
    rw [e] at q1
    cases q1
    exact ⟨oc, q2⟩
  have inC : ∀ x a, clos.lookup x = some a → a ∈ C := fun x a e => List.mem_filterMap.mpr ⟨x, h9 x a e, e⟩
  have hid : ∀ a, H a = none → hide C H a = none := fun a e => by
    by_cases z : a ∈ C
    · exact hide_in z
    · rw [hide_out z]; exact e
  have e1 : Env0 P w F.K mg base A outer s (hide C H) := ⟨e0.frames, e0.mod, fun b o q => ⟨(e0.bs b o q).1, hid b (e0.bs b o q).2⟩, e0.bsz, e0.funs, fun b q => hid b (e0.frf b q), hok_hide cel e0.hok, e0.bare⟩
  obtain ⟨cv, hcv, hcv2⟩ := list_choose (cs := cs) (Φ := fun i x v => ∃ c oc u s, clos.lookup x = some c ∧ H c = some (.frz oc (.own 0)) ∧ oc.data = .cell (some u) ∧ RelV v u ∧ caps[i]? = some s ∧ RC F.K F.fa H v s) fun i x hx => by
    obtain ⟨c1, oc, u, v, s1, q⟩ := h8 i x hx
    exact ⟨v, c1, oc, u, s1, q⟩
  have nd := List.nodup_append.mp L.nd
  have hlu : us.length = ps.length := by rw [← r.length, hlv, hnp]
  have pl : PlainP (PySem.W.kla_fn "<lambda>" qual params bodyE scope clos pm (.ref c') ctv) ps := ⟨L.po, L.ar, L.va, L.ko, L.ka, rfl⟩
  have of1 : s.heap.get? f = some (PySem.W.kla_obj "<lambda>" qual params bodyE scope clos pm c' ctv) := (e0.hok f _ h1).1
  obtain ⟨⟨oc, vs', tq, hoc, hdc, hvc⟩, _, _⟩ := e0.hok c' _ h2
  have hroom : A.depth < recursionLimit := hr.depth
  refine PySem.W.kla_callFunE hroom of1 rfl L.co L.gen rfl ⟨c', oc, vs', tq, rfl, hoc, hdc, hvc⟩ ?_
  rw [bind_pos pl nd.1 hlu]
  refine wpAny_pure (wpAny_newFunctionEnv L.nocell (fun y hy => L.par _ (List.of_mem_zip hy).1) (fun h₁ hns hsb => ⟨(e0.mod.nolimit.keeps fun b o e => (e0.bs b o e).1).fresh _ hsb, ?_⟩) L.kind)
  show codeAny _ _ (.expr bodyE (PySem.W.envX qual scope s.heap.objs.size f (.ref c') clos)) _ _
  have kp : ∀ b o, s.heap.get? b = some o → h₁.get? b = some o := fun b o e => hsb.extBut b o (Nat.ne_of_lt (Heap.lt_size e)) (Heap.get?_push_of_some _ e)
  have J : Inv (lamC P w F.K mg base (ps ++ cs) qual scope f c' clos A outer s (hide C H)) [] ((vs ++ cv).map some) (hide C H) { s with heap := h₁, toks := s.toks + (ps.zip us).length } := by
    refine lam_start3 L e1 hr.hd hns kp (by rw [hlv, hnp]) r hcv (fun i x hx => ?_) h9 h10
    obtain ⟨v, q0, c1, oc, u, s1, q1, q2, q3, q4, q5, q6⟩ := hcv2 i x hx
    obtain ⟨q7, _⟩ := e0.hok c1 _ q2
    exact ⟨c1, u, v, q1, hide_in (inC x c1 q1), ⟨oc, q7, q3⟩, q4, q0⟩
  -- the slots
  have gj : ∀ jj, En.g (startE ns (as ++ caps)) jj = if jj < np then En.g as jj else En.g caps (jj - np) := fun jj => by rw [startE_g, app_g, hla]
  have σj : ∀ jj, ((vs ++ cv).map some)[jj]? = if jj < np then (vs.map some)[jj]? else (cv.map some)[jj - np]? := fun jj => by
    rw [List.map_append]
    split
    · rename_i hj; rw [List.getElem?_append_left (by rw [List.length_map]; omega)]
    · rename_i hj; rw [List.getElem?_append_right (by rw [List.length_map]; omega), List.length_map, hlv]
  have capg : ∀ jj, En.g caps jj ≠ .no → ∃ v s, cv[jj]? = some v ∧ En.g caps jj = s ∧ RC F.K F.fa H v s := fun jj hne => by
    have hlt := En.g_lt hne
    rw [hcl] at hlt
    obtain ⟨v, q0, c1, oc, u, s1, q1, q2, q3, q4, q5, q6⟩ := hcv2 jj _ (List.getElem?_eq_getElem hlt)
    refine ⟨v, s1, q0, ?_, q6⟩
    unfold En.g
    rw [List.getD_eq_getElem?_getD, q5]
    rfl
  have capl : ∀ jj, (En.g caps jj).ly = false := fun jj => by
    by_cases hne : En.g caps jj = .no
    · rw [hne]; rfl
    · obtain ⟨v, s1, _, q1, q2⟩ := capg jj hne
      rw [q1]
      cases s1 <;> first | rfl | exact q2.elim
  have lyas : ∀ jj, (En.g (startE ns (as ++ caps)) jj).ly = true → jj < np ∧ (En.g as jj).ly = true := fun jj hj => by
    rw [gj] at hj
    split at hj
    · rename_i hlt; exact ⟨hlt, hj⟩
    · rw [capl] at hj; cases hj
  have plg : ∀ jj, (En.g as jj).pl = true := fun jj => by
    unfold En.g
    rw [List.getD_eq_getElem?_getD]
    cases hq : as[jj]? with
    | none => rfl
    | some x => exact List.all_eq_true.mp hpl x (List.mem_of_getElem? hq)
  have St : StOk F (startE ns (as ++ caps)) ((vs ++ cv).map some) (hide C H) := by
    refine ⟨?_, fun jj => ?_, fun j1 j2 a1 a2 hne g1 g2 g3 g4 => ?_⟩
    · unfold startE
      rw [List.length_append, List.length_append, List.length_replicate, List.length_map, List.length_append, hcv, hcl, hla, hlv, ← hns', List.length_append, hnp]
      omega
    · rw [gj, σj]
      split
      · have q := S.sl jj
        have hpj := plg jj
        cases hz : En.g as jj with
        | no => trivial
        | val d => rw [hz] at q; obtain ⟨v, g1, g2⟩ := q; exact ⟨v, g1, RD.hide cel g2⟩
        | fn g => rw [hz] at q; exact q
        | clo _ _ _ _ => rw [hz] at hpj; cases hpj
        | own xs => rw [hz] at q; exact RLst.hide cel q
        | lent xs => rw [hz] at q; exact RLst.hide cel q
        | lock xs => rw [hz] at q; exact RLst.hide cel q
      · by_cases hne : En.g caps (jj - np) = .no
        · rw [hne]; trivial
        · obtain ⟨v, s1, q0, q1, q2⟩ := capg _ hne
          rw [q1, List.getElem?_map, q0]
          cases s1 with
          | val d => exact ⟨v, rfl, RD.hide cel q2⟩
          | fn g => have q2 : v = .ref (F.fa g) := q2; rw [q2]; rfl
          | _ => exact q2.elim
    · obtain ⟨l1, g1⟩ := lyas j1 g1
      obtain ⟨l2, g2⟩ := lyas j2 g2
      rw [σj, if_pos l1] at g3
      rw [σj, if_pos l2] at g4
      exact S.ap j1 j2 a1 a2 hne g1 g2 g3 g4
  have hb := hbody qual scope params bodyE ps cs f c' clos A outer s (hide C H) L hLK (hr.deeper _)
  refine PySem.W.kla_codeExpr (wpAny_mono (hb.run [] _ _ (hide C H) (fun wv H' => Pst F (startE ns (as ++ caps)) ((vs ++ cv).map some) (hide C H) e' H' ∧ REV F (hide C H) e' ((vs ++ cv).map some) H' wv ev) J ⟨tabs_hide cel t, _, St, ev, e', hm, fun wv H' p q => ⟨p, q⟩⟩) (fun v s' hq => ?_) fun e s' hq => hq.elim)
  obtain ⟨wv, H', J', rv, p, q⟩ := hq
  obtain ⟨u1, u2, gr, nC⟩ := un_shw cel e0.hok e0.frf J'.base J'.hok
  refine ⟨wv, shw C H H', J'.os, J'.bare, u1, u2, rv, k wv _ ⟨⟨fun a o ha n tb => ?_, fun a ha => ?_⟩, p.tabs.ext gr, fun kk ys hk => ?_, ?_⟩⟩
  · by_cases hc : a ∈ C
    · rw [shw_in hc]; exact ha
    · refine gr _ _ (p.ext.keep a o (by rw [hide_out hc]; exact ha) (fun ⟨jj, m1, m2⟩ => n ?_) tb)
      obtain ⟨l1, _⟩ := lyas jj (mt_ly m1)
      rw [gj, if_pos l1] at m1
      rw [σj, if_pos l1] at m2
      exact ⟨jj, m1, m2⟩
  · by_cases hc : a ∈ C
    · rw [shw_in hc] at ha; exact ha
    · rw [shw_out hc] at ha
      have := p.ext.trk a ha
      rw [hide_out hc] at this
      exact this
  · obtain ⟨l1, q1⟩ := outs_get hk
    have q2 := p.st.sl kk
    rw [q1, σj, if_pos l1] at q2
    exact RLst.grow gr q2
  · cases ev with
    | val d => exact RD.per gr.per q
    | bor xs => exact absurd rfl (hnb xs)
    | fr xs =>
      obtain ⟨a, us', q1, q2, q3, q4⟩ := q
      refine ⟨a, us', q1, gr _ _ q2, RDs.per gr.per q3, .inr ?_⟩
      have hc : a ∉ C := fun z => by rw [nC a z] at q2; cases q2
      rw [hide_out hc] at q4
      exact q4
end
end Mi
end

section
set_option maxRecDepth 100000
set_option maxHeartbeats 1000000
/-! Mi: calls through a name; calls that get a lambda. -/
namespace Mi
open PySem PySem.Spec PyProof.Rows L2
/-- what an evaluation may lean on: the calls at this depth -/
structure Lv (X : Cx) (F : Fx) (LK : LKP) (G : Gm) : Prop where
  fn : ∀ g as r, G.call g as = some r → ∃ (k : Nat) (fd : FuncData) (ps : List Str), FnOk X.prog X.w X.K X.mg X.base CX0 k (F.fa g) fd ps (spG F ps.length (G.call g)) ∧ Room k X.A ∧ PySem.W.keepIn X.K (.ref (F.fa g)) = true ∧ PlainP fd ps ∧ ps.Nodup ∧
    (∀ as r, G.call g as = some r → as.length = ps.length) ∧ ps = F.par g
  clo : ∀ np ns b cs as r, G.clo np ns b cs as = some r → ∃ (j : Nat) (m : M EV), Room (j + 1) X.A ∧ G.clo np ns b cs = lamF np ns m cs ∧
    ∀ (qual : Str) (scope : Scope) (params : Arguments) (bodyE : Expr) (ps cs : List Str) (f c' : Addr) (clos : List (Str × Addr)) (A : Around) (outer : List Env) (s : Shared) (H : Hp), LamSt ps cs params scope → LK b bodyE scope ps cs → Room j (A.deeper (PySem.W.envX qual scope s.heap.objs.size f (.ref c') clos)) →
      PE (lamC X.prog X.w F.K X.mg X.base (ps ++ cs) qual scope f c' clos A outer s H) bodyE (tE F m)
section
variable {F : Fx} {X : Cx} {LK : LKP} {G : Gm}
theorem binds_pos {fd : FuncData} {ps : List Str} (p : PlainP fd ps) (nd : ps.Nodup) : Binds X.K fd ps [] := Binds.all fun us hl => bind_pos p nd hl
theorem call_sp (ok : F.Ok) {np : Nat} {f : List Sl → Option Cr} {e e1 e' : En} {σ : L2.St} {H H1 : Hp} {Q : VK} {vs : List V} {as : List Arg} {ev : EV} (hnp : ∀ as r, f as = some r → as.length = np) (S : StOk F e σ H) (P1 : Pst F e σ H e1 H1) (A : As F e e1 σ H H1 vs as)
    (h2 : callM f as e1 = some (.ok ev e')) (k : ∀ b H', Pst F e σ H e' H' → REV F H e' σ H' b ev → Q b H') : spG F np f vs H1 Q (fun _ _ _ => False) := by
  obtain ⟨ap, os, hf, hb, hv⟩ := callM_ok h2
  refine ⟨P1.tabs, as.map (·.1), ev, os, args_st S A ap, ?_, hf, fun w H2 C => ?_⟩
  · rw [A.len, ← hnp _ _ hf, List.length_map]
  · obtain ⟨p, r⟩ := call_pst ok S P1 A ap hb hv C
    exact k w H2 p r
theorem gl_cal (ok : F.Ok) (hclo : F.clo = CloF F.K F.fa LK) (hK : X.K = F.K) (lv : Lv X F LK G) {i : Nat} {x : Str} {p pos : Pos} {a : Expr} {es : List Expr} {ms : M (List Arg)} (hN : X.N[i]? = some x) (hv : Vis X.env.scope x) (ha : PA X (a :: es) (tAs F ms))
    (hdb : (x == ("__debug__" : Str)) = false) (hcd : (x == ("__classdict__" : Str)) = false) (he : starEach (a :: es) X.env = (false, eval a X.env) :: starEach es X.env) (hpl : (backTo pos (starEach es X.env)).any (·.1) = false) :
    PE X (.Call (.Name x p) (a :: es) [] pos) (tE F fun e => match fnOf G i e with
      | some f => (ms.bnd fun as => callM f as) e
      | none => none) := by
  refine ⟨fun pins s σ H Q I ⟨t, e, S, ev, e', hm, k⟩ => ?_⟩
  have hm : (match fnOf G i e with
      | some f => (ms.bnd fun as => callM f as) e
      | none => none) = some (.ok ev e') := hm
  have q := S.sl i
  unfold fnOf at hm
  cases hs : e.g i with
  | fn g =>
    rw [hs] at hm q
    have hm : (ms.bnd fun as => callM (G.call g) as) e = some (.ok ev e') := hm
    obtain ⟨as, e1, h1, h2⟩ := bnd_ok hm
    obtain ⟨_, os, hf, _, _⟩ := callM_ok h2
    obtain ⟨kk, fd, ps, FN, hr, hk, pp, nd, hnp, _⟩ := lv.fn g _ _ hf
    refine (pe_callL (i := i) (E := fun _ _ _ => False) FN hr hN hv hk (binds_pos pp nd) .nil (fun _ _ _ _ _ _ _ z => z.elim) ha hdb hcd he hpl).run pins s σ H Q I ⟨q, t, e, S, as, e1, h1, fun vs H1 P1 A => ?_⟩
    show spG F ps.length (G.call g) (vs ++ []) H1 Q (fun _ _ _ => False)
    rw [List.append_nil]
    exact call_sp ok hnp S P1 A h2 k
  | clo np ns b cs =>
    rw [hs] at hm q
    have hm : (ms.bnd fun as => callM (G.clo np ns b cs) as) e = some (.ok ev e') := hm
    obtain ⟨as, e1, h1, h2⟩ := bnd_ok hm
    obtain ⟨_, os, hf, _, _⟩ := callM_ok h2
    obtain ⟨j, m, hr, hGm, hbody⟩ := lv.clo np ns b cs _ _ hf
    obtain ⟨f, hσ, hc⟩ := q
    have there : ∀ {H' : Hp} {s' : Shared}, F.clo H' f np ns b cs → Inv X pins σ H' s' → PySem.W.FnAt f s'.heap := fun {H' s'} c I' => by
      rw [hclo] at c
      obtain ⟨_, _, _, _, _, _, _, _, _, _, z, _⟩ := c
      obtain ⟨z, _⟩ := I'.hok f _ z
      exact ⟨_, _, _, _, z⟩
    refine wpAny_Call_Name_kw (thn ((pe_var (i := i) (pos := p) hN hv hdb hcd).run pins s σ H (fun w Hw => w = .ref f ∧ Hw = H) I ⟨.ref f, hσ, rfl, rfl⟩) fun u0 s1 ⟨w0, H0, I1, r1, z1, z2⟩ => ?_)
    rw [z2] at I1
    subst z1
    obtain rfl : u0 = Value.ref f := r1
    refine PySem.W.callWith_F (there hc I1) (thn (ha.run pos pins s1 σ H (fun vs H1 => F.clo H1 f np ns b cs ∧ spG F np (G.clo np ns b cs) vs H1 Q (fun _ _ _ => False)) I1 ⟨t, e, S, as, e1, h1, fun vs H1 P1 A => ⟨?_, ?_⟩⟩) fun us s2 ⟨vs, H2, I2, r2, c2, sp2⟩ => ⟨there c2 I2, ?_⟩) he hpl
    · exact ok.clo _ _ _ _ _ _ _ (fun a o hh n1 n2 => P1.ext.keep a o hh (fun mm => by
        obtain ⟨us, q⟩ := S.mutLst mm
        rw [hh] at q
        exact n1 us (Option.some.inj q)) n2) hc
    · exact call_sp ok (fun as r hh => by rw [hGm] at hh; unfold lamF at hh; split at hh; · rename_i q; rw [Bool.and_eq_true, beq_iff_eq] at q; exact q.1
                                          · cases hh) S P1 A h2 k
    · rw [hGm] at sp2
      have e0 := I2.env0
      rw [hK] at e0
      refine wpAny_call (codeAny_mono (lam_run hclo hbody hr e0 c2 r2 sp2) fun r s' hq => ?_)
      cases r with
      | error _ => exact False.elim hq
      | ok fl =>
        cases fl with
        | ret u => exact I2.after hq
        | next => exact False.elim hq
        | brk => exact False.elim hq
        | cont => exact False.elim hq
  | _ => rw [hs] at hm; cases hm
/-! ### a def that gets a lambda -/
theorem StOk.extN (ok : F.Ok) {e : En} {σ : L2.St} {H H1 : Hp} (S : StOk F e σ H) (x : LamX.ExtN H H1) : StOk F e σ H1 := by
  have per : Per H H1 := ⟨fun a xs h => x a _ h (by intro _ z; cases z), fun a o u h => x a _ h (by intro _ z; cases z)⟩
  have lst : ∀ {y : Option (Option V)} {xs : List D}, RLst F.K H y xs → RLst F.K H1 y xs := fun {y xs} ⟨b, us, h1, h2, h3⟩ => ⟨b, us, h1, x b _ h2 (by intro _ z; cases z), RDs.per per h3⟩
  refine ⟨S.len, fun j => ?_, S.ap⟩
  have q := S.sl j
  cases hz : e.g j with
  | no => trivial
  | val d => rw [hz] at q; obtain ⟨v, h1, h2⟩ := q; exact ⟨v, h1, RD.per per h2⟩
  | fn g => rw [hz] at q; exact q
  | clo np ns b cs => rw [hz] at q; obtain ⟨f, h1, h2⟩ := q; exact ⟨f, h1, ok.clo _ _ _ _ _ _ _ (fun a o ha _ hb => x a o ha hb) h2⟩
  | own zs => rw [hz] at q; exact lst q
  | lent zs => rw [hz] at q; exact lst q
  | lock zs => rw [hz] at q; exact lst q
/-- the arguments, a lambda last -/
def tAsL (F : Fx) (X : Cx) (params : Arguments) (body : Expr) (scope : Scope) (ms : M (List Arg)) : TA := fun σ H Q => LamX.Tabs F.T H ∧ ∃ e, StOk F e σ H ∧ ∃ as e1, ms e = some (.ok as e1) ∧
  ∀ vs f c' pm ctv H', Pst F e σ H e1 H' → As F e e1 σ H H' vs as → H' f = some (.frz (lamO X params body scope pm c' ctv) (.own 0)) → H' c' = some (LamX.CodeO c' (lamQ X)) → Q (vs ++ [.ref f]) H'
theorem gl_lnil (ok : F.Ok) {params : Arguments} {body : Expr} {scope : Scope} {pos : Pos} (h : PE X (.Lambda params body scope pos) (tLamMk F.T X params body scope)) : PA X [.Lambda params body scope pos] (tAsL F X params body scope (M.ret [])) := by
  refine pa_imp (pa_cons h pa_nil rfl) fun σ H Q ⟨t, e, S, as, e1, hm, k⟩ => ?_
  obtain ⟨rfl, rfl⟩ := ret_ok hm
  refine ⟨t, fun f c' pm ctv H1 x t1 trk hf h1 h2 => ?_⟩
  exact k [] f c' pm ctv H1 ⟨S.extN ok x, Evo.refl _, ⟨fun a o ha _ hb => x a o ha hb, trk⟩, t1⟩ ⟨rfl, fun k v a hh => by simp at hh, fun k l v a w b _ hh => by simp at hh⟩ h1 h2
theorem gl_lcons (ok : F.Ok) {params : Arguments} {body : Expr} {scope : Scope} {a : Expr} {es : List Expr} {m : M Arg} {ms : M (List Arg)} (ha : PE X a (tA1 F m)) (hr : PA X es (tAsL F X params body scope ms)) (hs : starEach (a :: es) X.env = (false, eval a X.env) :: starEach es X.env) :
    PA X (a :: es) (tAsL F X params body scope (m.bnd fun x => ms.bnd fun xs => M.ret (x :: xs))) := by
  refine pa_imp (pa_cons ha hr hs) fun σ H Q ⟨t, e, S, as, e', hm, k⟩ => ?_
  obtain ⟨p, e1, h1, h2⟩ := bnd_ok hm
  obtain ⟨q, e2, h3, h4⟩ := bnd_ok h2
  obtain ⟨rfl, rfl⟩ := ret_ok h4
  exact ⟨t, e, S, p, e1, h1, fun v H1 P1 r1 => ⟨P1.tabs, e1, P1.st, q, e2, h3, fun vs f c' pm ctv H2 P2 r2 hf hc => k (v :: vs) f c' pm ctv H2 (P1.trans P2) (As.cons ok S P1 r1 P2 r2) hf hc⟩⟩
theorem capsV_ok : ∀ {caps : List Nat} {e e' : En} {ss : List Sl}, capsV caps e = some (.ok ss e') → e' = e ∧ ss.length = caps.length ∧ ∀ (i j : Nat), caps[i]? = some j → ∃ s, ss[i]? = some s ∧ e.g j = s ∧ ((∃ d, s = .val d) ∨ ∃ g, s = .fn g)
  | [], e, e', ss, h => by
    simp only [capsV] at h
    obtain ⟨rfl, rfl⟩ := ret_ok h
    exact ⟨rfl, rfl, fun i j hh => by simp at hh⟩
  | c :: r, e, e', ss, h => by
    simp only [capsV] at h
    obtain ⟨s, e1, h1, h2⟩ := bnd_ok h
    obtain ⟨rs, e2, h3, h4⟩ := bnd_ok h2
    obtain ⟨rfl, rfl⟩ := ret_ok h4
    have hc : e1 = e ∧ e.g c = s ∧ ((∃ d, s = .val d) ∨ ∃ g, s = .fn g) := by
      unfold capV at h1
      split at h1
      · rename_i d hd; cases h1; exact ⟨rfl, hd, .inl ⟨d, rfl⟩⟩
      · rename_i g hd; cases h1; exact ⟨rfl, hd, .inr ⟨g, rfl⟩⟩
      · cases h1
    obtain ⟨rfl, hs, hk⟩ := hc
    obtain ⟨z1, z2, z3⟩ := capsV_ok h3
    refine ⟨z1, by rw [List.length_cons, List.length_cons, z2], fun i j hh => ?_⟩
    cases i with
    | zero =>
      rw [List.getElem?_cons_zero] at hh
      cases hh
      exact ⟨s, rfl, hs, hk⟩
    | succ i =>
      rw [List.getElem?_cons_succ] at hh
      obtain ⟨s', q⟩ := z3 i j hh
      exact ⟨s', by rw [List.getElem?_cons_succ]; exact q.1, q.2⟩
theorem StOk.snoc {as : List Sl} {vs : List V} {H : Hp} {s : Sl} {v : V} (S : StOk F as (vs.map some) H) (hl : as.length = vs.length) (h : RSl F H (some (some v)) s) (hn : s.ly = false) : StOk F (as ++ [s]) ((vs ++ [v]).map some) H := by
  have ly : ∀ j, (En.g (as ++ [s]) j).ly = true → j < as.length ∧ (En.g as j).ly = true := fun j hj => by
    rw [app_g] at hj
    split at hj
    · rename_i hlt; exact ⟨hlt, hj⟩
    · exfalso
      by_cases hz : j - as.length = 0
      · rw [hz] at hj
        have hj : s.ly = true := hj
        rw [hn] at hj; cases hj
      · have : En.g [s] (j - as.length) = .no := by
          unfold En.g
          rw [List.getD_eq_getElem?_getD, List.getElem?_eq_none (by rw [List.length_singleton]; omega)]
          rfl
        rw [this] at hj; cases hj
  have lo : ∀ j, j < as.length → ((vs ++ [v]).map some)[j]? = (vs.map some)[j]? := fun j hj => by
    rw [List.map_append, List.getElem?_append_left (by rw [List.length_map]; omega)]
  refine ⟨by rw [List.length_append, List.length_map, List.length_append, hl]; exact Nat.le_refl _, fun j => ?_, fun j k a b hjk h1 h2 h3 h4 => ?_⟩
  · rw [app_g]
    split
    · rename_i hlt; rw [lo j hlt]; exact S.sl j
    · by_cases hz : j - as.length = 0
      · rw [hz, List.map_append, List.getElem?_append_right (by rw [List.length_map]; omega), List.length_map, ← hl, hz]
        exact h
      · have : En.g [s] (j - as.length) = .no := by
          unfold En.g
          rw [List.getD_eq_getElem?_getD, List.getElem?_eq_none (by rw [List.length_singleton]; omega)]
          rfl
        rw [this]; trivial
  · obtain ⟨l1, q1⟩ := ly j h1
    obtain ⟨l2, q2⟩ := ly k h2
    rw [lo j l1] at h3
    rw [lo k l2] at h4
    exact S.ap j k a b hjk q1 q2 h3 h4
theorem As.snoc {e e1 : En} {σ : L2.St} {H H1 : Hp} {vs : List V} {as : List Arg} {v : V} (A : As F e e1 σ H H1 vs as) : As F e e1 σ H H1 (vs ++ [v]) (as ++ [(.no, none)]) := by
  have hl := A.len
  have get : ∀ {k : Nat} {w : V} {a : Arg}, (vs ++ [v])[k]? = some w → (as ++ [((.no, none) : Arg)])[k]? = some a → (vs[k]? = some w ∧ as[k]? = some a) ∨ a = (.no, none) := fun {k w a} h1 h2 => by
    by_cases hk : k < as.length
    · rw [List.getElem?_append_left (by omega)] at h1
      rw [List.getElem?_append_left hk] at h2
      exact .inl ⟨h1, h2⟩
    · rw [List.getElem?_append_right (by omega)] at h2
      have hlt := (List.getElem?_eq_some_iff.mp h2).1
      rw [List.length_singleton] at hlt
      have hz : k - as.length = 0 := by omega
      rw [hz] at h2
      cases h2
      exact .inr rfl
  refine ⟨by rw [List.length_append, List.length_append, hl]; rfl, fun k w a h1 h2 => ?_, fun k l w a w' b hkl h1 h2 h3 h4 o1 o2 => ?_⟩
  · rcases get h1 h2 with ⟨q1, q2⟩ | q
    · exact A.el k w a q1 q2
    · subst q; exact ⟨trivial, fun z => nomatch z⟩
  · rcases get h1 h2 with ⟨q1, q2⟩ | q
    · rcases get h3 h4 with ⟨q3, q4⟩ | q
      · exact A.nw k l w a w' b hkl q1 q2 q3 q4 o1 o2
      · subst q; cases o2
    · subst q; cases o1
theorem back_app : ∀ {as : List Arg} {o : List Sl} {e : En} {s s' : Sl}, back (as ++ [(s, none)]) o e = back (as ++ [(s', none)]) o e
  | [], o, e, s, s' => by simp only [List.nil_append, back]
  | (x, none) :: r, o, e, s, s' => by
    simp only [List.cons_append, back]
    exact back_app
  | (x, some (i, y)) :: r, o, e, s, s' => by
    simp only [List.cons_append, back]
    split <;> first | exact back_app | rfl
theorem apart_app {as : List Arg} {s s' : Sl} (h : apart (as ++ [(s, none)]) = true) : apart (as ++ [(s', none)]) = true ∧ apart as = true := by
  unfold apart at h ⊢
  rw [List.filterMap_append] at h
  have e : ∀ x : Sl, ([((x, none) : Arg)].filterMap fun a => a.2.map (·.1)) = [] := fun x => rfl
  rw [e, List.append_nil] at h
  refine ⟨?_, h⟩
  rw [List.filterMap_append, e, List.append_nil]
  exact h
end
end Mi
end

section
set_option maxRecDepth 100000
set_option maxHeartbeats 1000000
/-! Mi: a def called with a lambda. -/
namespace Mi
open PySem PySem.Spec PyProof.Rows L2
section
variable {F : Fx} {X : Cx} {LK : LKP} {G : Gm}
/-- behind a call whose cells are hidden again -/
theorem cend_hide {as as' : List Sl} {vs : List V} {C : List Addr} {ob : Addr → Obj} {H H' : Hp} {os : List Sl} {v : EV} {w : V} (n : ∀ c ∈ C, H c = none) (cel : Cels C H') (C0 : Cend F as vs (adds C ob H) os v w H') (hm : ∀ j, (En.g as j).mt = true → En.g as j = En.g as' j) : Cend F as' vs H os v w (hide C H') := by
  have nin : ∀ {a : Addr} {o : HO}, H a = some o → a ∉ C := fun {a o} e z => by rw [n a z] at e; cases e
  refine ⟨⟨fun a o ha hn ht => ?_, fun a ha => ?_⟩, tabs_hide cel C0.tabs, fun k ys hk => RLst.hide cel (C0.back k ys hk), ?_⟩
  · rw [hide_out (nin ha)]
    refine C0.ext.keep a o (by rw [adds_out (nin ha)]; exact ha) (fun ⟨j, m1, m2⟩ => hn ⟨j, ?_, m2⟩) ht
    rw [← hm j m1]; exact m1
  · by_cases hc : a ∈ C
    · exact n a hc
    · rw [hide_out hc] at ha
      have := C0.ext.trk a ha
      rw [adds_out hc] at this
      exact this
  · have val := C0.val
    cases v with
    | val d => exact RD.hide cel val
    | bor xs => exact val
    | fr xs =>
      obtain ⟨a, us, q1, q2, q3, q4⟩ := val
      refine ⟨a, us, q1, by rw [hide_out (cel.nin q2 (by intro _ z; cases z))]; exact q2, RDs.hide cel q3, ?_⟩
      rcases q4 with ⟨j, m1, m2⟩ | z
      · exact .inl ⟨j, by rw [← hm j (ow_mt m1)]; exact m1, m2⟩
      · by_cases hc : a ∈ C
        · exact .inr (n a hc)
        · rw [adds_out hc] at z; exact .inr z
theorem snoc_g {as : List Arg} {s : Sl} (hs : s.mt = false) (j : Nat) (h : (En.g ((as ++ [((s, none) : Arg)]).map (·.1)) j).mt = true) : En.g ((as ++ [((s, none) : Arg)]).map (·.1)) j = En.g ((as ++ [((Sl.no, none) : Arg)]).map (·.1)) j := by
  rw [List.map_append, app_g] at h
  rw [List.map_append, List.map_append, app_g, app_g]
  split at h
  · rename_i hlt
    rw [if_pos hlt, if_pos hlt]
  · exfalso
    by_cases hz : j - (as.map (·.1)).length = 0
    · rw [hz] at h
      have h : s.mt = true := h
      rw [hs] at h; cases h
    · have : En.g ([((s, none) : Arg)].map (·.1)) (j - (as.map (·.1)).length) = .no := by
        unfold En.g
        rw [List.getD_eq_getElem?_getD, List.getElem?_eq_none (by rw [List.length_map, List.length_singleton]; omega)]
        rfl
      rw [this] at h
      cases h
theorem gl_calll (ok : F.Ok) (hclo : F.clo = CloF F.K F.fa LK) (hK : X.K = F.K) (lv : Lv X F LK G) {g np ns : Nat} {b : CE} {caps : List Nat} {x : Str} {p pos : Pos} {a : Expr} {es : List Expr} {ms : M (List Arg)} {params : Arguments} {body : Expr} {scope : Scope} {ps cs : List Str}
    (hg : Gl X x) (hm : X.mg x = some (.ref (F.fa g))) (ha : PA X (a :: es) (tAsL F X params body scope ms)) (hdb : (x == ("__debug__" : Str)) = false) (he : starEach (a :: es) X.env = (false, eval a X.env) :: starEach es X.env) (hpl : (backTo pos (starEach es X.env)).any (·.1) = false)
    (L : LamSt ps cs params scope) (lk : LK b body scope ps cs) (hnp : ps.length = np) (hns : (ps ++ cs).length = ns) (hcl : caps.length = cs.length) (hcaps : ∀ (i : Nat) (y : Str), cs[i]? = some y → ∃ j, caps[i]? = some j ∧ X.N[j]? = some y)
    (hfree : ∀ y ∈ cs, X.env.scope.names.lookup y = some .cell ∨ X.env.scope.names.lookup y = some .free) (hfn : ∀ y ∈ cs, X.fn y = true) :
    PE X (.Call (.Name x p) (a :: es) [] pos) (tE F (ms.bnd fun as => (capsV caps).bnd fun ss => callM (G.call g) (as ++ [(.clo np ns b ss, none)]))) := by
  refine ⟨fun pins s σ H Q I ⟨t, e, S, ev, e', hmm, k⟩ => ?_⟩
  obtain ⟨as, e1, h1, h2⟩ := bnd_ok hmm
  obtain ⟨ss, e2, h3, h4⟩ := bnd_ok h2
  obtain ⟨rfl, hsl, hss⟩ := capsV_ok h3
  obtain ⟨ap, os, hf, hb, hvb⟩ := callM_ok h4
  obtain ⟨kk, fd, ps', FN, hr, hkeep, pp, nd, hlen, _⟩ := lv.fn g _ _ hf
  refine wpAny_Call_Name_kw (ld_glob I hg hm ?_ hdb)
  refine PySem.W.callWith_K (h₀ := X.base) I.ok.mod.kin hkeep (thn (ha.run pos pins s σ H (fun vs H1 => ∃ vs0 f c' pm ctv, vs = vs0 ++ [.ref f] ∧ Pst F e σ H e2 H1 ∧ As F e e2 σ H H1 vs0 as ∧ H1 f = some (.frz (lamO X params body scope pm c' ctv) (.own 0)) ∧ H1 c' = some (LamX.CodeO c' (lamQ X)))
    I ⟨t, e, S, as, e2, h1, fun vs f c' pm ctv H' P1 A hf hc => ⟨vs, f, c', pm, ctv, rfl, P1, A, hf, hc⟩⟩) fun us s1 ⟨vs, H1, I1, r, vs0, f, c', pm, ctv, hvs, P1, A, hfo, hco⟩ => ⟨I1.kIn, ?_⟩) he hpl
  subst hvs
  -- the cells
  let C : List Addr := cs.filterMap fun y => X.env.cells.lookup y
  let ob : Addr → Obj := fun q => (s1.heap.get? q).getD { cls := .none, data := .fields #[] }
  have memC : ∀ q, q ∈ C → ∃ y, y ∈ cs ∧ X.env.cells.lookup y = some q := fun q hq => by
    obtain ⟨y, hy, ey⟩ := List.mem_filterMap.mp hq
    exact ⟨y, hy, ey⟩
  have inC : ∀ y q, y ∈ cs → X.env.cells.lookup y = some q → q ∈ C := fun y q hy ey => List.mem_filterMap.mpr ⟨y, hy, ey⟩
  have nC : ∀ c ∈ C, H1 c = none := fun c hc => by
    obtain ⟨y, _, ey⟩ := memC c hc
    exact I1.freeC y c ey
  have oC : ∀ c ∈ C, s1.heap.get? c = some (ob c) := fun c hc => by
    obtain ⟨y, _, ey⟩ := memC c hc
    obtain ⟨_, o, ho, _⟩ := I1.cell y c ey
    show _ = some ((s1.heap.get? c).getD _)
    rw [ho]
    rfl
  have loC : ∀ c ∈ C, X.s_0.heap.objs.size ≤ c := fun c hc => by
    obtain ⟨y, hy, ey⟩ := memC c hc
    exact I1.ok.cab y c (hfn y hy) ey
  have gr := grow_adds (ob := ob) nC
  have e0 : Env0 X.prog X.w X.K X.mg X.base X.A X.stack s1 (adds C ob H1) := by
    have z := I1.env0
    refine ⟨z.frames, z.mod, fun q o hq => ⟨(z.bs q o hq).1, ?_⟩, z.bsz, z.funs, fun q hq => ?_, hok_adds nC oC z.hok, z.bare⟩
    · rw [adds_out fun hc => ?_]
      · exact (z.bs q o hq).2
      · have := loC q hc
        have h5 := Heap.lt_size hq
        have h6 := I1.ok.bsz
        exact absurd (Nat.lt_of_lt_of_le h5 (Nat.le_trans h6 this)) (Nat.lt_irrefl _)
    · rw [adds_out fun hc => ?_]
      · exact z.frf q hq
      · obtain ⟨y, _, ey⟩ := memC q hc
        rcases List.mem_cons.mp (I1.stkSub q hq) with zz | zz
        · exact I1.cne y q ey zz
        · obtain ⟨_, o, ho, _⟩ := I1.ok.funs.mem zz
          have := loC q hc
          have h5 := Heap.lt_size ho
          exact absurd (Nat.lt_of_lt_of_le h5 this) (Nat.lt_irrefl _)
  -- the closure
  have freeS : ∀ y ∈ scope.names, y.2 = .free → ∃ c, X.env.cells.lookup y.1 = some c := fun y hy ey => (hfree y.1 (L.free y hy ey)).elim (fun z => I1.ok.has _ (.inl z)) fun z => I1.ok.has _ (.inr z)
  have cm : ∀ {y : Str} {c : Addr}, (cloFrom X.env.cells scope.names []).lookup y = some c → X.env.cells.lookup y = some c ∧ y ∈ cs := fun {y c} ey => by
    rcases cloFrom_mem (PySem.mem_of_lookup ey) with hq | ⟨q1, q2⟩
    · cases hq
    · obtain ⟨c1, hc1⟩ := freeS _ q1 rfl
      have hc1 : X.env.cells.lookup y = some c1 := hc1
      refine ⟨?_, L.free _ q1 rfl⟩
      rw [hc1, q2, hc1] <;> rfl
  have look : ∀ {y : Str}, y ∈ cs → ∃ c, (cloFrom X.env.cells scope.names []).lookup y = some c := fun {y} hy => mem_lookup (cloFrom_has (cells := X.env.cells) (acc := []) (PySem.mem_of_lookup (L.cap y hy)))
  have clo : F.clo (adds C ob H1) f np ns b ss := by
    rw [hclo]
    refine ⟨lamQ X, params, body, scope, cloFrom X.env.cells scope.names [], pm, c', ctv, ps, cs, gr _ _ hfo, gr _ _ hco, L, lk, hnp, hns, hsl.trans hcl, fun i y hy => ?_, fun y c ey => (cm ey).2, fun y y' c q1 q2 => I1.ok.inj y y' c (cm q1).1 (cm q2).1⟩
    obtain ⟨jj, q1, q2⟩ := hcaps i y hy
    obtain ⟨sl, q3, q4, q5⟩ := hss i jj q1
    have hmem := List.mem_of_getElem? hy
    obtain ⟨c, hc⟩ := look hmem
    have hc' := (cm hc).1
    have sq := P1.st.sl jj
    have vis : Vis X.env.scope y := (hfree y hmem).elim (fun z => .inr (.inl z)) fun z => .inr (.inr z)
    have cellv : ∀ v : V, σ[jj]? = some (some v) → ∃ (oc : Obj) (u : Value), (adds C ob H1) c = some (.frz oc (.own 0)) ∧ oc.data = .cell (some u) ∧ RelV v u := fun v hv => by
      obtain ⟨m, hn, hl⟩ := I1.loc
      obtain ⟨u, ru, lo⟩ := hl jj y v q2 hv vis
      rcases lo with ⟨z, _⟩ | ⟨_, c2, z1, o, z2, z3⟩
      · have z : X.env.scope.names.lookup y = some .local := z
        rcases hfree y hmem with z' | z' <;> (rw [z] at z'; cases z')
      · rw [hc'] at z1
        cases z1
        have hin := inC y c hmem hc'
        have oe := oC c hin
        rw [z2] at oe
        cases oe
        exact ⟨_, u, adds_in hin, z3, ru⟩
    rw [q4] at sq
    rcases q5 with ⟨d, rfl⟩ | ⟨gg, rfl⟩
    · obtain ⟨v, z1, z2⟩ := sq
      obtain ⟨oc, u, y1, y2, y3⟩ := cellv v z1
      exact ⟨c, oc, u, v, _, hc, y1, y2, y3, q3, RD.per gr.per z2⟩
    · obtain ⟨oc, u, y1, y2, y3⟩ := cellv _ sq
      exact ⟨c, oc, u, _, _, hc, y1, y2, y3, q3, rfl⟩
  have ap' := apart_app (s' := .no) ap
  have stA : StOk F ((as ++ [((.clo np ns b ss, none) : Arg)]).map (·.1)) ((vs0 ++ [V.ref f]).map some) (adds C ob H1) := by
    rw [List.map_append]
    exact ((args_st S A ap'.2).grow ok gr).snoc (by rw [List.length_map, A.len]) ⟨f, rfl, clo⟩ rfl
  have hlv : (vs0 ++ [V.ref f]).length = ps'.length := by
    have := hlen _ _ hf
    rw [List.length_map, List.length_append] at this
    rw [List.length_append, A.len]
    exact this
  have hlu : us.length = ps'.length := by rw [← r.length]; exact hlv
  refine wpAny_call (codeAny_mono (FN.run X.A X.stack s1 (adds C ob H1) ⟨us, []⟩ us (vs0 ++ [V.ref f]) (fun w H' => Cend F ((as ++ [((.clo np ns b ss, none) : Arg)]).map (·.1)) (vs0 ++ [V.ref f]) (adds C ob H1) os ev w H') (fun _ _ _ => False) hr e0 (BindsTo.of_eq (bind_pos pp nd hlu)) r
    ⟨P1.tabs.ext gr, _, ev, os, stA, hlv, hf, fun w H' c => c⟩) fun rr s' hq => ?_)
  cases rr with
  | error _ => exact False.elim hq
  | ok fl =>
    cases fl with
    | ret u =>
      obtain ⟨w, H', hos, hbare, hun, hhok, hrv, cend⟩ := hq
      obtain ⟨u1, u2, cel⟩ := un_rem nC oC hun hhok
      have I2 : Inv X pins σ (hide C H') s' := I1.call' (ch := []) hos u1 u2 hbare (fun b hb => nomatch hb)
      have cend' := cend_hide nC cel cend (as' := (as ++ [((.no, none) : Arg)]).map (·.1)) (snoc_g rfl)
      obtain ⟨P2, R2⟩ := call_pst ok S P1 A.snoc ap'.1 (by rw [← back_app]; exact hb) hvb cend'
      exact ⟨w, hide C H', I2, hrv, k w _ P2 R2⟩
    | next => exact False.elim hq
    | brk => exact False.elim hq
    | cont => exact False.elim hq
end
end Mi
end

section
set_option maxRecDepth 100000
set_option maxHeartbeats 1000000
/-! Mi: calls with keywords. -/
namespace Mi
open PySem PySem.Spec PyProof.Rows L2
theorem app_get {α : Type} {a b : List α} {i : Nat} {x : α} (h : (a ++ b)[i]? = some x) : (i < a.length ∧ a[i]? = some x) ∨ (a.length ≤ i ∧ b[i - a.length]? = some x) := by
  rw [List.getElem?_append] at h
  split at h
  · exact .inl ⟨by assumption, h⟩
  · exact .inr ⟨Nat.le_of_not_lt (by assumption), h⟩
theorem get_app {α : Type} {a b : List α} {i : Nat} {x : α} (h : a[i]? = some x) : (a ++ b)[i]? = some x := by
  rw [List.getElem?_append_left (List.getElem?_eq_some_iff.mp h).1]
  exact h
theorem get_app2 {α : Type} {a b : List α} {i : Nat} {x : α} (h : b[i]? = some x) : (a ++ b)[a.length + i]? = some x := by
  rw [List.getElem?_append_right (Nat.le_add_right _ _), Nat.add_sub_cancel_left]
  exact h
theorem permute_cons {α : Type} {k : Nat} {r : List Nat} {as : List α} : permute (k :: r) as = (as[k]?).bind fun a => (permute r as).bind fun t => some (a :: t) := by
  unfold permute
  rw [List.mapM_cons]
  rfl
theorem permute_get {α : Type} {as : List α} : ∀ {ord : List Nat} {bs : List α}, permute ord as = some bs → bs.length = ord.length ∧ ∀ (i : Nat) (b : α), bs[i]? = some b → ∃ k, ord[i]? = some k ∧ as[k]? = some b
  | [], bs, h => by
    have : bs = [] := by simpa [permute] using h.symm
    subst this
    exact ⟨rfl, fun i b h => by simp at h⟩
  | k :: r, bs, h => by
    rw [permute_cons] at h
    cases ha : as[k]? with
    | none => rw [ha] at h; cases h
    | some a =>
      rw [ha] at h
      cases ht : permute r as with
      | none => rw [ht] at h; cases h
      | some t =>
        rw [ht] at h
        cases h
        obtain ⟨h1, h2⟩ := permute_get ht
        refine ⟨by rw [List.length_cons, List.length_cons, h1], fun i b hb => ?_⟩
        cases i with
        | zero => rw [List.getElem?_cons_zero] at hb; cases hb; exact ⟨k, rfl, ha⟩
        | succ i => rw [List.getElem?_cons_succ] at hb; exact h2 i b hb
theorem permute_some {α : Type} {as : List α} : ∀ {ord : List Nat}, (∀ k ∈ ord, k < as.length) → ∃ bs, permute ord as = some bs
  | [], _ => ⟨[], by simp [permute]⟩
  | k :: r, h => by
    obtain ⟨t, ht⟩ := permute_some (ord := r) fun j hj => h j (List.mem_cons_of_mem _ hj)
    refine ⟨as[k]'(h k List.mem_cons_self) :: t, ?_⟩
    rw [permute_cons, List.getElem?_eq_getElem (h k List.mem_cons_self), ht]
    rfl
theorem permute_lt {α : Type} {as bs : List α} {ord : List Nat} (h : permute ord as = some bs) : ∀ k ∈ ord, k < as.length := by
  intro k hk
  obtain ⟨h1, h2⟩ := permute_get h
  obtain ⟨i, hi⟩ := List.mem_iff_getElem?.mp hk
  have hl : i < bs.length := by rw [h1]; exact (List.getElem?_eq_some_iff.mp hi).1
  obtain ⟨k', q1, q2⟩ := h2 i _ (List.getElem?_eq_getElem hl)
  rw [hi] at q1
  cases q1
  exact (List.getElem?_eq_some_iff.mp q2).1
theorem nodup_get {α : Type} {l : List α} (nd : l.Nodup) {i j : Nat} {k : α} (hi : l[i]? = some k) (hj : l[j]? = some k) : i = j := by
  induction l generalizing i j with
  | nil => simp at hi
  | cons a r ih =>
    rw [List.nodup_cons] at nd
    cases i with
    | zero =>
      cases j with
      | zero => rfl
      | succ j =>
        rw [List.getElem?_cons_zero] at hi
        rw [List.getElem?_cons_succ] at hj
        cases hi
        exact absurd (List.mem_of_getElem? hj) nd.1
    | succ i =>
      cases j with
      | zero =>
        rw [List.getElem?_cons_zero] at hj
        rw [List.getElem?_cons_succ] at hi
        cases hj
        exact absurd (List.mem_of_getElem? hi) nd.1
      | succ j =>
        rw [List.getElem?_cons_succ] at hi hj
        rw [ih nd.2 hi hj]
theorem paired_get {vs : List V} {us : List Value} (r : Vals vs us) : ∀ {i : Nat} {u : Value}, us[i]? = some u → ∃ v, vs[i]? = some v ∧ RelV v u := by
  induction r with
  | nil => intro i u h; simp at h
  | cons h r ih =>
    intro i u e
    cases i with
    | zero => rw [List.getElem?_cons_zero] at e; cases e; exact ⟨_, rfl, h⟩
    | succ i => rw [List.getElem?_cons_succ] at e; rw [List.getElem?_cons_succ]; exact ih e
theorem paired_app {vs ws : List V} {us xs : List Value} (r : Vals vs us) (q : Vals ws xs) : Vals (vs ++ ws) (us ++ xs) := by
  induction r with
  | nil => exact q
  | cons h r ih => exact .cons h ih
theorem permute_vals {vs ws : List V} {us xs : List Value} (r : Vals vs us) : ∀ {ord : List Nat}, permute ord vs = some ws → permute ord us = some xs → Vals ws xs := by
  intro ord
  induction ord generalizing ws xs with
  | nil =>
    intro h1 h2
    have a : ws = [] := by simpa [permute] using h1.symm
    have b : xs = [] := by simpa [permute] using h2.symm
    subst a b
    exact .nil
  | cons k o ih =>
    intro h1 h2
    rw [permute_cons] at h1 h2
    cases ha : vs[k]? with
    | none => rw [ha] at h1; cases h1
    | some a =>
      cases hb : us[k]? with
      | none => rw [hb] at h2; cases h2
      | some b =>
        rw [ha] at h1
        rw [hb] at h2
        cases ht : permute o vs with
        | none => rw [ht] at h1; cases h1
        | some t =>
          cases ht2 : permute o us with
          | none => rw [ht2] at h2; cases h2
          | some t2 =>
            rw [ht] at h1
            rw [ht2] at h2
            cases h1
            cases h2
            obtain ⟨v, q1, q2⟩ := paired_get r hb
            rw [ha] at q1
            cases q1
            exact .cons q2 (ih ht ht2)
/-! ### binding -/
def kwOrd (ps : List Str) (nu : Nat) (ks : List Str) : List Nat := List.range nu ++ (ps.drop nu).map fun p => nu + ks.idxOf p
def kwB (ps : List Str) (nu : Nat) (ks : List Str) : Bool := decide (nu + ks.length = ps.length) && decide ks.Nodup && (ks.all fun k => (ps.drop nu).contains k) && ((ps.drop nu).all fun p => ks.contains p) && decide (kwOrd ps nu ks).Nodup
structure KwOk (ps : List Str) (nu : Nat) (ks : List Str) : Prop where
  len : nu + ks.length = ps.length
  nd : ks.Nodup
  sub : ∀ k ∈ ks, k ∈ ps.drop nu
  sup : ∀ p ∈ ps.drop nu, p ∈ ks
  on : (kwOrd ps nu ks).Nodup
theorem kwB_ok {ps : List Str} {nu : Nat} {ks : List Str} (h : kwB ps nu ks = true) : KwOk ps nu ks := by
  unfold kwB at h
  simp only [Bool.and_eq_true, decide_eq_true_iff, List.all_eq_true, List.contains_iff_mem] at h
  exact ⟨h.1.1.1.1, h.1.1.1.2, h.1.1.2, h.1.2, h.2⟩
theorem zip_lookup_none {ns : List Str} {n : Str} : ∀ {us : List Value}, (∀ i, i < us.length → ns[i]? ≠ some n) → (ns.zip us).lookup n = none := by
  induction ns with
  | nil => intro us _; rfl
  | cons m r ih =>
    intro us h
    cases us with
    | nil => rfl
    | cons v vs =>
      have hne : n ≠ m := fun z => h 0 (by simp) (by rw [z]; rfl)
      have hb : (n == m) = false := beq_eq_false_iff_ne.mpr hne
      simp only [List.zip_cons_cons, List.lookup, hb]
      exact ih fun i hi => by
        have := h (i + 1) (by rw [List.length_cons]; omega)
        rwa [List.getElem?_cons_succ] at this
theorem fm_zip {L : Str → Option Value} : ∀ {ns : List Str} {us : List Value}, us.length = ns.length → (∀ (i : Nat) (n : Str), ns[i]? = some n → ∃ u : Value, L n = some u ∧ us[i]? = some u) → ns.filterMap (fun n => (L n).map (n, ·)) = ns.zip us
  | [], us, _, _ => by simp
  | n :: r, [], h, _ => by simp at h
  | n :: r, u :: us, h, k => by
    obtain ⟨u', q1, q2⟩ := k 0 n rfl
    rw [List.getElem?_cons_zero] at q2
    cases q2
    rw [List.filterMap_cons_some (b := (n, u)) (by rw [q1]; rfl), fm_zip (us := us) (by simpa using h) (fun i m hm => by simpa using k (i + 1) m (by rw [List.getElem?_cons_succ]; exact hm))]
    rfl
theorem kw_bind {fd : FuncData} {ps : List Str} (p : PlainP fd ps) (nd : ps.Nodup) {nu : Nat} {ks : List Str} (O : KwOk ps nu ks) {us ws xs : List Value} (hu : us.length = nu) (hw : ws.length = ks.length) (hx : permute (kwOrd ps nu ks) (us ++ ws) = some xs) :
    bindArgs fd ⟨us, ks.zip ws⟩ = pure (ps.zip xs) ∧ xs.length = ps.length := by
  have hlen := O.len
  have hm : (ks.zip ws).map (·.1) = ks := by
    rw [List.map_fst_zip]
    omega
  -- a name behind the positional ones
  have late : ∀ {i : Nat} {n : Str}, nu ≤ i → ps[i]? = some n → (ps.zip us).lookup n = none := fun {i n} hi hn => zip_lookup_none fun j hj hq => by
    have := nodup_get nd hq hn
    omega
  have dropAt : ∀ {i : Nat} {n : Str}, nu ≤ i → ps[i]? = some n → (ps.drop nu)[i - nu]? = some n := fun {i n} hi hn => by
    rw [List.getElem?_drop, Nat.add_sub_cancel' hi]
    exact hn
  have kwAt : ∀ {n : Str}, n ∈ ks → ∃ u, ws[ks.idxOf n]? = some u ∧ (ks.zip ws).lookup n = some u := fun {n} hn => by
    have h1 : ks.idxOf n < ks.length := List.idxOf_lt_length_of_mem hn
    have h2 : ks[ks.idxOf n]? = some n := by rw [List.getElem?_eq_getElem h1, List.getElem_idxOf]
    exact ⟨_, List.getElem?_eq_getElem (by omega), zip_lookup O.nd h2 (List.getElem?_eq_getElem (by omega))⟩
  obtain ⟨hxl, hxg⟩ := permute_get hx
  have hol : (kwOrd ps nu ks).length = ps.length := by
    unfold kwOrd
    rw [List.length_append, List.length_range, List.length_map, List.length_drop]
    omega
  have at_ : ∀ (i : Nat) (n : Str), ps[i]? = some n → ∃ u, (ps.zip us ++ ks.zip ws).lookup n = some u ∧ xs[i]? = some u := fun i n hn => by
    have hil : i < xs.length := by rw [hxl, hol]; exact (List.getElem?_eq_some_iff.mp hn).1
    obtain ⟨k, q1, q2⟩ := hxg i _ (List.getElem?_eq_getElem hil)
    rw [lookup_app]
    by_cases hi : i < nu
    · have e : k = i := by
        unfold kwOrd at q1
        rw [List.getElem?_append_left (by rw [List.length_range]; exact hi), List.getElem?_range hi] at q1
        exact (Option.some.inj q1).symm
      subst e
      rw [List.getElem?_append_left (by omega)] at q2
      exact ⟨_, by rw [zip_lookup nd hn q2]; rfl, List.getElem?_eq_getElem hil⟩
    · have hi : nu ≤ i := Nat.le_of_not_lt hi
      have hd := dropAt hi hn
      obtain ⟨u, w1, w2⟩ := kwAt (O.sup n (List.mem_of_getElem? hd))
      have e : k = nu + ks.idxOf n := by
        unfold kwOrd at q1
        rw [List.getElem?_append_right (by rw [List.length_range]; exact hi), List.length_range, List.getElem?_map, hd] at q1
        exact (Option.some.inj q1).symm
      subst e
      rw [← hu, List.getElem?_append_right (Nat.le_add_right _ _), Nat.add_sub_cancel_left, w1] at q2
      cases q2
      exact ⟨_, by rw [late hi hn, w2]; rfl, List.getElem?_eq_getElem hil⟩
  refine ⟨?_, by rw [hxl, hol]⟩
  rw [bind_kw p (by omega) (fun k hk => ?_) (by rw [hm]; exact O.nd) (fun n hn => ?_)]
  · rw [fm_zip (us := xs) (by rw [hxl, hol]) at_]
  · rw [hm] at hk
    have hd := O.sub k hk
    obtain ⟨i, hi⟩ := List.mem_iff_getElem?.mp hd
    rw [List.getElem?_drop] at hi
    exact ⟨List.mem_of_getElem? hi, late (Nat.le_add_right _ _) hi⟩
  · obtain ⟨i, hi⟩ := List.mem_iff_getElem?.mp hn
    obtain ⟨u, w1, _⟩ := at_ i n hi
    rw [w1]
    rfl
section
variable {F : Fx} {X : Cx}
theorem As.app (ok : F.Ok) {e e1 e2 : En} {σ : L2.St} {H H1 H2 : Hp} {us : List V} {p : List Arg} {vs : List V} {q : List Arg} (S : StOk F e σ H) (P1 : Pst F e σ H e1 H1) (r1 : As F e e1 σ H H1 us p) (P2 : Pst F e1 σ H1 e2 H2) (r2 : As F e1 e2 σ H1 H2 vs q) :
    As F e e2 σ H H2 (us ++ vs) (p ++ q) := by
  have far : ∀ {v w : V} {a b : Arg}, AE F e e1 σ H H1 v a → AE F e1 e2 σ H1 H2 w b → a.1.ow = true → b.1.ow = true → v ≠ w := fun {v w a b} h1 h2 o1 o2 z => by
    obtain ⟨a1, us, rfl, q2⟩ := ow_ref h1.1 o1
    subst z
    obtain ⟨s, r⟩ := b
    obtain ⟨h5, h6⟩ := h2
    cases r with
    | none =>
      obtain ⟨_, p', z1, z2⟩ := h6 (mt_ly (ow_mt o2))
      cases z1
      rw [q2] at z2
      cases z2
    | some is =>
      obtain ⟨i, s0⟩ := is
      obtain ⟨_, _, g3⟩ := h6
      rcases g3 with ⟨xs, _, z, _⟩ | ⟨xs, _, z, _⟩ | ⟨xs, _, z, _⟩
      · have z : s = .lent xs := z
        rw [z] at o2; cases o2
      · have z : s = .lent xs := z
        rw [z] at o2; cases o2
      · have z : s = .lock xs := z
        rw [z] at o2; cases o2
  have hl := r1.len
  refine ⟨by rw [List.length_append, List.length_append, r1.len, r2.len], fun i w b hw hb => ?_, fun i l w b w' b' hil hw hb hw' hb' o1 o2 => ?_⟩
  · rcases app_get hw with ⟨h1, h2⟩ | ⟨h1, h2⟩
    · rcases app_get hb with ⟨h3, h4⟩ | ⟨h3, h4⟩
      · exact (r1.el i w b h2 h4).more ok S P1 P2
      · omega
    · rcases app_get hb with ⟨h3, h4⟩ | ⟨h3, h4⟩
      · omega
      · rw [hl] at h2
        exact (r2.el _ w b h2 h4).back P1
  · rcases app_get hw with ⟨h1, h2⟩ | ⟨h1, h2⟩
    · rcases app_get hb with ⟨h3, h4⟩ | ⟨h3, h4⟩
      · rcases app_get hw' with ⟨h5, h6⟩ | ⟨h5, h6⟩
        · rcases app_get hb' with ⟨h7, h8⟩ | ⟨h7, h8⟩
          · exact r1.nw i l w b w' b' hil h2 h4 h6 h8 o1 o2
          · omega
        · rcases app_get hb' with ⟨h7, h8⟩ | ⟨h7, h8⟩
          · omega
          · rw [hl] at h6
            exact far (r1.el i w b h2 h4) (r2.el _ w' b' h6 h8) o1 o2
      · omega
    · rcases app_get hb with ⟨h3, h4⟩ | ⟨h3, h4⟩
      · omega
      · rw [hl] at h2
        rcases app_get hw' with ⟨h5, h6⟩ | ⟨h5, h6⟩
        · rcases app_get hb' with ⟨h7, h8⟩ | ⟨h7, h8⟩
          · exact Ne.symm (far (r1.el l w' b' h6 h8) (r2.el _ w b h2 h4) o2 o1)
          · omega
        · rcases app_get hb' with ⟨h7, h8⟩ | ⟨h7, h8⟩
          · omega
          · rw [hl] at h6
            exact r2.nw _ _ w b w' b' (by omega) h2 h4 h6 h8 o1 o2
theorem As.perm {e e1 : En} {σ : L2.St} {H H1 : Hp} {vs ws : List V} {as bs : List Arg} {ord : List Nat} (A : As F e e1 σ H H1 vs as) (nd : ord.Nodup) (hv : permute ord vs = some ws) (ha : permute ord as = some bs) : As F e e1 σ H H1 ws bs := by
  obtain ⟨v1, v2⟩ := permute_get hv
  obtain ⟨a1, a2⟩ := permute_get ha
  refine ⟨by rw [v1, a1], fun k v a h1 h2 => ?_, fun k l v a w b hkl h1 h2 h3 h4 o1 o2 => ?_⟩
  · obtain ⟨i, q1, q2⟩ := v2 k v h1
    obtain ⟨j, q3, q4⟩ := a2 k a h2
    rw [q1] at q3
    cases q3
    exact A.el i v a q2 q4
  · obtain ⟨i, q1, q2⟩ := v2 k v h1
    obtain ⟨i', q3, q4⟩ := a2 k a h2
    rw [q1] at q3
    cases q3
    obtain ⟨j, q5, q6⟩ := v2 l w h3
    obtain ⟨j', q7, q8⟩ := a2 l b h4
    rw [q5] at q7
    cases q7
    exact A.nw i j v a w b (fun z => hkl (nodup_get nd q1 (by rw [z]; exact q5))) q2 q4 q6 q8 o1 o2
/-! ### the keywords' values -/
theorem pk_imp {kws : List Keyword} {t t' : TA} (h : PK X kws t) (i : ∀ σ H Q, t' σ H Q → t σ H Q) : PK X kws t' := ⟨fun pos pins s σ H Q I q => h.run pos pins s σ H Q I (i _ _ _ q)⟩
theorem gl_knil : PK X [] (tAs F (M.ret [])) := by
  refine pk_imp pk_nil fun σ H Q ⟨t, e, S, ev, e', hm, k⟩ => ?_
  obtain ⟨rfl, rfl⟩ := ret_ok hm
  exact k _ _ (Pst.refl S t) ⟨rfl, fun k v a h => by simp at h, fun k l v a w b _ h => by simp at h⟩
theorem gl_kcons (ok : F.Ok) {a : Expr} {nm : Option Str} {kp : Pos} {ks : List Keyword} {m : M Arg} {ms : M (List Arg)} (ha : PE X a (tA1 F m)) (hr : PK X ks (tAs F ms)) :
    PK X (⟨nm, a, kp⟩ :: ks) (tAs F (m.bnd fun x => ms.bnd fun xs => M.ret (x :: xs))) := by
  refine pk_imp (pk_cons ha hr) fun σ H Q ⟨t, e, S, ds, e', hm, k⟩ => ?_
  obtain ⟨p, e1, h1, h2⟩ := bnd_ok hm
  obtain ⟨q, e2, h3, h4⟩ := bnd_ok h2
  obtain ⟨rfl, rfl⟩ := ret_ok h4
  exact ⟨t, e, S, p, e1, h1, fun v H1 P1 r1 => ⟨P1.tabs, e1, P1.st, q, e2, h3, fun vs H2 P2 r2 => k _ _ (P1.trans P2) (As.cons ok S P1 r1 P2 r2)⟩⟩
/-! ### the call -/
def gK {α : Type} (ps : List Str) (nu : Nat) (ks : List Str) (us ws : List α) : List α := if us.length = nu ∧ ws.length = ks.length then (permute (kwOrd ps nu ks) (us ++ ws)).getD [] else []
theorem kwOrd_lt {ps : List Str} {nu : Nat} {ks : List Str} (O : KwOk ps nu ks) {α : Type} {us ws : List α} (hu : us.length = nu) (hw : ws.length = ks.length) : ∀ k ∈ kwOrd ps nu ks, k < (us ++ ws).length := by
  intro k hk
  unfold kwOrd at hk
  rw [List.length_append, hu, hw]
  rcases List.mem_append.mp hk with h | h
  · have := List.mem_range.mp h
    omega
  · obtain ⟨p, hp, rfl⟩ := List.mem_map.mp h
    have := List.idxOf_lt_length_of_mem (O.sup p hp)
    omega
theorem kbinds {fd : FuncData} {ps : List Str} (p : PlainP fd ps) (nd : ps.Nodup) (ne : ps ≠ []) {nu : Nat} {ks : List Str} (O : KwOk ps nu ks) : KBinds X.K fd ps ks (gK ps nu ks) (gK ps nu ks) := by
  refine ⟨fun s us ws _ hl => ?_, fun {vs us zs ws} r q => ?_⟩
  · unfold gK at hl ⊢
    split at hl
    · rename_i hc
      obtain ⟨xs, hx⟩ := permute_some (kwOrd_lt O hc.1 hc.2)
      rw [if_pos hc, hx]
      exact .of_eq (kw_bind p nd O hc.1 hc.2 hx).1
    · exfalso
      cases ps with
      | nil => exact ne rfl
      | cons _ _ => simp at hl
  · have h1 := r.length
    have h2 := q.length
    unfold gK
    by_cases hc : us.length = nu ∧ ws.length = ks.length
    · have hc' : vs.length = nu ∧ zs.length = ks.length := by rw [h1, h2]; exact hc
      obtain ⟨xs, hx⟩ := permute_some (kwOrd_lt O hc.1 hc.2)
      obtain ⟨ys, hy⟩ := permute_some (kwOrd_lt O hc'.1 hc'.2)
      rw [if_pos hc, if_pos hc', hx, hy]
      exact permute_vals (paired_app r q) hy hx
    · have hc' : ¬ (vs.length = nu ∧ zs.length = ks.length) := by rw [h1, h2]; exact hc
      rw [if_neg hc, if_neg hc']
      exact .nil
theorem callK_ok {ord : List Nat} {f : List Sl → Option Cr} {as : List Arg} {e : En} {r : Rs EV} (h : callK ord f as e = some r) : ∃ bs, permute ord as = some bs ∧ callM f bs e = some r := by
  unfold callK at h
  cases hp : permute ord as with
  | none => rw [hp] at h; cases h
  | some bs => rw [hp] at h; exact ⟨bs, rfl, h⟩
/-- what is left of the call behind the arguments -/
theorem kw_sp (ok : F.Ok) {ps : List Str} {nu : Nat} {ks : List Str} (O : KwOk ps nu ks) {f : List Sl → Option Cr} (hnp : ∀ as r, f as = some r → as.length = ps.length) {e e1 e2 e' : En} {σ : L2.St} {H H1 H2 : Hp} {Q : VK} {vs zs : List V} {as bs : List Arg} {ev : EV}
    (S : StOk F e σ H) (P1 : Pst F e σ H e1 H1) (A1 : As F e e1 σ H H1 vs as) (P2 : Pst F e1 σ H1 e2 H2) (A2 : As F e1 e2 σ H1 H2 zs bs) (n1 : as.length = nu) (n2 : bs.length = ks.length) (h2 : callK (kwOrd ps nu ks) f (as ++ bs) e2 = some (.ok ev e'))
    (k : ∀ b H', Pst F e σ H e' H' → REV F H e' σ H' b ev → Q b H') : spG F ps.length f (gK ps nu ks vs zs) H2 Q (fun _ _ _ => False) := by
  obtain ⟨cs, hp, hc⟩ := callK_ok h2
  have A := As.app ok S P1 A1 P2 A2
  have m1 : vs.length = nu := by rw [A1.len]; exact n1
  have m2 : zs.length = ks.length := by rw [A2.len]; exact n2
  obtain ⟨ys, hy⟩ := permute_some (kwOrd_lt O m1 m2)
  have e0 : gK ps nu ks vs zs = ys := by
    unfold gK
    rw [if_pos ⟨m1, m2⟩, hy]
    rfl
  rw [e0]
  exact call_sp ok hnp S (P1.trans P2) (A.perm O.on hy hp) hc k
/-- f(k = v, ..) -/
theorem pe_callK0 {CX : CXT} {k : Nat} {f : Addr} {fd : FuncData} {ps ks : List Str} {sp : Sp} {E : XK} {x : Str} {p pos : Pos} {kws : List Keyword} {tk : TA} {g : List Value → List Value → List Value} {gV : List V → List V → List V}
    (FN : FnOk X.prog X.w X.K X.mg X.base CX k f fd ps sp) (hr : Room k X.A) (hg : Gl X x) (hm : X.mg x = some (.ref f)) (hk : PySem.W.keepIn X.K (.ref f) = true) (hb : KBinds X.K fd ps ks g gV) (hx : Passes CX X E)
    (hkw : PK X kws tk) (hall : (backToKw pos (keywordEach kws X.env)).all (·.1.isSome) = true) (hks : (backToKw pos (keywordEach kws X.env)).filterMap (·.1) = ks) (hdb : (x == ("__debug__" : Str)) = false)
    (hpl : ((backTo pos (starEach [] X.env)).any (·.1) || (backToKw pos (keywordEach kws X.env)).any (·.1.isNone)) = false) :
    PE X (.Call (.Name x p) [] kws pos) (fun σ H Q => tk σ H fun zs H2 => sp (gV [] zs) H2 Q E) := by
  refine ⟨fun pins s σ H Q I h => wpAny_Call_Name_kw (ld_glob I hg hm (PySem.W.callWith_KW0 (h₀ := X.base) I.ok.mod.kin hk hall (thn (hkw.run pos pins s σ H _ I h) fun ws s2 ⟨zs, H2, I2, rz, q2⟩ => ⟨I2.kIn, ?_⟩) hpl) hdb)⟩
  rw [hks]
  exact run_fnk (us := []) (vs := []) FN hr hb hx I2 .nil rz q2
def kwNms : List Keyword → Option (List Str)
  | [] => some []
  | k :: r => match k.arg, kwNms r with
    | some x, some xs => some (x :: xs)
    | _, _ => none
theorem kw_each {pos : Pos} {env : Env} : ∀ {kws : List Keyword} {ks : List Str}, kwNms kws = some ks → (backToKw pos (keywordEach kws env)).all (·.1.isSome) = true ∧ (backToKw pos (keywordEach kws env)).filterMap (·.1) = ks ∧ (backToKw pos (keywordEach kws env)).any (·.1.isNone) = false ∧ kws.length = ks.length
  | [], ks, h => by cases h; exact ⟨rfl, rfl, rfl, rfl⟩
  | ⟨a, v, kp⟩ :: r, ks, h => by
    simp only [kwNms] at h
    cases a with
    | none => cases h
    | some x =>
      cases hr : kwNms r with
      | none => rw [hr] at h; cases h
      | some xs =>
        rw [hr] at h
        cases h
        obtain ⟨h1, h2, h3, h4⟩ := kw_each (pos := pos) (env := env) hr
        refine ⟨?_, ?_, ?_, by rw [List.length_cons, List.length_cons, h4]⟩
        · show (true && (backToKw pos (keywordEach r env)).all (·.1.isSome)) = true
          rw [h1]; rfl
        · show x :: (backToKw pos (keywordEach r env)).filterMap (·.1) = x :: xs
          rw [h2]
        · show (false || (backToKw pos (keywordEach r env)).any (·.1.isNone)) = false
          rw [h3]; rfl
theorem evAs_len {G : Gm} : ∀ {cs : CEs} {e e' : En} {as : List Arg}, evAs G cs e = some (.ok as e') → ∀ n, cs.len = n → as.length = n
  | .nil, e, e', as, h, n, hn => by
    simp only [evAs] at h
    obtain ⟨rfl, rfl⟩ := ret_ok h
    rw [← hn]; rfl
  | .cons s a r, e, e', as, h, n, hn => by
    simp only [evAs] at h
    obtain ⟨x, e1, h1, h2⟩ := bnd_ok h
    obtain ⟨xs, e2, h3, h4⟩ := bnd_ok h2
    obtain ⟨rfl, rfl⟩ := ret_ok h4
    rw [← hn, List.length_cons, evAs_len h3 _ rfl]
    rfl
end
end Mi
end

section
set_option maxRecDepth 100000
set_option maxHeartbeats 1000000
/-! Mi: the compiler. What it does not know is stuck. -/
namespace Mi
open PySem PySem.Spec PyProof.Rows L2
inductive Gk where
  | fn (g : Nat) (ps : List Str) | lit (c : Cn) | con (k : Nat) | dic (kvs : List (Str × Cn)) | blt
structure Cc where
  N : List Str
  sc : Scope
  glb : List (Str × Gk)
  lam : Bool
def idx (N : List Str) (x : Str) : Option Nat := N.findIdx? (· == x)
def fl (x : Str) : Bool := !(x == ("__debug__" : Str)) && !(x == ("__classdict__" : Str)) && !(x == ("__name__" : Str))
def Cc.slot (c : Cc) (x : Str) : Option Nat := if fl x then match c.sc.names.lookup x with
  | some .local => idx c.N x
  | some .cell => idx c.N x
  | some .free => idx c.N x
  | _ => none else none
/-- a slot that may be stored -/
def Cc.tgt (c : Cc) (x : Str) : Option Nat := match c.sc.names.lookup x with
  | some .local => idx c.N x
  | some .cell => if c.lam then idx c.N x else none
  | _ => none
def Cc.glo (c : Cc) (x : Str) : Option Gk := if fl x then match c.sc.names.lookup x with
  | some .globalImplicit => c.glb.lookup x
  | _ => none else none
def isBlt : Option Gk → Bool
  | some .blt => true
  | _ => false
def cName (c : Cc) (x : Str) : CE := match c.slot x with
  | some i => .var i
  | none => match c.glo x with
    | some (.fn g _) => .gfn g
    | some (.lit k) => .cst k
    | some (.con k) => .gcn k
    | _ => .bad
def cCon : Const → CE
  | .none => .cst .non
  | .bool b => .cst (.bl b)
  | .int i => .cst (.int i)
  | .str x => if cnOk (.str x) then .cst (.str x) else .bad
  | _ => .bad
def bOp : Operator → Option BOp
  | .Add => some .add
  | .Sub => some .sub
  | .Mult => some .mul
  | .FloorDiv => some .fdiv
  | .Mod => some .mod
  | .Pow => some .pow
  | .LShift => some .shl
  | .RShift => some .shr
  | .BitAnd => some .band
  | .BitOr => some .bor
  | _ => none
def cOp : CmpOp → Expr → Option COp
  | .Eq, _ => some .eq
  | .NotEq, _ => some .ne
  | .Lt, _ => some .lt
  | .LtE, _ => some .le
  | .Gt, _ => some .gt
  | .GtE, _ => some .ge
  | .In, _ => some .mem
  | .NotIn, _ => some .nmem
  | .Is, .Constant .none _ _ => some .isn
  | .IsNot, .Constant .none _ _ => some .isnn
  | .Is, .Constant (.bool _) _ _ => some .ist
  | .IsNot, .Constant (.bool _) _ _ => some .isf
  | _, _ => none
def isStar : Expr → Bool
  | .Starred _ _ => true
  | _ => false
/-- an expression with a rule of its own as a subscript -/
def plainIx : Expr → Bool
  | .Constant _ _ _ => true
  | .Name _ _ => true
  | .BinOp _ _ _ _ => true
  | .UnaryOp _ _ _ => true
  | .Subscript _ _ _ => true
  | .Call _ _ _ _ => true
  | _ => false
def isComp : Expr → Bool
  | .ListComp _ _ _ _ => true
  | .SetComp _ _ _ _ => true
  | .DictComp _ _ _ _ _ => true
  | _ => false
def isSet : Expr → Bool
  | .Set _ _ _ => true
  | _ => false
def isTup : Expr → Bool
  | .Tuple _ _ _ => true
  | _ => false
/-- items: starred ones too -/
def cEs (r : Expr → CE) : List Expr → CEs
  | [] => .nil
  | .Starred e _ :: es => .cons true (r e) (cEs r es)
  | e :: es => .cons false (r e) (cEs r es)
def cTl (f : Expr → Option CT) : List Expr → Option CTs
  | [] => some .nil
  | e :: es => if isStar e then none else match f e, cTl f es with
    | some t, some ts => some (.cons t ts)
    | _, _ => none
def cT : Nat → Cc → Expr → Option CT
  | 0, _, _ => none
  | n + 1, c, .Name x _ => (c.tgt x).map .nm
  | n + 1, c, .Tuple es _ _ => (cTl (cT n c) es).map .tp
  | _, _, _ => none
def biOf (x : Str) : Option Bi :=
  if x = ("len" : Str) then some .len else if x = ("abs" : Str) then some .abs else if x = ("int" : Str) then some .int else if x = ("divmod" : Str) then some .divmod
  else if x = ("sum" : Str) then some .sum else if x = ("any" : Str) then some .any else if x = ("all" : Str) then some .all else if x = ("max" : Str) then some .max else if x = ("min" : Str) then some .min
  else if x = ("sorted" : Str) then some .sorted else if x = ("list" : Str) then some .list else if x = ("tuple" : Str) then some .tuple else none
def tyOf (x : Str) : Option Ty :=
  if x = ("tuple" : Str) then some .tuple else if x = ("list" : Str) then some .list else if x = ("bool" : Str) then some .bool else if x = ("int" : Str) then some .int else if x = ("str" : Str) then some .str else none
/-- the block's own names with their slots -/
def ownOf (c : Cc) (sc : Scope) : List (Str × Nat) := sc.names.filterMap fun p => match p.2 with
  | .local => (idx c.N p.1).map fun i => (p.1, i)
  | .cell => (idx c.N p.1).map fun i => (p.1, i)
  | _ => none
def frees (sc : Scope) : List Str := sc.names.filterMap fun p => match p.2 with
  | .free => some p.1
  | _ => none
def nodupB (l : List Str) : Bool := decide l.Nodup
def lamB (ps cs : List Str) (params : Arguments) (sc : Scope) : Bool :=
  decide (sc.kind = .function) && !sc.isCoroutine && !sc.isGenerator && nodupB (ps ++ cs) && (ps.all fun x => decide (sc.names.lookup x = some .local)) && (cs.all fun x => decide (sc.names.lookup x = some .free)) &&
  (sc.names.all fun y => !decide (y.2 = .cell)) && params.posonlyargs.isEmpty && params.vararg.isNone && params.kwonlyargs.isEmpty && params.kwarg.isNone && params.defaults.isEmpty && params.kw_defaults.isEmpty
def capsOf (c : Cc) : List Str → Option (List Nat)
  | [] => some []
  | x :: r => match c.sc.names.lookup x, idx c.N x, capsOf c r with
    | some .cell, some i, some is => some (i :: is)
    | some .free, some i, some is => some (i :: is)
    | _, _, _ => none
/-- the last argument a lambda -/
def splitLam : List Expr → Option (List Expr × Arguments × Expr × Scope × Pos)
  | [] => none
  | [.Lambda ps b sc pos] => some ([], ps, b, sc, pos)
  | e :: es => match splitLam es with
    | some (r, q) => some (e :: r, q)
    | none => none
def cF (b : Expr → CB) : List Expr → Option CF
  | [] => some .no
  | [c] => some (.yes (b c))
  | _ => none
def cI (r : Expr → CE) (c : Cc) (tg : Expr) (e : Expr) : CI := match e with
  | .Call (.Name x p) [a] [] pos =>
    if x = ("range" : Str) && isBlt (c.glo x) then (if isStar a then .ex .bad else .rg 1 (cEs r [a]))
    else if x = ("enumerate" : Str) && isBlt (c.glo x) then (if isStar a || !isTup tg then .ex .bad else .en (cEs r [a]))
    else .ex (r e)
  | .Call (.Name x p) [a, b] [] pos =>
    if x = ("range" : Str) && isBlt (c.glo x) then (if isStar a || isStar b then .ex .bad else .rg 2 (cEs r [a, b]))
    else if x = ("zip" : Str) && isBlt (c.glo x) then (if isStar a || isStar b || !isTup tg then .ex .bad else .zp (cEs r [a, b]))
    else .ex (r e)
  | .Call (.Name x p) [a, b, d] [] pos =>
    if x = ("range" : Str) && isBlt (c.glo x) then (if isStar a || isStar b || isStar d then .ex .bad else .rg 3 (cEs r [a, b, d]))
    else .ex (r e)
  | e => .ex (r e)
/-- a call of a name -/
def cCall (r : Cc → Expr → CE) (c : Cc) (x : Str) (es : List Expr) : CE := match es with
  | [] => (match c.glo x with
    | some (.fn g _) => .call g .nil
    | _ => .bad)
  | a :: es => match c.slot x with
    | some i => if (a :: es).any isStar then .bad else .cal i (cEs (r c) (a :: es))
    | none => match c.glo x with
      | some (.fn g _) => (match splitLam (a :: es) with
        | some (as, params, body, sc, _) => if as.any isStar || !c.lam || !lamB (params.args.map (·.arg)) (frees sc) params sc then .bad else match capsOf c (frees sc) with
          | some caps => .calll g (cEs (r c) as) (params.args.map (·.arg)).length (params.args.map (·.arg) ++ frees sc).length (r ⟨params.args.map (·.arg) ++ frees sc, sc, c.glb, false⟩ body) caps
          | none => .bad
        | none => if (a :: es).any isStar then .bad else .call g (cEs (r c) (a :: es)))
      | some .blt => if (a :: es).any isStar then .bad else (match biOf x with
        | some b => .bi b (cEs (r c) (a :: es))
        | none => if x = ("isinstance" : Str) then (match es with
          | [.Name t _] => (match tyOf t with
            | some ty => if isBlt (c.glo t) then .isi (r c a) ty else .bad
            | none => .bad)
          | _ => .bad) else .bad)
      | _ => .bad
def dicOf (c : Cc) : Expr → Option (List (Str × Cn))
  | .Name x _ => match c.glo x with
    | some (.dic kvs) => if kvOk kvs then some kvs else none
    | _ => none
  | _ => none
def dkeys (c : Cc) (x : Str) : List Expr → Option (List (Str × Cn))
  | [a] => if x = ("list" : Str) && isBlt (c.glo x) then dicOf c a else none
  | _ => none
/-- a call of a def with keywords -/
def cKw (r : Expr → CE) (c : Cc) (x : Str) (es : List Expr) (kws : List Keyword) : CE := match c.glo x with
  | some (.fn g ps) => (match kwNms kws with
    | some ks => if es.any isStar || (kws.map (·.value)).any isStar || !kwB ps es.length ks || ps.isEmpty then .bad else .callk g (kwOrd ps es.length ks) (cEs r es) (cEs r (kws.map (·.value)))
    | none => .bad)
  | _ => .bad
def cMeth (r : Expr → CE) (c : Cc) (y m : Str) (es : List Expr) : CE := match c.slot y with
  | none => .bad
  | some i => match es with
    | [] => if m = ("pop" : Str) then .pop i else .bad
    | [a] => if isStar a then .bad else if m = ("append" : Str) then .app i (r a) else if m = ("extend" : Str) then .ext i (r a) else .bad
    | _ => .bad
def Cc.blk (c : Cc) (sc : Scope) : Cc := ⟨c.N, relS sc c.sc, c.glb, false⟩
def cLc (rE : Cc → Expr → CE) (rB : Cc → Expr → CB) (n : Nat) (c : Cc) (elt : Expr) (gs : List Comprehension) (sc : Scope) : CE := match gs with
  | [⟨tg, iter, ifs, a⟩] => if !decide (a = 0) || isSet iter || !blkC c.N c.sc sc (ownOf c sc) then .bad else
      (match cT n (c.blk sc) tg, cF (rB (c.blk sc)) ifs with
      | some t, some f => if t.names.all fun j => ((ownOf c sc).map (·.2)).contains j then .lc (rE (c.blk sc) elt) t (cI (rE c) c tg iter) f ((ownOf c sc).map (·.2)) else .bad
      | _, _ => .bad)
  | _ => .bad
theorem cLc_eq {rE : Cc → Expr → CE} {rB : Cc → Expr → CB} {n : Nat} {c : Cc} {elt : Expr} {gs : List Comprehension} {sc : Scope} : cLc rE rB n c elt gs sc = .bad ∨ ∃ tg iter ifs t f, gs = [⟨tg, iter, ifs, 0⟩] ∧ isSet iter = false ∧ blkC c.N c.sc sc (ownOf c sc) = true ∧ cT n (c.blk sc) tg = some t ∧ cF (rB (c.blk sc)) ifs = some f ∧
    (∀ j, j ∈ t.names → j ∈ (ownOf c sc).map (·.2)) ∧ cLc rE rB n c elt gs sc = .lc (rE (c.blk sc) elt) t (cI (rE c) c tg iter) f ((ownOf c sc).map (·.2)) := by
  match gs with
  | [] => exact .inl rfl
  | ⟨_, _, _, _⟩ :: _ :: _ => exact .inl rfl
  | [⟨tg, iter, ifs, a⟩] =>
    simp only [cLc]
    split
    · exact .inl rfl
    · rename_i hq
      have hq : (!decide (a = 0) || isSet iter || !blkC c.N c.sc sc (ownOf c sc)) = false := by
        cases h : (!decide (a = 0) || isSet iter || !blkC c.N c.sc sc (ownOf c sc)) with
        | false => rfl
        | true => exact absurd h hq
      rw [Bool.or_eq_false_iff, Bool.or_eq_false_iff, Bool.not_eq_false', Bool.not_eq_false', decide_eq_true_iff] at hq
      obtain ⟨⟨rfl, h2⟩, h3⟩ := hq
      cases ht : cT n (c.blk sc) tg with
      | none => exact .inl rfl
      | some t =>
        cases hf : cF (rB (c.blk sc)) ifs with
        | none => exact .inl rfl
        | some f =>
          simp only
          split
          · rename_i hall
            exact .inr ⟨tg, iter, ifs, t, f, rfl, h2, h3, ht, hf, fun j hj => List.contains_iff_mem.mp (List.all_eq_true.mp hall j hj), rfl⟩
          · exact .inl rfl
/-- two sources -/
def cLc2 (rE : Cc → Expr → CE) (rB : Cc → Expr → CB) (n : Nat) (c : Cc) (elt : Expr) (gs : List Comprehension) (sc : Scope) : CE := match gs with
  | [⟨tg, iter, ifs, a⟩, ⟨tg1, iter1, ifs1, a1⟩] => if !decide (a = 0) || !decide (a1 = 0) || isSet iter || isSet iter1 || !blkC c.N c.sc sc (ownOf c sc) then .bad else
      (match cT n (c.blk sc) tg, cF (rB (c.blk sc)) ifs, cT n (c.blk sc) tg1, cF (rB (c.blk sc)) ifs1 with
      | some t, some f, some t1, some f1 => if (t.names.all fun j => ((ownOf c sc).map (·.2)).contains j) && (t1.names.all fun j => ((ownOf c sc).map (·.2)).contains j) then .lc2 (rE (c.blk sc) elt) t (cI (rE c) c tg iter) f t1 (rE (c.blk sc) iter1) f1 ((ownOf c sc).map (·.2)) t1.names else .bad
      | _, _, _, _ => .bad)
  | _ => .bad
theorem cLc2_eq {rE : Cc → Expr → CE} {rB : Cc → Expr → CB} {n : Nat} {c : Cc} {elt : Expr} {gs : List Comprehension} {sc : Scope} : cLc2 rE rB n c elt gs sc = .bad ∨ ∃ tg iter ifs t f tg1 iter1 ifs1 t1 f1, gs = [⟨tg, iter, ifs, 0⟩, ⟨tg1, iter1, ifs1, 0⟩] ∧ isSet iter = false ∧ isSet iter1 = false ∧ blkC c.N c.sc sc (ownOf c sc) = true ∧ cT n (c.blk sc) tg = some t ∧ cF (rB (c.blk sc)) ifs = some f ∧ cT n (c.blk sc) tg1 = some t1 ∧ cF (rB (c.blk sc)) ifs1 = some f1 ∧
    (∀ j, j ∈ t.names → j ∈ (ownOf c sc).map (·.2)) ∧ (∀ j, j ∈ t1.names → j ∈ (ownOf c sc).map (·.2)) ∧ cLc2 rE rB n c elt gs sc = .lc2 (rE (c.blk sc) elt) t (cI (rE c) c tg iter) f t1 (rE (c.blk sc) iter1) f1 ((ownOf c sc).map (·.2)) t1.names := by
  match gs with
  | [] => exact .inl rfl
  | [⟨_, _, _, _⟩] => exact .inl rfl
  | ⟨_, _, _, _⟩ :: ⟨_, _, _, _⟩ :: _ :: _ => exact .inl rfl
  | [⟨tg, iter, ifs, a⟩, ⟨tg1, iter1, ifs1, a1⟩] =>
    simp only [cLc2]
    split
    · exact .inl rfl
    · rename_i hq
      have hq := Bool.eq_false_iff.mpr hq
      simp only [Bool.or_eq_false_iff, Bool.not_eq_false', decide_eq_true_iff] at hq
      obtain ⟨⟨⟨⟨rfl, rfl⟩, h2⟩, h2'⟩, h3⟩ := hq
      cases ht : cT n (c.blk sc) tg with
      | none => exact .inl rfl
      | some t =>
        cases hf : cF (rB (c.blk sc)) ifs with
        | none => exact .inl rfl
        | some f =>
          cases ht1 : cT n (c.blk sc) tg1 with
          | none => exact .inl rfl
          | some t1 =>
            cases hf1 : cF (rB (c.blk sc)) ifs1 with
            | none => exact .inl rfl
            | some f1 =>
              simp only
              split
              · rename_i hall
                rw [Bool.and_eq_true] at hall
                exact .inr ⟨tg, iter, ifs, t, f, tg1, iter1, ifs1, t1, f1, rfl, h2, h2', h3, ht, hf, ht1, hf1, fun j hj => List.contains_iff_mem.mp (List.all_eq_true.mp hall.1 j hj), fun j hj => List.contains_iff_mem.mp (List.all_eq_true.mp hall.2 j hj), rfl⟩
              · exact .inl rfl
mutual
def cE : Nat → Cc → Expr → CE
  | 0, _, _ => .bad
  | n + 1, c, e => match e with
    | .Constant v _ _ => cCon v
    | .Name x _ => cName c x
    | .Tuple es _ _ => .tup (cEs (cE n c) es)
    | .List es _ => .lst (cEs (cE n c) es)
    | .BinOp a op b _ => (match bOp op with
      | some o => .bin o (cE n c a) (cE n c b)
      | none => .bad)
    | .UnaryOp op a _ => (match op with
      | .USub => .un .neg (cE n c a)
      | .Invert => .un .inv (cE n c a)
      | .Not => .not (cE n c a)
      | _ => .bad)
    | .Compare a [op] [b] _ => if behindInMarks op b then .bad else (match cOp op b with
      | some o => .cmp o (cE n c a) (cE n c b)
      | none => .bad)
    | .Compare a [o1, o2] [b, d] _ => if lastMarks [o1, o2] [b, d] then .bad else (match cOp o1 b, cOp o2 d with
      | some p, some q => .chn p q (cE n c a) (cE n c b) (cE n c d)
      | _, _ => .bad)
    | .BoolOp .And [a] _ => cE n c a
    | .BoolOp .And (a :: b :: rest) pos => .and (cE n c a) (cE n c (.BoolOp .And (b :: rest) pos))
    | .BoolOp .Or [a] _ => cE n c a
    | .BoolOp .Or (a :: b :: rest) pos => .or (cE n c a) (cE n c (.BoolOp .Or (b :: rest) pos))
    | .IfExp t a b _ => .ife (cB n c t) (cE n c a) (cE n c b)
    | .Subscript a (.Slice lo hi none _) _ => .sl (cE n c a) (cO n c lo) (cO n c hi)
    | .Subscript a (.Slice none none (some (.UnaryOp .USub (.Constant (.int 1) _ _) _)) _) _ => .rev (cE n c a)
    | .Subscript a i _ => (match dicOf c a with
      | some kvs => if plainIx i then .look kvs (cE n c i) else .bad
      | none => if plainIx i then .ix (cE n c a) (cE n c i) else .bad)
    | .Call (.Name x _) es [] _ => (match dkeys c x es with
      | some kvs => .lst (strsE kvs)
      | none => cCall (cE n) c x es)
    | .Call (.Name x _) es (k :: ks) _ => cKw (cE n c) c x es (k :: ks)
    | .Dict [] [] _ => .emp
    | .Call (.Attribute (.Name y _) m apos) es [] cpos => if apos.endLine == cpos.line then cMeth (cE n c) c y m es else .bad
    | .ListComp elt gs sc _ => if gs.length = 2 then cLc2 (cE n) (cB n) n c elt gs sc else cLc (cE n) (cB n) n c elt gs sc
    | _ => .bad
def cB : Nat → Cc → Expr → CB
  | 0, _, _ => .tv .bad
  | n + 1, c, e => match e with
    | .BoolOp .And [a] _ => cB n c a
    | .BoolOp .And (a :: b :: rest) pos => .and (cB n c a) (cB n c (.BoolOp .And (b :: rest) pos))
    | .BoolOp .Or [a] _ => cB n c a
    | .BoolOp .Or (a :: b :: rest) pos => .or (cB n c a) (cB n c (.BoolOp .Or (b :: rest) pos))
    | .UnaryOp .Not a _ => .not (cB n c a)
    | .Compare a [op] [b] _ => if behindInMarks op b then .tv .bad else (match cOp op b with
      | some o => .tv (.cmp o (cE n c a) (cE n c b))
      | none => .tv .bad)
    | .Compare a [o1, o2] [b, d] _ => if lastMarks [o1, o2] [b, d] then .tv .bad else (match cOp o1 b, cOp o2 d with
      | some p, some q => .tv (.chn p q (cE n c a) (cE n c b) (cE n c d))
      | _, _ => .tv .bad)
    | .Name _ _ => .tv (cE n c e)
    | .Call _ _ _ _ => .tv (cE n c e)
    | .Constant _ _ _ => .tv (cE n c e)
    | .Subscript _ _ _ => .tv (cE n c e)
    | .BinOp _ _ _ _ => .tv (cE n c e)
    | _ => .tv .bad
def cO : Nat → Cc → Option Expr → CO
  | 0, _, none => .no
  | 0, _, some _ => .yes .bad
  | _ + 1, _, none => .no
  | n + 1, c, some e => .yes (cE n c e)
end
/-- a, b = x, y by the rule of the swapped stores -/
def parB (c : Cc) (x y : Str) (px py : Pos) (a b : Expr) : Bool :=
  decide (c.sc.kind = .function) && decide (c.sc.names.lookup x = some .local) && decide (c.sc.names.lookup y = some .local) && (py.line == px.line) && !(x == y) && !isStar a && !isStar b && ![a, b].all (foldedForSure 8) && ![a, b].all (constantsAlone 8)
def isDoc : Expr → Bool
  | .Constant v _ _ => (match v with
    | .str _ => true
    | _ => false)
  | _ => false
def twoN : List Expr → Option (Str × Pos × Str × Pos)
  | [a, b] => (match a with
    | .Name x px => (match b with
      | .Name y py => some (x, px, y, py)
      | _ => none)
    | _ => none)
  | _ => none
def twoE : Expr → Option (Expr × Expr)
  | .Tuple es _ _ => (match es with
    | [a, b] => some (a, b)
    | _ => none)
  | _ => none
def nameOf : Expr → Option Str
  | .Name x _ => some x
  | _ => none
def subN : List Expr → Option (Str × Expr × Str)
  | [a, b] => (match a with
    | .Subscript o i _ => (match o with
      | .Name x _ => (match b with
        | .Name y _ => some (x, i, y)
        | _ => none)
      | _ => none)
    | _ => none)
  | _ => none
def lcOk (c : Cc) (x : Str) (p : Pos) : Expr → Bool
  | .ListComp _ _ sc pos => decide (c.sc.names.lookup x = some .local) && (p.line == pos.line) && !(sc.names.any fun (n, k) => n == x && (k == .local || k == .cell))
  | _ => false
def cAsg (n : Nat) (c : Cc) (t e : Expr) : CS := match t with
  | .Name x p => (match c.tgt x with
    | none => .bad
    | some i => if isComp e && !lcOk c x p e then .bad else .asg (.nm i) (cE n c e))
  | .Tuple ts k p => if isTup e then (match twoN ts, twoE e with
      | some (x, px, y, py), some (a, b) => if parB c x y px py a b then (match idx c.N x, idx c.N y with
        | some i, some j => .par i j (cE n c a) (cE n c b)
        | _, _ => .bad) else .bad
      | _, _ => .bad)
    else if isComp e then .bad else (match subN ts with
      | some (x, i, y) => (match c.slot x, c.tgt y with
        | some s, some j => if plainIx i then .sasg s (cE n c i) j (cE n c e) else .bad
        | _, _ => .bad)
      | none => (match cT n c (.Tuple ts k p) with
        | some (.tp t) => .asg (.tp t) (cE n c e)
        | _ => .bad))
  | .Subscript a i _ => (match nameOf a with
    | some x => (match c.slot x with
      | some s => if plainIx i then .sset s (cE n c i) (cE n c e) else .bad
      | none => .bad)
    | none => .bad)
  | _ => .bad
mutual
def cS : Nat → Cc → Stmt → CS
  | 0, _, _ => .bad
  | n + 1, c, st => match st with
    | .Return o _ => (match o with
      | none => .retN
      | some e => .ret (cE n c e))
    | .Pass _ => .pass
    | .Break _ => .brk
    | .Continue _ => .cont
    | .Expr e _ => if isDoc e then .pass else if isComp e then .bad else .expr (cE n c e)
    | .Assign ts e _ => (match ts with
      | [t] => cAsg n c t e
      | _ => .bad)
    | .If t a b _ => .iff (cB n c t) (cSs n c a) (cSs n c b)
    | .While t a o _ => if o.isEmpty then .whil (cB n c t) (cSs n c a) else .bad
    | .For tg iter b o _ => if isSet iter || !o.isEmpty then .bad else (match cT n c tg with
      | some t => .forr t (cI (cE n c) c tg iter) (cSs n c b)
      | none => .bad)
    | _ => .bad
def cSs : Nat → Cc → List Stmt → CSs
  | 0, _, _ => .cons .bad .nil
  | _ + 1, _, [] => .nil
  | n + 1, c, s :: r => .cons (cS n c s) (cSs n c r)
end
end Mi
end

section
set_option maxRecDepth 100000
set_option maxHeartbeats 2000000
/-! Mi: the compiler is sound: expressions. -/
namespace Mi
open PySem PySem.Spec PyProof.Rows L2
abbrev LKof (glb : List (Str × Gk)) : LKP := fun b e sc ps cs => ∃ n, b = cE n ⟨ps ++ cs, sc, glb, false⟩ e
structure CtxOk (X : Cx) (F : Fx) (glb : List (Str × Gk)) (G : Gm) (c : Cc) : Prop where
  N : X.N = c.N
  nd : c.N.Nodup
  sc : X.env.scope = c.sc
  kind : c.sc.kind = .function
  calm : X.calm = true
  K : X.K = F.K
  un : X.A.units + 70 < cLine
  ok : F.Ok
  clo : F.clo = CloF F.K F.fa (LKof glb)
  gl : c.glb = glb
  lv : Lv X F (LKof glb) G
  gfn : ∀ x g ps, glb.lookup x = some (.fn g ps) → X.mg x = some (.ref (F.fa g)) ∧ F.par g = ps
  glit : ∀ x k, glb.lookup x = some (.lit k) → cnOk k = true ∧ ∃ u, X.mg x = some u ∧ RelV (cnV k) u
  gcon : ∀ x k, glb.lookup x = some (.con k) → ∀ d, G.con k = some d → ∃ v u, X.mg x = some u ∧ RelV v u ∧ ∀ H, RD F.K H v d
  gdic : ∀ x kvs, glb.lookup x = some (.dic kvs) → ∃ a, X.mg x = some (.ref a) ∧ DctK X.K X.w a kvs
  gblt : ∀ x, glb.lookup x = some .blt → X.mg x = none
  lamx : c.lam = true → (∀ y, X.fn y = true) ∧ ∃ cd P, LamX.TabB X.base X.mg cd P ∧ X.env.code = .ref cd ∧ (P, lamQ X) ∈ F.T ∧ ∀ p ∈ F.T, p.1 = P → p.2 = lamQ X
section
variable {X : Cx} {F : Fx} {glb : List (Str × Gk)} {G : Gm} {c : Cc}
structure Sn (X : Cx) (F : Fx) (G : Gm) (e : Expr) (ce : CE) : Prop where
  v : PE X e (tE F (evE G ce))
  k : PE X e (tK F (lk ce (evE G ce)))
  a : PE X e (tA1 F (argM ce (evE G ce)))
  n : ∀ i, ce = .var i → PE X e (tVar i)
def nVar : CE → Bool
  | .var _ => false
  | .gfn _ => false
  | _ => true
theorem Sn.of {e : Expr} {ce : CE} (h : PE X e (tE F (evE G ce))) (n : nVar ce = true) : Sn X F G e ce := by
  cases ce with
  | var i => cases n
  | gfn g => cases n
  | _ => exact ⟨h, gl_lk h, gl_a1 h, fun i z => nomatch z⟩
theorem pe_fail {e : Expr} {α : Type} {R : En → Hp → En → L2.St → Hp → V → α → Prop} : PE X e (WP F (M.fail : M α) R) := ⟨fun _ _ _ _ _ _ ⟨_, _, _, _, _, hm, _⟩ => nomatch hm⟩
theorem sn_bad {e : Expr} : Sn X F G e .bad := Sn.of (by simp only [evE]; exact pe_fail) rfl
theorem sn_one {op : BoolOp} {a : Expr} {pos : Pos} {ce : CE} (h : Sn X F G a ce) : Sn X F G (.BoolOp op [a] pos) ce := ⟨pe_one h.v, pe_one h.k, pe_one h.a, fun i z => pe_one (h.n i z)⟩
/-! ### names -/
theorem idx_get {N : List Str} {x : Str} {i : Nat} (h : idx N x = some i) : N[i]? = some x := by
  unfold idx at h
  rw [List.findIdx?_eq_some_iff_getElem] at h
  obtain ⟨h1, h2, _⟩ := h
  rw [List.getElem?_eq_getElem h1]
  rw [beq_iff_eq.mp h2]
theorem fl_ok {x : Str} (h : fl x = true) : (x == ("__debug__" : Str)) = false ∧ (x == ("__classdict__" : Str)) = false ∧ x ≠ "__name__" := by
  unfold fl at h
  rw [Bool.and_eq_true, Bool.and_eq_true, Bool.not_eq_true', Bool.not_eq_true', Bool.not_eq_true'] at h
  exact ⟨h.1.1, h.1.2, fun z => by have := h.2; rw [z] at this; cases (show true = false from (by rw [← this]; simp))⟩
theorem slot_ok (C : CtxOk X F glb G c) {x : Str} {i : Nat} (h : c.slot x = some i) : X.N[i]? = some x ∧ Vis X.env.scope x ∧ (x == ("__debug__" : Str)) = false ∧ (x == ("__classdict__" : Str)) = false := by
  unfold Cc.slot at h
  split at h
  · rename_i hf
    obtain ⟨f1, f2, _⟩ := fl_ok hf
    rw [C.N, C.sc]
    split at h
    · rename_i hk; exact ⟨idx_get h, .inl hk, f1, f2⟩
    · rename_i hk; exact ⟨idx_get h, .inr (.inl hk), f1, f2⟩
    · rename_i hk; exact ⟨idx_get h, .inr (.inr hk), f1, f2⟩
    · cases h
  · cases h
theorem glo_ok (C : CtxOk X F glb G c) {x : Str} {k : Gk} (h : c.glo x = some k) : Gl X x ∧ glb.lookup x = some k ∧ (x == ("__debug__" : Str)) = false ∧ x ≠ "__name__" := by
  unfold Cc.glo at h
  split at h
  · rename_i hf
    obtain ⟨f1, _, f3⟩ := fl_ok hf
    split at h
    · rename_i hk
      rw [C.gl] at h
      refine ⟨?_, h, f1, f3⟩
      show X.env.scope.names.lookup x = _
      rw [C.sc]; exact hk
    · cases h
  · cases h
theorem blt_ok (C : CtxOk X F glb G c) {x : Str} (h : isBlt (c.glo x) = true) : Gl X x ∧ X.mg x = none := by
  cases hk : c.glo x with
  | none => rw [hk] at h; cases h
  | some k =>
    rw [hk] at h
    cases k with
    | blt => obtain ⟨h1, h2, _⟩ := glo_ok C hk; exact ⟨h1, C.gblt x h2⟩
    | _ => cases h
theorem pe_slot (C : CtxOk X F glb G c) {x : Str} {i : Nat} {p : Pos} (h : c.slot x = some i) : PE X (.Name x p) (tVar i) := by
  obtain ⟨h1, h2, h3, h4⟩ := slot_ok C h
  exact pe_var h1 h2 h3 h4
theorem sn_name (C : CtxOk X F glb G c) {x : Str} {p : Pos} : Sn X F G (.Name x p) (cName c x) := by
  unfold cName
  cases hs : c.slot x with
  | some i =>
    have hv := pe_slot (p := p) C hs
    exact ⟨by simp only [evE]; exact gl_getV C.ok hv, gl_peek hv, gl_aV hv, fun j z => by cases z; exact hv⟩
  | none =>
    cases hg : c.glo x with
    | none => exact sn_bad
    | some k =>
      obtain ⟨g1, g2, g3, g4⟩ := glo_ok C hg
      cases k with
      | fn g gps =>
        have hp := pe_glob (pos := p) (v := .ref (F.fa g)) g1 (C.gfn x g _ g2).1 rfl g3
        refine ⟨by simp only [evE]; exact pe_fail, ?_, gl_aFn hp, fun i z => nomatch z⟩
        have hf : PE X (.Name x p) (tE F (evE G (.gfn g))) := by simp only [evE]; exact pe_fail
        exact gl_lk hf
      | lit k =>
        obtain ⟨h1, u, h2, h3⟩ := C.glit x k g2
        refine Sn.of ?_ rfl
        simp only [evE]
        exact gl_cst (pe_glob g1 h2 h3 g3) fun K H => rd_cn h1 H
      | con k =>
        refine Sn.of ?_ rfl
        simp only [evE]
        cases hd : G.con k with
        | none => exact ⟨fun _ _ _ _ _ _ ⟨_, _, _, _, _, hm, _⟩ => nomatch hm⟩
        | some d =>
          obtain ⟨v, u, h1, h2, h3⟩ := C.gcon x k g2 d hd
          refine pe_imp (pe_glob g1 h1 h2 g3) fun σ H Q ⟨t, e, S, a, e', hm, kk⟩ => ?_
          obtain ⟨h4, rfl⟩ := of_ok hm
          cases h4
          exact kk v H (Pst.refl S t) (h3 H)
      | dic kvs => exact sn_bad
      | blt => exact sn_bad
theorem sn_con {v : Const} {j : Nat} {p : Pos} : Sn X F G (.Constant v j p) (cCon v) := by
  have f : ∀ {k : Cn}, cnOk k = true → PE X (.Constant v j p) (tC (cnV k)) → Sn X F G (.Constant v j p) (.cst k) := fun {k} h1 h2 => Sn.of (by simp only [evE]; exact gl_cst h2 fun K H => rd_cn h1 H) rfl
  cases v with
  | none => exact f (k := .non) rfl pe_non
  | bool b => exact f (k := .bl b) rfl pe_bl
  | int i => exact f (k := .int i) rfl pe_int
  | str x =>
    simp only [cCon]
    split
    · rename_i h; exact f (k := .str x) h pe_str
    · exact sn_bad
  | _ => exact sn_bad
/-! ### lists of expressions -/
theorem star_no {e : Expr} {es : List Expr} {env : Env} (h : isStar e = false) : starEach (e :: es) env = (false, eval e env) :: starEach es env := by
  cases e <;> first | rfl | cases h
theorem star_yes {e : Expr} {p : Pos} {es : List Expr} {env : Env} : starEach (.Starred e p :: es) env = (true, eval e env) :: starEach es env := rfl
theorem star_any {es : List Expr} {pos : Pos} {env : Env} (h : es.any isStar = false) : (backTo pos (starEach es env)).any (·.1) = false := by
  induction es with
  | nil => rfl
  | cons e r ih =>
    rw [List.any_cons, Bool.or_eq_false_iff] at h
    rw [star_no h.1]
    show (false || (backTo pos (starEach r env)).any (·.1)) = false
    rw [ih h.2]; rfl
theorem cEs_no {r : Expr → CE} {e : Expr} {es : List Expr} (h : isStar e = false) : cEs r (e :: es) = .cons false (r e) (cEs r es) := by
  cases e <;> first | rfl | cases h
variable {r : Expr → CE}
theorem pa_es (ok : F.Ok) (hK : X.K = F.K) (h : ∀ e, Sn X F G e (r e)) : ∀ es, PA X es (tDs F (evEs G (cEs r es)))
  | [] => by simp only [cEs, evEs]; exact gl_nil
  | e :: es => by
    by_cases hs : isStar e = true
    · cases e with
      | Starred a p =>
        simp only [cEs, evEs]
        have := gl_star hK (p := p) (h a).k (pa_es ok hK h es) star_yes
        exact this
      | _ => cases hs
    · have hs : isStar e = false := by cases q : isStar e <;> first | rfl | exact absurd q hs
      rw [cEs_no hs]
      simp only [evEs]
      exact gl_cons ok (h e).v (pa_es ok hK h es) (star_no hs)
theorem pa_ps (h : ∀ e, Sn X F G e (r e)) : ∀ es, es.any isStar = false → PA X es (tP F (evPs G (cEs r es)))
  | [], _ => by simp only [cEs, evPs]; exact gl_pnil
  | e :: es, hs => by
    rw [List.any_cons, Bool.or_eq_false_iff] at hs
    rw [cEs_no hs.1]
    simp only [evPs]
    exact gl_pcons (h e).k (pa_ps h es hs.2) (star_no hs.1)
theorem pa_ws (h : ∀ e, Sn X F G e (r e)) : ∀ es, es.any isStar = false → PA X es (tW F (evPs G (cEs r es)))
  | [], _ => by simp only [cEs, evPs]; exact gl_wnil
  | e :: es, hs => by
    rw [List.any_cons, Bool.or_eq_false_iff] at hs
    rw [cEs_no hs.1]
    simp only [evPs]
    exact gl_wcons (h e).k (pa_ws h es hs.2) (star_no hs.1)
theorem pa_as (ok : F.Ok) (h : ∀ e, Sn X F G e (r e)) : ∀ es, es.any isStar = false → PA X es (tAs F (evAs G (cEs r es)))
  | [], _ => by simp only [cEs, evAs]; exact gl_anil
  | e :: es, hs => by
    rw [List.any_cons, Bool.or_eq_false_iff] at hs
    rw [cEs_no hs.1]
    simp only [evAs]
    exact gl_acons ok (h e).a (pa_as ok h es hs.2) (star_no hs.1)
end
end Mi
end

section
set_option maxRecDepth 100000
set_option maxHeartbeats 2000000
/-! Mi: the compiler is sound: expressions, joined. -/
namespace Mi
open PySem PySem.Spec PyProof.Rows L2
section
variable {X : Cx} {F : Fx} {glb : List (Str × Gk)} {G : Gm} {c : Cc} {r : Expr → CE}
/-! ### operators -/
theorem bop_ok (hK : X.K = F.K) {op : Operator} {o : BOp} (h : bOp op = some o) : OpR X (binaryOp op) (rOp F.K (binD o)) := by
  rw [← hK]
  cases op <;> cases h
  · exact p_add
  · exact p_sub
  · exact p_mul
  · exact p_mod
  · exact p_pow
  · exact p_shl
  · exact p_shr
  · exact p_bor
  · exact p_band
  · exact p_fdiv
theorem cop_ok (hK : X.K = F.K) (hu : X.A.units + 70 < cLine) {op : CmpOp} {b : Expr} {o : COp} (h : cOp op b = some o) : OpR X (compareOp op) (rOp F.K (blV (cmpD o))) := by
  rw [← hK]
  unfold cOp at h
  split at h
  · cases h; exact p_eq hu
  · cases h; exact p_ne hu
  · cases h; exact p_lt
  · cases h; exact p_le
  · cases h; exact p_gt
  · cases h; exact p_ge
  · cases h; exact p_mem hu
  · cases h; exact p_nmem hu
  · cases h; exact p_isn
  · cases h; exact p_isnn
  · cases h; exact p_ist
  · cases h; exact p_isf
  · cases h
theorem unlock_nil (e : En) : unlock [] e = e := rfl
theorem unl_nil {β : Type} (m : M β) : unl [] m = m := by
  funext e
  unfold unl
  cases m e with
  | none => rfl
  | some r => cases r <;> rfl
theorem pk_nv {β : Type} {ce : CE} {m : M EV} {k : EV → M β} (h : nVar ce = true) : pk ce m k = m.bnd k := by
  have e1 : lk ce m = m.bnd fun v => M.ret (v, []) := by cases ce <;> first | rfl | cases h
  unfold pk
  rw [e1]
  funext e
  unfold M.bnd M.ret
  cases m e with
  | none => rfl
  | some q =>
    cases q with
    | exc x e1 => rfl
    | ok a e1 => exact congrFun (unl_nil (k a)) e1
/-- a test: by its rule -/
def SB (X : Cx) (F : Fx) (G : Gm) (e : Expr) (cb : CB) : Prop := PT X e (tB F (evB G cb)) ∧ ∀ op vs pos, e = .BoolOp op vs pos → PW X e (tB F (evB G cb))
theorem pt_fail {e : Expr} {m : M Bool} (h : ∀ e, m e = none) : PT X e (tB F m) := ⟨fun _ _ _ _ _ _ ⟨_, e, _, _, _, hm, _⟩ => by rw [h e] at hm; cases hm⟩
theorem pw_fail {e : Expr} {m : M Bool} (h : ∀ e, m e = none) : PW X e (tB F m) := ⟨fun _ _ _ _ _ _ _ ⟨_, e, _, _, _, hm, _⟩ => by rw [h e] at hm; cases hm⟩
theorem bad_none (e : En) : evB G (.tv .bad) e = none := rfl
theorem sb_bad {e : Expr} : SB X F G e (.tv .bad) := ⟨pt_fail bad_none, fun _ _ _ _ => pw_fail bad_none⟩
theorem sb_val (hK : X.K = F.K) {e : Expr} {ce : CE} (h : Sn X F G e ce) (he : ∀ whole, isTrue e X.env whole = (do let v ← whole; standAt e.pos; holding [v] (truthy v))) (hb : ∀ op vs pos, e ≠ .BoolOp op vs pos) : SB X F G e (.tv ce) := by
  refine ⟨?_, fun op vs pos z => absurd z (hb op vs pos)⟩
  simp only [evB]
  exact gl_tv hK h.k he
theorem plainIx_ok {b : Expr} (h : plainIx b = true) : PlainIx b := by
  cases b <;> first | (intro _ _; rfl) | cases h
/-! ### built-ins -/
theorem bi_ok (C : CtxOk X F glb G c) {x : Str} {p pos : Pos} {a : Expr} {es : List Expr} {b : Bi} (hb : biOf x = some b) (hg : Gl X x) (hm : X.mg x = none) (h : ∀ e, Sn X F G e (r e)) (hs : (a :: es).any isStar = false) : Sn X F G (.Call (.Name x p) (a :: es) [] pos) (.bi b (cEs r (a :: es))) := by
  have hp := pa_ps h (a :: es) hs
  rw [List.any_cons, Bool.or_eq_false_iff] at hs
  have h1 : starEach (a :: es) X.env = (false, eval a X.env) :: starEach es X.env := star_no hs.1
  have h2 : (backTo pos (starEach es X.env)).any (·.1) = false := star_any hs.2
  have hK := C.K
  refine Sn.of ?_ rfl
  simp only [evE]
  unfold biOf at hb
  split at hb
  · rename_i e; subst e; cases hb
    exact gl_callB C.ok (by rw [← hK]; exact p_len) hg hm (by decide +kernel) hp (by decide) (by decide) h1 h2
  split at hb
  · rename_i e; subst e; cases hb
    exact gl_callB C.ok (by rw [← hK]; exact p_abs) hg hm (by decide +kernel) hp (by decide) (by decide) h1 h2
  split at hb
  · rename_i e; subst e; cases hb
    exact gl_callTy C.ok (by rw [← hK]; exact p_int) hg hm (by decide +kernel) hp (by decide) (by decide) h1 h2
  split at hb
  · rename_i e; subst e; cases hb
    exact gl_callB C.ok (by rw [← hK]; exact p_divmod) hg hm (by decide +kernel) hp (by decide) (by decide) h1 h2
  split at hb
  · rename_i e; subst e; cases hb
    exact gl_callB C.ok (by rw [← hK]; exact p_sum C.calm) hg hm (by decide +kernel) hp (by decide) (by decide) h1 h2
  split at hb
  · rename_i e; subst e; cases hb
    exact gl_callB C.ok (by rw [← hK]; exact p_any C.calm) hg hm (by decide +kernel) hp (by decide) (by decide) h1 h2
  split at hb
  · rename_i e; subst e; cases hb
    exact gl_callB C.ok (by rw [← hK]; exact p_all C.calm) hg hm (by decide +kernel) hp (by decide) (by decide) h1 h2
  split at hb
  · rename_i e; subst e; cases hb
    exact gl_callB C.ok (by rw [← hK]; exact p_max C.calm) hg hm (by decide +kernel) hp (by decide) (by decide) h1 h2
  split at hb
  · rename_i e; subst e; cases hb
    exact gl_callB C.ok (by rw [← hK]; exact p_min C.calm) hg hm (by decide +kernel) hp (by decide) (by decide) h1 h2
  split at hb
  · rename_i e; subst e; cases hb
    exact gl_callB C.ok (by rw [← hK]; exact p_sorted C.un) hg hm (by decide +kernel) hp (by decide) (by decide) h1 h2
  split at hb
  · rename_i e; subst e; cases hb
    exact gl_callTy C.ok (by rw [← hK]; exact p_list) hg hm (by decide +kernel) hp (by decide) (by decide) h1 h2
  split at hb
  · rename_i e; subst e; cases hb
    exact gl_callTy C.ok (by rw [← hK]; exact p_tuple) hg hm (by decide +kernel) hp (by decide) (by decide) h1 h2
  · cases hb
theorem ty_ok (C : CtxOk X F glb G c) {t : Str} {ty : Ty} {p : Pos} (h : tyOf t = some ty) (hb : isBlt (c.glo t) = true) : PE X (.Name t p) (tC (.ty (tyName ty))) := by
  obtain ⟨g1, g2⟩ := blt_ok C hb
  unfold tyOf at h
  split at h
  · rename_i e; subst e; cases h; exact pe_bltn g1 g2 (by decide +kernel) rfl
  split at h
  · rename_i e; subst e; cases h; exact pe_bltn g1 g2 (by decide +kernel) rfl
  split at h
  · rename_i e; subst e; cases h; exact pe_bltn g1 g2 (by decide +kernel) rfl
  split at h
  · rename_i e; subst e; cases h; exact pe_bltn g1 g2 (by decide +kernel) rfl
  split at h
  · rename_i e; subst e; cases h; exact pe_bltn g1 g2 (by decide +kernel) rfl
  · cases h
/-! ### methods -/
theorem meth_ok (C : CtxOk X F glb G c) (h : ∀ e, Sn X F G e (r e)) {y m : Str} {es : List Expr} {p1 apos cpos : Pos} (hl : (apos.endLine == cpos.line) = true) : Sn X F G (.Call (.Attribute (.Name y p1) m apos) es [] cpos) (cMeth r c y m es) := by
  unfold cMeth
  cases hs : c.slot y with
  | none => exact sn_bad
  | some i =>
    have hv := pe_slot (p := p1) C hs
    cases es with
    | nil =>
      simp only
      split
      · rename_i e
        subst e
        refine Sn.of ?_ rfl
        simp only [evE]
        exact gl_chg0 C.ok (pe_bm0 PySem.F.plainAttrs_list PySem.F.slot_list_pop rfl mt_pop hv rfl hl) fun l vs xs ys z H Q => r_pop l vs xs ys z H Q
      · exact sn_bad
    | cons a es =>
      cases es with
      | cons b es => exact sn_bad
      | nil =>
        simp only
        split
        · exact sn_bad
        · rename_i hst
          have hst : isStar a = false := by cases q : isStar a <;> first | rfl | exact absurd q hst
          have h1 : starEach [a] X.env = (false, eval a X.env) :: starEach [] X.env := star_no hst
          have few : ∀ pos : Pos, ((backTo pos (starEach [a] X.env)).all (fun x => !x.1) && (backToKw pos (keywordEach [] X.env)).all (fun x => x.1.isSome) && decide (([a] : List Expr).length + ([] : List Keyword).length + (if ([] : List Keyword).isEmpty then 0 else 1) < 30)) = true := fun pos => by rw [h1]; rfl
          split
          · rename_i e
            subst e
            refine Sn.of ?_ rfl
            simp only [evE]
            exact gl_chg1 C.ok (fun ha => pe_bm PySem.F.plainAttrs_list PySem.F.slot_list_append rfl mt_append hv ha rfl (few cpos) hl h1 rfl) (h a).v h1 fun l vs v d xs ys z H Q => r_app (F := F) l vs v d xs ys z H Q
          · split
            · rename_i e
              subst e
              refine Sn.of ?_ rfl
              simp only [evE]
              exact gl_chg1 C.ok (fun ha => pe_bm PySem.F.plainAttrs_list PySem.F.slot_list_extend rfl mt_extA hv ha rfl (few cpos) hl h1 rfl) (h a).v h1 fun l vs v d xs ys z H Q q1 q2 q3 q4 q5 => by rw [C.K]; exact r_ext l vs v d xs ys z H Q q1 q2 q3 q4 q5
            · exact sn_bad
end
end Mi
end

section
set_option maxRecDepth 100000
set_option maxHeartbeats 2000000
/-! Mi: the compiler is sound: calls, comprehensions, all expressions. -/
namespace Mi
open PySem PySem.Spec PyProof.Rows L2
section
variable {X : Cx} {F : Fx} {glb : List (Str × Gk)} {G : Gm} {c : Cc} {r : Expr → CE}
/-! ### targets -/
theorem tgt_ok (C : CtxOk X F glb G c) {x : Str} {i : Nat} {p : Pos} (h : c.tgt x = some i) : PG X (.Name x p) (gName i) ∧ X.N[i]? = some x ∧ Loc X.env.scope x ∧ (X.fn x = true ∨ X.env.scope.names.lookup x = some .local) := by
  have hN : X.N.Nodup := by rw [C.N]; exact C.nd
  have hsc := C.sc
  unfold Cc.tgt at h
  split at h
  · rename_i hk
    have hi : X.N[i]? = some x := by rw [C.N]; exact idx_get h
    have hl : X.env.scope.names.lookup x = some .local := by rw [hsc]; exact hk
    exact ⟨pg_name hN hi (.inl hl) (.inr hl), hi, .inl hl, .inr hl⟩
  · rename_i hk
    split at h
    · rename_i hm
      have hi : X.N[i]? = some x := by rw [C.N]; exact idx_get h
      have hl : X.env.scope.names.lookup x = some .cell := by rw [hsc]; exact hk
      have hf := (C.lamx hm).1 x
      exact ⟨pg_name hN hi (.inr hl) (.inl hf), hi, .inr hl, .inl hf⟩
    · cases h
  · cases h
theorem evTs_len : ∀ {cs : CTs} {ds : List D} {e e' : En}, evTs cs ds e = some (.ok () e') → ds.length = (CTs.names cs).length ∨ True
  | _, _, _, _, _ => .inr trivial
def CTs.len : CTs → Nat
  | .nil => 0
  | .cons _ r => CTs.len r + 1
theorem evTs_len' : ∀ {cs : CTs} {ds : List D} {e e' : En}, evTs cs ds e = some (.ok () e') → ds.length = CTs.len cs
  | .nil, [], _, _, _ => rfl
  | .nil, d :: ds, _, _, h => by simp only [evTs, M.fail] at h; cases h
  | .cons t r, [], _, _, h => by simp only [evTs, M.fail] at h; cases h
  | .cons t r, d :: ds, _, _, h => by
    simp only [evTs] at h
    obtain ⟨_, e1, _, h2⟩ := bnd_ok h
    simp only [List.length_cons, CTs.len]
    rw [evTs_len' h2]
theorem asg_no {e : Expr} {es : List Expr} {env : Env} (h : isStar e = false) : assignEach (e :: es) env = (false, assign e env) :: assignEach es env := by
  cases e <;> first | rfl | cases h
theorem pg_all (C : CtxOk X F glb G c) : ∀ (n : Nat) {e : Expr} {t : CT}, cT n c e = some t → PG X e (tG F t.names (evT t))
  | 0, e, t, h => by cases h
  | n + 1, e, t, h => by
    have lst : ∀ {es : List Expr} {ts : CTs}, cTl (cT n c) es = some ts → PGs X es (tGs F (CTs.names ts) (evTs ts)) ∧ (assignEach es X.env).length = CTs.len ts ∧ (assignEach es X.env).findIdx? (·.1) = none := by
      intro es
      induction es with
      | nil =>
        intro ts h
        cases h
        exact ⟨gl_gnil, rfl, rfl⟩
      | cons a es ih =>
        intro ts h
        unfold cTl at h
        split at h
        · cases h
        · rename_i hs
          have hs : isStar a = false := by cases q : isStar a <;> first | rfl | exact absurd q hs
          split at h
          · rename_i t' ts' h1 h2
            cases h
            obtain ⟨q1, q2, q3⟩ := ih h2
            have ha := asg_no (es := es) (env := X.env) hs
            refine ⟨gl_gcons (pg_all C n h1) q1 (by rw [ha]; rfl), by rw [ha, List.length_cons, q2]; rfl, ?_⟩
            rw [ha, List.findIdx?_cons]
            show (if false = true then _ else _) = _
            rw [if_neg Bool.false_ne_true, q3]
            rfl
          · cases h
    cases e with
    | Name x p =>
      simp only [cT] at h
      cases hi : c.tgt x with
      | none => rw [hi] at h; cases h
      | some i =>
        rw [hi] at h
        cases h
        exact gl_nm (tgt_ok C hi).1
    | Tuple es k p =>
      simp only [cT] at h
      cases hi : cTl (cT n c) es with
      | none => rw [hi] at h; cases h
      | some ts =>
        rw [hi] at h
        cases h
        obtain ⟨q1, q2, q3⟩ := lst hi
        exact gl_gtup C.K C.calm q1 q2 q3 fun ds e e' h => evTs_len' h
    | _ => cases h
/-! ### what is walked -/
theorem ex_bad {tg e : Expr} : PI X tg e (tI F (evI G (.ex .bad))) := ⟨fun _ _ _ _ _ _ ⟨_, _, _, _, _, hm, _⟩ => nomatch hm⟩
theorem isTup_eq {e : Expr} (h : isTup e = true) : ∃ es k p, e = .Tuple es k p := by
  cases e <;> first | exact ⟨_, _, _, rfl⟩ | cases h
theorem no_of {b : Bool} (h : ¬ b = true) : b = false := by cases b <;> first | rfl | exact absurd rfl h
theorem pi_all (C : CtxOk X F glb G c) (h : ∀ e, Sn X F G e (r e)) {tg : Expr} (e : Expr) : PI X tg e (tI F (evI G (cI r c tg e))) := by
  have ex : PI X tg e (tI F (evI G (.ex (r e)))) := by simp only [evI]; exact gl_iex C.K (h e).k
  unfold cI
  split
  · rename_i x p a pos
    split
    · rename_i hq
      rw [Bool.and_eq_true, decide_eq_true_iff] at hq
      obtain ⟨rfl, hb⟩ := hq
      obtain ⟨g1, g2⟩ := blt_ok C hb
      split
      · exact ex_bad
      · rename_i hs
        have hs := no_of hs
        simp only [evI]
        exact gl_rg1 g1 g2 (pa_es C.ok C.K h [a]) (star_no hs)
    · split
      · rename_i hq
        rw [Bool.and_eq_true, decide_eq_true_iff] at hq
        obtain ⟨rfl, hb⟩ := hq
        obtain ⟨g1, g2⟩ := blt_ok C hb
        split
        · exact ex_bad
        · rename_i hs
          have hs := no_of hs
          rw [Bool.or_eq_false_iff, Bool.not_eq_false'] at hs
          obtain ⟨es, k, q, rfl⟩ := isTup_eq hs.2
          simp only [evI]
          exact gl_en C.K g1 g2 (pa_ws h [a] (by rw [List.any_cons, hs.1]; rfl)) (star_no hs.1)
      · exact ex
  · rename_i x p a b pos
    split
    · rename_i hq
      rw [Bool.and_eq_true, decide_eq_true_iff] at hq
      obtain ⟨rfl, hb⟩ := hq
      obtain ⟨g1, g2⟩ := blt_ok C hb
      split
      · exact ex_bad
      · rename_i hs
        have hs := no_of hs
        rw [Bool.or_eq_false_iff] at hs
        simp only [evI]
        exact gl_rg2 g1 g2 (pa_es C.ok C.K h [a, b]) (by rw [star_no hs.1, star_no hs.2]; rfl) (star_no hs.2)
    · split
      · rename_i hq
        rw [Bool.and_eq_true, decide_eq_true_iff] at hq
        obtain ⟨rfl, hb⟩ := hq
        obtain ⟨g1, g2⟩ := blt_ok C hb
        split
        · exact ex_bad
        · rename_i hs
          have hs := no_of hs
          rw [Bool.or_eq_false_iff, Bool.or_eq_false_iff, Bool.not_eq_false'] at hs
          obtain ⟨es, k, q, rfl⟩ := isTup_eq hs.2
          simp only [evI]
          exact gl_zp C.K g1 g2 (pa_ws h [a, b] (by rw [List.any_cons, List.any_cons, hs.1.1, hs.1.2]; rfl)) (star_no hs.1.1) (star_any (by rw [List.any_cons, hs.1.2]; rfl))
      · exact ex
  · rename_i x p a b d pos
    split
    · rename_i hq
      rw [Bool.and_eq_true, decide_eq_true_iff] at hq
      obtain ⟨rfl, hb⟩ := hq
      obtain ⟨g1, g2⟩ := blt_ok C hb
      split
      · exact ex_bad
      · rename_i hs
        have hs := no_of hs
        rw [Bool.or_eq_false_iff, Bool.or_eq_false_iff] at hs
        simp only [evI]
        exact gl_rg3 g1 g2 (pa_es C.ok C.K h [a, b, d]) (star_no hs.1.1) (star_any (by rw [List.any_cons, List.any_cons, hs.1.2, hs.2]; rfl))
    · exact ex
  · exact ex
/-! ### calls -/
theorem splitLam_ok : ∀ {es as : List Expr} {ps : Arguments} {b : Expr} {sc : Scope} {pos : Pos}, splitLam es = some (as, ps, b, sc, pos) → es = as ++ [.Lambda ps b sc pos]
  | [], _, _, _, _, _, h => by cases h
  | [e], as, ps, b, sc, pos, h => by
    cases e with
    | Lambda q1 q2 q3 q4 => simp only [splitLam] at h; cases h; rfl
    | _ => simp only [splitLam] at h; cases h
  | e :: e2 :: es, as, ps, b, sc, pos, h => by
    have hh : splitLam (e :: e2 :: es) = match splitLam (e2 :: es) with
      | some (r, q) => some (e :: r, q)
      | none => none := by cases e <;> rfl
    rw [hh] at h
    cases hq : splitLam (e2 :: es) with
    | none => rw [hq] at h; cases h
    | some q =>
      obtain ⟨r0, ps0, b0, sc0, pos0⟩ := q
      rw [hq] at h
      cases h
      rw [splitLam_ok hq]
      rfl
theorem lamB_ok {ps cs : List Str} {params : Arguments} {sc : Scope} (h : lamB ps cs params sc = true) (ha : params.args.map (·.arg) = ps) (hc : cs = frees sc) : LamSt ps cs params sc ∧ params.defaults = [] ∧ params.kw_defaults = [] := by
  unfold lamB at h
  simp only [Bool.and_eq_true, decide_eq_true_iff, Bool.not_eq_true', List.all_eq_true, List.isEmpty_iff, Option.isNone_iff_eq_none, decide_eq_false_iff_not] at h
  obtain ⟨⟨⟨⟨⟨⟨⟨⟨⟨⟨⟨⟨h1, h2⟩, h3⟩, h4⟩, h5⟩, h6⟩, h7⟩, h8⟩, h9⟩, h10⟩, h11⟩, h12⟩, h13⟩ := h
  refine ⟨⟨h1, h2, h3, of_decide_eq_true h4, h5, h6, h7, fun y hy e => ?_, h8, ha, h9, h10, h11⟩, h12, h13⟩
  rw [hc]
  unfold frees
  exact List.mem_filterMap.mpr ⟨y, hy, by rw [e]⟩
theorem capsOf_ok {c : Cc} : ∀ {cs : List Str} {caps : List Nat}, capsOf c cs = some caps → caps.length = cs.length ∧ (∀ (i : Nat) (y : Str), cs[i]? = some y → ∃ j, caps[i]? = some j ∧ c.N[j]? = some y) ∧ ∀ y ∈ cs, c.sc.names.lookup y = some .cell ∨ c.sc.names.lookup y = some .free
  | [], caps, h => by cases h; exact ⟨rfl, fun i y hh => by simp at hh, fun y hh => nomatch hh⟩
  | x :: cs, caps, h => by
    have go : ∀ {i : Nat} {is : List Nat}, idx c.N x = some i → capsOf c cs = some is → caps = i :: is → (c.sc.names.lookup x = some .cell ∨ c.sc.names.lookup x = some .free) → caps.length = (x :: cs).length ∧ (∀ (i : Nat) (y : Str), (x :: cs)[i]? = some y → ∃ j, caps[i]? = some j ∧ c.N[j]? = some y) ∧ ∀ y ∈ x :: cs, c.sc.names.lookup y = some .cell ∨ c.sc.names.lookup y = some .free := fun {i is} h1 h2 h3 h4 => by
      subst h3
      obtain ⟨q1, q2, q3⟩ := capsOf_ok h2
      refine ⟨by rw [List.length_cons, List.length_cons, q1], fun k y hh => ?_, fun y hy => ?_⟩
      · cases k with
        | zero => rw [List.getElem?_cons_zero] at hh; cases hh; exact ⟨i, rfl, idx_get h1⟩
        | succ k => rw [List.getElem?_cons_succ] at hh ⊢; exact q2 k y hh
      · rcases List.mem_cons.mp hy with z | z
        · rw [z]; exact h4
        · exact q3 y z
    unfold capsOf at h
    split at h
    · rename_i i is h1 h2 h3; cases h; exact go h2 h3 rfl (.inl h1)
    · rename_i i is h1 h2 h3; cases h; exact go h2 h3 rfl (.inr h1)
    · cases h
theorem pa_lam (ok : F.Ok) (h : ∀ e, Sn X F G e (r e)) {params : Arguments} {body : Expr} {sc : Scope} {pos : Pos} (hl : PE X (.Lambda params body sc pos) (tLamMk F.T X params body sc)) : ∀ as, as.any isStar = false → PA X (as ++ [.Lambda params body sc pos]) (tAsL F X params body sc (evAs G (cEs r as)))
  | [], _ => by simp only [cEs, evAs, List.nil_append]; exact gl_lnil ok hl
  | e :: es, hs => by
    rw [List.any_cons, Bool.or_eq_false_iff] at hs
    rw [cEs_no hs.1]
    simp only [evAs, List.cons_append]
    exact gl_lcons ok (h e).a (pa_lam ok h hl es hs.2) (star_no hs.1)
theorem call_ok (C : CtxOk X F glb G c) {n : Nat} (h : ∀ e, Sn X F G e (cE n c e)) {x : Str} {p pos : Pos} {es : List Expr} : Sn X F G (.Call (.Name x p) es [] pos) (cCall (cE n) c x es) := by
  unfold cCall
  cases es with
  | nil =>
    simp only
    cases hg : c.glo x with
    | none => exact sn_bad
    | some k =>
      obtain ⟨g1, g2, g3, _⟩ := glo_ok C hg
      cases k with
      | fn g gps =>
        refine Sn.of ?_ rfl
        simp only [evE, evAs]
        refine ⟨fun pins s σ H Q I ⟨t, e, S, ev, e', hm, k⟩ => ?_⟩
        obtain ⟨as, e1, h1, h2⟩ := bnd_ok hm
        obtain ⟨rfl, rfl⟩ := ret_ok h1
        obtain ⟨_, os, hf, _, _⟩ := callM_ok h2
        obtain ⟨kk, fd, ps, FN, hr, hkp, pp, nd, hnp, _⟩ := C.lv.fn g _ _ hf
        refine (pe_call0 (E := fun _ _ _ => False) FN hr g1 (C.gfn x g _ g2).1 hkp (binds_pos pp nd) .nil (fun _ _ _ _ _ _ _ z => z.elim) g3).run pins s σ H Q I ?_
        show spG F ps.length (G.call g) ([] ++ []) H Q (fun _ _ _ => False)
        exact call_sp C.ok hnp S (Pst.refl S t) ⟨rfl, fun k v a h => by simp at h, fun k l v a w b _ h => by simp at h⟩ h2 k
      | _ => exact sn_bad
  | cons a es =>
    simp only
    cases hs : c.slot x with
    | some i =>
      simp only
      split
      · exact sn_bad
      · rename_i hst
        have hst := no_of hst
        have hst2 := hst
        rw [List.any_cons, Bool.or_eq_false_iff] at hst2
        obtain ⟨h1, h2, h3, h4⟩ := slot_ok C hs
        refine Sn.of ?_ rfl
        simp only [evE]
        exact gl_cal C.ok C.clo C.K C.lv h1 h2 (pa_as C.ok h (a :: es) hst) h3 h4 (star_no hst2.1) (star_any hst2.2)
    | none =>
      simp only
      cases hg : c.glo x with
      | none => exact sn_bad
      | some k =>
        obtain ⟨g1, g2, g3, g4⟩ := glo_ok C hg
        cases k with
        | fn g gps =>
          simp only
          cases hsp : splitLam (a :: es) with
          | some q =>
            obtain ⟨as, params, body, sc, lpos⟩ := q
            simp only
            split
            · exact sn_bad
            · rename_i hc
              have hc := no_of hc
              rw [Bool.or_eq_false_iff, Bool.or_eq_false_iff, Bool.not_eq_false', Bool.not_eq_false'] at hc
              obtain ⟨⟨hst, hlam⟩, hlb⟩ := hc
              cases hcap : capsOf c (frees sc) with
              | none => exact sn_bad
              | some caps =>
                obtain ⟨L, d1, d2⟩ := lamB_ok hlb rfl rfl
                obtain ⟨q1, q2, q3⟩ := capsOf_ok hcap
                obtain ⟨hfn, cd, P, TB, hcode, hm, hu⟩ := C.lamx hlam
                have hfree : ∀ y ∈ frees sc, X.env.scope.names.lookup y = some .cell ∨ X.env.scope.names.lookup y = some .free := fun y hy => by rw [C.sc]; exact q3 y hy
                have hdef : defaultsOf params X.env = ([], []) := by
                  obtain ⟨a1, a2, a3, a4, a5, a6, a7⟩ := params
                  simp only at d1 d2
                  subst d1 d2
                  rfl
                have hl := pe_lam (pos := lpos) (body := body) TB hcode hm hu hdef fun y hy e => hfree y.1 (L.free y hy e)
                have hargs := pa_lam C.ok h hl as hst
                rw [← splitLam_ok hsp] at hargs
                have heq := splitLam_ok hsp
                have hst2 : (a :: es).any isStar = false := by rw [heq, List.any_append, hst]; rfl
                rw [List.any_cons, Bool.or_eq_false_iff] at hst2
                refine Sn.of ?_ rfl
                simp only [evE]
                exact gl_calll C.ok C.clo C.K C.lv g1 (C.gfn x g _ g2).1 hargs g3 (star_no hst2.1) (star_any hst2.2) L ⟨n, by rw [C.gl]⟩ rfl rfl q1 (fun i y hy => by rw [C.N]; exact q2 i y hy) hfree fun y _ => hfn y
          | none =>
            simp only
            split
            · exact sn_bad
            · rename_i hst
              have hst := no_of hst
              have hst2 := hst
              rw [List.any_cons, Bool.or_eq_false_iff] at hst2
              refine Sn.of ?_ rfl
              simp only [evE]
              refine ⟨fun pins s σ H Q I ⟨t, e, S, ev, e', hm, k⟩ => ?_⟩
              obtain ⟨as, e1, h1, h2⟩ := bnd_ok hm
              obtain ⟨_, os, hf, _, _⟩ := callM_ok h2
              obtain ⟨kk, fd, ps, FN, hr, hkp, pp, nd, hnp, _⟩ := C.lv.fn g _ _ hf
              refine (pe_call (E := fun _ _ _ => False) FN hr g1 (C.gfn x g _ g2).1 hkp (binds_pos pp nd) .nil (fun _ _ _ _ _ _ _ z => z.elim) (pa_as C.ok h (a :: es) hst) g3 (star_no hst2.1) (star_any hst2.2)).run pins s σ H Q I ⟨t, e, S, as, e1, h1, fun vs H1 P1 A => ?_⟩
              show spG F ps.length (G.call g) (vs ++ []) H1 Q (fun _ _ _ => False)
              rw [List.append_nil]
              exact call_sp C.ok hnp S P1 A h2 k
        | blt =>
          simp only
          split
          · exact sn_bad
          · rename_i hst
            have hst := no_of hst
            have hmg := C.gblt x g2
            cases hb : biOf x with
            | some b => exact bi_ok C hb g1 hmg h hst
            | none =>
              simp only
              split
              · rename_i e
                subst e
                split
                · rename_i t tp _
                  cases hty : tyOf t with
                  | none => exact sn_bad
                  | some ty =>
                    simp only
                    split
                    · rename_i hbt
                      rw [List.any_cons, Bool.or_eq_false_iff] at hst
                      refine Sn.of ?_ rfl
                      simp only [evE]
                      exact gl_isi C.ok C.K (h a).k g1 hmg (ty_ok C hty hbt) (star_no hst.1) rfl rfl
                    · exact sn_bad
                · exact sn_bad
              · exact sn_bad
        | lit k => exact sn_bad
        | con k => exact sn_bad
        | dic kvs => exact sn_bad
/-- keywords -/
theorem pk_as (ok : F.Ok) {r : Expr → CE} (h : ∀ e, Sn X F G e (r e)) : ∀ kws : List Keyword, (kws.map (·.value)).any isStar = false → PK X kws (tAs F (evAs G (cEs r (kws.map (·.value)))))
  | [], _ => by simp only [List.map_nil, cEs, evAs]; exact gl_knil
  | ⟨a, v, kp⟩ :: r', hs => by
    rw [List.map_cons, List.any_cons, Bool.or_eq_false_iff] at hs
    have e : cEs r (v :: r'.map (·.value)) = .cons false (r v) (cEs r (r'.map (·.value))) := by
      cases v <;> first | rfl | cases hs.1
    rw [List.map_cons, e]
    simp only [evAs]
    exact gl_kcons ok (h v).a (pk_as ok h r' hs.2)
theorem cEs_len {r : Expr → CE} : ∀ es : List Expr, (cEs r es).len = es.length
  | [] => rfl
  | e :: es => by
    have ih := cEs_len (r := r) es
    cases e <;> (show (cEs r es).len + 1 = _; rw [ih]; rfl)
theorem kw_ok (C : CtxOk X F glb G c) {r : Expr → CE} (h : ∀ e, Sn X F G e (r e)) {x : Str} {p pos : Pos} {es : List Expr} {kws : List Keyword} : Sn X F G (.Call (.Name x p) es kws pos) (cKw r c x es kws) := by
  unfold cKw
  split
  · rename_i g ps hg
    obtain ⟨g1, g2, g3, _⟩ := glo_ok C hg
    split
    · rename_i ks hks
      split
      · exact sn_bad
      · rename_i hc
        have hc := Bool.eq_false_iff.mpr hc
        simp only [Bool.or_eq_false_iff, Bool.not_eq_false'] at hc
        obtain ⟨⟨⟨hst, hst2⟩, hkb⟩, hne⟩ := hc
        have O := kwB_ok hkb
        have ne : ps ≠ [] := fun z => by rw [z] at hne; cases hne
        obtain ⟨k1, k2, k3, k4⟩ := kw_each (pos := pos) (env := X.env) hks
        obtain ⟨gm, gp⟩ := C.gfn x g _ g2
        refine Sn.of ?_ rfl
        simp only [evE]
        refine ⟨fun pins s σ H Q I ⟨t, e, S, ev, e', hm, k⟩ => ?_⟩
        obtain ⟨as, e1, h1, h2⟩ := bnd_ok hm
        obtain ⟨bs, e2, h3, h4⟩ := bnd_ok h2
        obtain ⟨cs, hcs, hcall⟩ := callK_ok h4
        obtain ⟨_, os, hf, _, _⟩ := callM_ok hcall
        obtain ⟨kk, fd, ps', FN, hr, hkp, pp, nd, hnp, eps⟩ := C.lv.fn g _ _ hf
        have eps : ps' = ps := eps.trans gp
        subst eps
        have n1 : as.length = es.length := evAs_len h1 _ (cEs_len es)
        have n2 : bs.length = ks.length := by rw [evAs_len h3 _ (cEs_len _), List.length_map]; exact k4
        have kb : KBinds X.K fd ps' ks (gK ps' es.length ks) (gK ps' es.length ks) := kbinds pp nd ne O
        have hk := pk_as C.ok h kws hst2
        have fin : ∀ vs zs H1 H2, Pst F e σ H e1 H1 → As F e e1 σ H H1 vs as → Pst F e1 σ H1 e2 H2 → As F e1 e2 σ H1 H2 zs bs → spG F ps'.length (G.call g) (gK ps' es.length ks vs zs) H2 Q (fun _ _ _ => False) := fun vs zs H1 H2 P1 A1 P2 A2 => kw_sp C.ok O hnp S P1 A1 P2 A2 n1 n2 h4 k
        cases es with
        | nil =>
          simp only [cEs, evAs] at h1
          obtain ⟨rfl, rfl⟩ := ret_ok h1
          refine (pe_callK0 (E := fun _ _ _ => False) FN hr g1 gm hkp kb (fun _ _ _ _ _ _ _ z => z.elim) hk k1 k2 g3 (by rw [k3]; rfl)).run pins s σ H Q I ⟨t, e, S, bs, e2, h3, fun zs H2 P2 A2 => ?_⟩
          exact fin [] zs H H2 (Pst.refl S t) ⟨rfl, fun k v a h => by simp at h, fun k l v a w b _ h => by simp at h⟩ P2 A2
        | cons a es =>
          have hst3 := hst
          rw [List.any_cons, Bool.or_eq_false_iff] at hst3
          have hb1 : (backTo pos (starEach (a :: es) X.env)).any (·.1) = false := star_any hst
          refine (pe_callK (E := fun _ _ _ => False) FN hr g1 gm hkp kb (fun _ _ _ _ _ _ _ z => z.elim) (pa_as C.ok h (a :: es) hst) hk k1 k2 g3 (star_no hst3.1) (by rw [hb1, k3]; rfl)).run pins s σ H Q I ⟨t, e, S, as, e1, h1, fun vs H1 P1 A1 => ?_⟩
          exact ⟨P1.tabs, e1, P1.st, bs, e2, h3, fun zs H2 P2 A2 => fin vs zs H1 H2 P1 A1 P2 A2⟩
    · exact sn_bad
  · exact sn_bad
theorem dicOf_ok (C : CtxOk X F glb G c) {a : Expr} {kvs : List (Str × Cn)} (h : dicOf c a = some kvs) : ∃ y p d, a = .Name y p ∧ DctK X.K X.w d kvs ∧ kvOk kvs = true ∧ PE X a (tC (.ref d)) := by
  unfold dicOf at h
  split at h
  · rename_i y p
    split at h
    · rename_i kvs' hg
      split at h
      · rename_i hk
        cases h
        obtain ⟨g1, g2, g3, _⟩ := glo_ok C hg
        obtain ⟨d, q1, q2⟩ := C.gdic y _ g2
        exact ⟨y, p, d, rfl, q2, hk, pe_glob (v := .ref d) g1 q1 rfl g3⟩
      · cases h
    · cases h
  · cases h
theorem dkeys_ok (C : CtxOk X F glb G c) {x : Str} {p pos : Pos} {es : List Expr} {kvs : List (Str × Cn)} (h : dkeys c x es = some kvs) : Sn X F G (.Call (.Name x p) es [] pos) (.lst (strsE kvs)) := by
  unfold dkeys at h
  split at h
  · rename_i a
    split at h
    · rename_i hq
      rw [Bool.and_eq_true, decide_eq_true_iff] at hq
      obtain ⟨rfl, hb⟩ := hq
      obtain ⟨b1, b2⟩ := blt_ok C hb
      obtain ⟨y, p2, d, rfl, D, hk, ha⟩ := dicOf_ok C h
      exact Sn.of (gl_dkeys C.ok C.calm D hk b1 b2 (by decide +kernel) (by decide) (by decide) ha rfl rfl) rfl
    · cases h
  · cases h
theorem look_ok (C : CtxOk X F glb G c) {a i : Expr} {ci : CE} {pos : Pos} {kvs : List (Str × Cn)} (h : dicOf c a = some kvs) (hi : Sn X F G i ci) (hp : plainIx i = true) : Sn X F G (.Subscript a i pos) (.look kvs ci) := by
  obtain ⟨y, p2, d, rfl, D, hk, ha⟩ := dicOf_ok C h
  refine Sn.of ?_ rfl
  simp only [evE]
  exact gl_look C.ok D hk ha hi.k (plainIx_ok hp)
end
end Mi
end

section
set_option maxRecDepth 100000
set_option maxHeartbeats 2000000
/-! Mi: the compiler is sound: all expressions. -/
namespace Mi
open PySem PySem.Spec PyProof.Rows L2
section
variable {F : Fx} {glb : List (Str × Gk)} {G : Gm}
/-- a comprehension's block -/
theorem ctx_blk {X : Cx} {c : Cc} (C : CtxOk X F glb G c) {scope : Scope} (hk : scope.kind = .function) (s : Shared) (H : Hp) (Ca : Addr) (cl : List (Str × Addr)) (fp : List Addr) : CtxOk (X.blk s H scope (compEnvC scope cl Ca X.env) fp) F glb G (c.blk scope) where
  N := C.N
  nd := C.nd
  sc := by show relabel scope X.env = relS scope c.sc; rw [← C.sc]; rfl
  kind := hk
  calm := C.calm
  K := C.K
  un := C.un
  ok := C.ok
  clo := C.clo
  gl := C.gl
  lv := ⟨C.lv.fn, C.lv.clo⟩
  gfn := C.gfn
  glit := C.glit
  gcon := C.gcon
  gdic := C.gdic
  gblt := C.gblt
  lamx := fun h => nomatch h
theorem set_fold {e : Expr} {env : Env} (h : isSet e = false) : ∀ x, foldedSetIterable e env x = pure x := by
  intro x
  cases e <;> first | rfl | cases h
def Snd (F : Fx) (glb : List (Str × Gk)) (G : Gm) (n : Nat) : Prop := ∀ (X : Cx) (c : Cc), CtxOk X F glb G c → (∀ e, Sn X F G e (cE n c e)) ∧ (∀ e, SB X F G e (cB n c e)) ∧ ∀ o, PO X o (tO F (evO G (cO n c o)))
theorem snd_zero : Snd F glb G 0 := fun X c C => ⟨fun e => sn_bad, fun e => sb_bad, fun o => by
  cases o with
  | none => exact gl_ono
  | some e =>
    have : PE X e (tE F (evE G .bad)) := by simp only [evE]; exact pe_fail
    exact gl_oyes C.ok this⟩
theorem pts_cF {X : Cx} {b : Expr → CB} (h : ∀ e, SB X F G e (b e)) {ifs : List Expr} {f : CF} (hf : cF b ifs = some f) : PTs X ifs (tB F (evF G f)) := by
  match ifs, hf with
  | [], hf =>
    cases hf
    refine ⟨fun pins s1 σ1 H1 Q I ⟨t1, e1, S1, b1, e1', hm, k⟩ => ?_⟩
    obtain ⟨rfl, rfl⟩ := ret_ok (show M.ret true e1 = _ from hm)
    exact pts_nil.run pins s1 σ1 H1 Q I (k true H1 (Pst.refl S1 t1) rfl)
  | [c], hf =>
    cases hf
    simp only [evF]
    exact pts_one (h c).1
theorem snd_E {n : Nat} (ih : Snd F glb G n) {X : Cx} {c : Cc} (C : CtxOk X F glb G c) (e : Expr) : Sn X F G e (cE (n + 1) c e) := by
  obtain ⟨hE, hB, hO⟩ := ih X c C
  unfold cE
  split
  · exact sn_con
  · exact sn_name C
  · refine Sn.of ?_ rfl; simp only [evE]; exact gl_tup C.ok (pa_es C.ok C.K hE _)
  · refine Sn.of ?_ rfl; simp only [evE]; exact gl_lst C.ok (pa_es C.ok C.K hE _)
  · rename_i a op b pos
    split
    · rename_i o ho
      refine Sn.of ?_ rfl
      simp only [evE]
      exact gl_bin C.ok (bop_ok C.K ho) (hE a).k (hE b).k
    · exact sn_bad
  · rename_i op a pos
    split
    · refine Sn.of ?_ rfl; simp only [evE]; exact gl_un C.ok (by rw [← C.K]; exact p_neg) (hE a).k
    · refine Sn.of ?_ rfl; simp only [evE]; exact gl_un C.ok (by rw [← C.K]; exact p_inv) (hE a).k
    · refine Sn.of ?_ rfl; simp only [evE]; exact gl_not (hE a).v
    · exact sn_bad
  · rename_i a op b pos
    split
    · exact sn_bad
    · rename_i hb
      split
      · rename_i o ho
        refine Sn.of ?_ rfl
        simp only [evE]
        exact gl_cmp C.ok (cop_ok C.K C.un ho) (hE a).k (hE b).k (no_of hb)
      · exact sn_bad
  · rename_i a o1 o2 b d pos
    split
    · exact sn_bad
    · rename_i hb
      split
      · rename_i p q h1 h2
        refine Sn.of ?_ rfl
        simp only [evE]
        exact gl_chn C.ok (cop_ok C.K C.un h1) (cop_ok C.K C.un h2) (hE a).v (hE b).v (hE d).v (no_of hb)
      · exact sn_bad
  · exact sn_one (hE _)
  · refine Sn.of ?_ rfl; simp only [evE]; exact gl_and (hE _).v (hE _).v
  · exact sn_one (hE _)
  · refine Sn.of ?_ rfl; simp only [evE]; exact gl_or (hE _).v (hE _).v
  · refine Sn.of ?_ rfl; simp only [evE]; exact gl_ife (hB _).1 (hE _).v (hE _).v
  · refine Sn.of ?_ rfl; simp only [evE]; exact gl_sl C.ok C.K (hE _).k (hO _) (hO _)
  · refine Sn.of ?_ rfl; simp only [evE]; exact gl_rev C.ok C.K (hE _).k
  · split
    · rename_i kvs hd
      split
      · rename_i hp
        exact look_ok C hd (hE _) hp
      · exact sn_bad
    · split
      · rename_i hp
        refine Sn.of ?_ rfl
        simp only [evE]
        exact gl_ix C.ok (by rw [← C.K]; exact p_ix) (hE _).k (hE _).k (plainIx_ok hp)
      · exact sn_bad
  · split
    · rename_i kvs hd
      exact dkeys_ok C hd
    · exact call_ok C hE
  · exact kw_ok C hE
  · refine Sn.of ?_ rfl; simp only [evE]; exact gl_emp C.ok
  · split
    · rename_i hl
      exact meth_ok C hE hl
    · exact sn_bad
  · rename_i elt gs sc pos
    split
    · rcases cLc2_eq (rE := cE n) (rB := cB n) (n := n) (c := c) (elt := elt) (gs := gs) (sc := sc) with z | ⟨tg, iter, ifs, t, f, tg1, iter1, ifs1, t1, f1, rfl, h1, h1', h2, ht, hf, ht1, hf1, hts, hts1, z⟩
      · rw [z]; exact sn_bad
      · rw [z]
        have bo := blkOk_by h2
        have bo' : BlkOk X.N X.env.scope sc (ownOf c sc) := by rw [C.N, C.sc]; exact bo
        refine Sn.of ?_ rfl
        simp only [evE]
        exact gl_lc2 C.ok C.calm (by rw [C.N]; exact C.nd) (pi_all C hE iter) bo' hts1 (fun s H Ca cl fp => pg_all (ctx_blk C bo.kind s H Ca cl fp) n ht) (fun s H Ca cl fp => pts_cF ((ih _ _ (ctx_blk C bo.kind s H Ca cl fp)).2.1) hf)
          (fun s H Ca cl fp => gl_ip (ctx_blk C bo.kind s H Ca cl fp).K (pe_kept C.ok ((ih _ _ (ctx_blk C bo.kind s H Ca cl fp)).1 iter1).v)) (fun s H Ca cl fp => pg_all (ctx_blk C bo.kind s H Ca cl fp) n ht1) (fun s H Ca cl fp => pts_cF ((ih _ _ (ctx_blk C bo.kind s H Ca cl fp)).2.1) hf1)
          (fun s H Ca cl fp => pe_kept C.ok ((ih _ _ (ctx_blk C bo.kind s H Ca cl fp)).1 elt).v) (set_fold h1) (fun env => set_fold h1') hts fun j hj => hj
    · rcases cLc_eq (rE := cE n) (rB := cB n) (n := n) (c := c) (elt := elt) (gs := gs) (sc := sc) with z | ⟨tg, iter, ifs, t, f, rfl, h1, h2, ht, hf, hts, z⟩
      · rw [z]; exact sn_bad
      · rw [z]
        have bo := blkOk_by h2
        have bo' : BlkOk X.N X.env.scope sc (ownOf c sc) := by rw [C.N, C.sc]; exact bo
        refine Sn.of ?_ rfl
        simp only [evE]
        exact gl_lc C.ok C.calm (by rw [C.N]; exact C.nd) (pi_all C hE iter) bo' (fun s H Ca cl fp => pg_all (ctx_blk C bo.kind s H Ca cl fp) n ht) (fun s H Ca cl fp => pts_cF ((ih _ _ (ctx_blk C bo.kind s H Ca cl fp)).2.1) hf) (fun s H Ca cl fp => pe_kept C.ok ((ih _ _ (ctx_blk C bo.kind s H Ca cl fp)).1 elt).v) (set_fold h1) hts
  · exact sn_bad
theorem snd_B {n : Nat} (ih : Snd F glb G n) {X : Cx} {c : Cc} (C : CtxOk X F glb G c) (e : Expr) : SB X F G e (cB (n + 1) c e) := by
  obtain ⟨hE, hB, hO⟩ := ih X c C
  unfold cB
  split
  · rename_i a pos
    have h := pw_and1 (pos := pos) (hB a).1
    exact ⟨h.pt, fun op vs p z => by cases z; exact h⟩
  · rename_i a b rest pos
    have h : PW X (.BoolOp .And (a :: b :: rest) pos) (tB F (evB G (.and (cB n c a) (cB n c (.BoolOp .And (b :: rest) pos))))) := by
      simp only [evB]
      exact gl_tAnd (hB a).1 ((hB (.BoolOp .And (b :: rest) pos)).2 _ _ _ rfl)
    exact ⟨h.pt, fun op vs p z => by cases z; exact h⟩
  · rename_i a pos
    have h := pw_or1 (pos := pos) (hB a).1
    exact ⟨h.pt, fun op vs p z => by cases z; exact h⟩
  · rename_i a b rest pos
    have h : PW X (.BoolOp .Or (a :: b :: rest) pos) (tB F (evB G (.or (cB n c a) (cB n c (.BoolOp .Or (b :: rest) pos))))) := by
      simp only [evB]
      exact gl_tOr (hB a).1 ((hB (.BoolOp .Or (b :: rest) pos)).2 _ _ _ rfl)
    exact ⟨h.pt, fun op vs p z => by cases z; exact h⟩
  · refine ⟨?_, fun op vs p z => by cases z⟩
    simp only [evB]
    exact gl_tNot (hB _).1
  · rename_i a op b pos
    split
    · exact sb_bad
    · rename_i hb
      split
      · rename_i o ho
        refine ⟨?_, fun op vs p z => by cases z⟩
        simp only [evB]
        rw [pk_nv rfl]
        simp only [evE]
        exact gl_tcmp C.ok (cop_ok C.K C.un ho) (hE a).k (hE b).k (no_of hb)
      · exact sb_bad
  · rename_i a o1 o2 b d pos
    split
    · exact sb_bad
    · rename_i hb
      split
      · rename_i p q h1 h2
        refine ⟨?_, fun op vs p z => by cases z⟩
        simp only [evB]
        rw [pk_nv rfl]
        simp only [evE]
        exact gl_tchn C.ok (cop_ok C.K C.un h1) (cop_ok C.K C.un h2) (hE a).v (hE b).v (hE d).v (no_of hb)
      · exact sb_bad
  · exact sb_val C.K (hE _) (fun _ => rfl) (fun _ _ _ z => by cases z)
  · exact sb_val C.K (hE _) (fun _ => rfl) (fun _ _ _ z => by cases z)
  · exact sb_val C.K (hE _) (fun _ => rfl) (fun _ _ _ z => by cases z)
  · exact sb_val C.K (hE _) (fun _ => rfl) (fun _ _ _ z => by cases z)
  · exact sb_val C.K (hE _) (fun _ => rfl) (fun _ _ _ z => by cases z)
  · exact sb_bad
theorem snd_all : ∀ n, Snd F glb G n
  | 0 => snd_zero
  | n + 1 => fun X c C => ⟨fun e => snd_E (snd_all n) C e, fun e => snd_B (snd_all n) C e, fun o => by
    cases o with
    | none => simp only [cO, evO]; exact gl_ono
    | some e => simp only [cO, evO]; exact gl_oyes C.ok ((snd_all n X c C).1 e).v⟩
end
end Mi
end

section
set_option maxRecDepth 100000
set_option maxHeartbeats 2000000
/-! Mi: the compiler is sound: statements. -/
namespace Mi
open PySem PySem.Spec PyProof.Rows L2
section
variable {X : Cx} {F : Fx} {glb : List (Str × Gk)} {G : Gm} {c : Cc}
theorem ps_stuck {st : Stmt} {m : En → Option Fl} (h : ∀ e, m e = none) : PS X st (tS F m) := ⟨fun _ _ _ _ _ _ ⟨_, e, _, _, hm, _⟩ => by rw [h e] at hm; cases hm⟩
theorem ps_bad {st : Stmt} : PS X st (tS F (evS G .bad)) := ps_stuck fun _ => rfl
theorem sw_no {e : Expr} {tg : Option Expr} {l : Nat} {env : Env} (h : isComp e = false) : swapsWith e tg l env = pure false := by
  cases e <;> first | rfl | cases h
theorem sw_sub {a i v : Expr} {p : Pos} {l : Nat} {env : Env} : swapsWithSole [.Subscript a i p] v l env = pure false := by
  cases v <;> rfl
theorem ss_sub {a i v : Expr} {p : Pos} {env : Env} : swappedStores [.Subscript a i p] v env = pure none := by
  cases v <;> rfl
theorem ss_tup {ts : List Expr} {k : Nat} {p : Pos} {v : Expr} {env : Env} (h : isTup v = false) : swappedStores [.Tuple ts k p] v env = pure none := by
  cases v <;> first | rfl | cases h
theorem asg_sub {x : Str} {i : Expr} {p1 tpos : Pos} {env : Env} (h : plainIx i = true) (v : Value) : assign (.Subscript (.Name x p1) i tpos) env v = (do
      let ov ← holding [v] (eval (.Name x p1) env)
      let iv ← holding [v, ov] (eval i env)
      standAt tpos
      holding [v, ov, iv] (setItem ov iv v)
      release [v, ov, iv] []) := by
  cases i <;> first | rfl | cases h
theorem par_sw {x y : Str} {px py pt pt2 : Pos} {kt k2 : Nat} {a b : Expr} {env : Env} (hs : env.scope = c.sc) (h : parB c x y px py a b = true) : swappedStores [.Tuple [.Name x px, .Name y py] kt pt] (.Tuple [a, b] k2 pt2) env = pure (some [x, y]) ∧ c.sc.names.lookup x = some .local ∧ c.sc.names.lookup y = some .local ∧ x ≠ y ∧ isStar a = false ∧ isStar b = false := by
  unfold parB at h
  simp only [Bool.and_eq_true, decide_eq_true_iff, Bool.not_eq_true', beq_iff_eq] at h
  obtain ⟨⟨⟨⟨⟨⟨⟨⟨h1, h2⟩, h3⟩, h4⟩, h5⟩, h6⟩, h7⟩, h8⟩, h9⟩ := h
  have hne : x ≠ y := beq_eq_false_iff_ne.mp h5
  refine ⟨?_, h2, h3, hne, h6, h7⟩
  have k1 : env.kindOf x = some .local := by show env.scope.names.lookup x = _; rw [hs]; exact h2
  have k2 : env.kindOf y = some .local := by show env.scope.names.lookup y = _; rw [hs]; exact h3
  have hb : env.blockKind = .function := by unfold Env.blockKind; rw [hs, h1]; rfl
  have e1 : (x == y) = false := h5
  have e2 : (y == x) = false := beq_eq_false_iff_ne.mpr (Ne.symm hne)
  have ed : ([x, y] : List Str).eraseDups = [x, y] := by
    simp [List.eraseDups_cons, e2, hne, Ne.symm hne]
  unfold swappedStores
  simp only [List.length_cons, List.length_nil, hb, List.head?_cons, Option.map_some, Option.getD_some, Expr.pos]
  rw [if_neg (by decide), if_neg]
  · simp [k1, k2, h4, ed, h8, h9]
  · simp only [List.any_cons, List.any_nil, Bool.or_false, Bool.or_eq_true]
    rintro (z | z)
    · cases a <;> first | (cases z; done) | (exact nomatch h6)
    · cases b <;> first | (cases z; done) | (exact nomatch h7)
end
end Mi
end

section
set_option maxRecDepth 100000
set_option maxHeartbeats 2000000
namespace Mi
open PySem PySem.Spec PyProof.Rows L2
section
variable {X : Cx} {F : Fx} {glb : List (Str × Gk)} {G : Gm} {c : Cc}
/-- a name gets a comprehension on one line -/
theorem set_lc {n : Nat} (C : CtxOk X F glb G c) {x : Str} {i : Nat} {p pos spos : Pos} {elt : Expr} {gs : List Comprehension} {sc : Scope} (hi : c.tgt x = some i) (hk : c.sc.names.lookup x = some .local) (hl : (p.line == pos.line) = true) (ha : (sc.names.any fun (n, k) => n == x && (k == .local || k == .cell)) = false) :
    PS X (.Assign [.Name x p] (.ListComp elt gs sc pos) spos) (tS F (asgN (evE G (cE n c (.ListComp elt gs sc pos))) i)) := by
  have bad : PS X (.Assign [.Name x p] (.ListComp elt gs sc pos) spos) (tS F (asgN (evE G .bad) i)) := ps_stuck fun e => by unfold asgN; simp only [evE]; rfl
  cases n with
  | zero => exact bad
  | succ n =>
    have ih := snd_all (F := F) (glb := glb) (G := G) n
    obtain ⟨hE, hB, hO⟩ := ih X c C
    obtain ⟨_, hN, _, _⟩ := tgt_ok (p := p) C hi
    have hlk : X.env.scope.names.lookup x = some .local := by rw [C.sc]; exact hk
    have hsw := sw_true (elt := elt) (gs := gs) (scope := sc) (pos := pos) (py := p) (y := x) (l := spos.line) (env := X.env) (by rw [C.sc]; exact C.kind) hlk hl ha
    have he : cE (n + 1) c (.ListComp elt gs sc pos) = if gs.length = 2 then cLc2 (cE n) (cB n) n c elt gs sc else cLc (cE n) (cB n) n c elt gs sc := by simp only [cE]
    rw [he]
    split
    · rcases cLc2_eq (rE := cE n) (rB := cB n) (n := n) (c := c) (elt := elt) (gs := gs) (sc := sc) with z | ⟨tg, iter, ifs, t, f, tg1, iter1, ifs1, t1, f1, rfl, h1, h1', h2, ht, hf, ht1, hf1, hts, hts1, z⟩
      · rw [z]; exact bad
      · rw [z]
        have bo := blkOk_by h2
        have bo' : BlkOk X.N X.env.scope sc (ownOf c sc) := by rw [C.N, C.sc]; exact bo
        have hsw := sw_true (elt := elt) (gs := [⟨tg, iter, ifs, 0⟩, ⟨tg1, iter1, ifs1, 0⟩]) (scope := sc) (pos := pos) (py := p) (y := x) (l := spos.line) (env := X.env) (by rw [C.sc]; exact C.kind) hlk hl ha
        refine ps_imp (ps_setLc2 (spos := spos) C.calm (by rw [C.N]; exact C.nd) hN hlk hsw (pi_all C hE iter) bo' hts1 (fun s H Ca cl fp => pg_all (ctx_blk C bo.kind s H Ca cl fp) n ht) (fun s H Ca cl fp => pts_cF ((ih _ _ (ctx_blk C bo.kind s H Ca cl fp)).2.1) hf)
          (fun s H Ca cl fp => gl_ip (ctx_blk C bo.kind s H Ca cl fp).K (pe_kept C.ok ((ih _ _ (ctx_blk C bo.kind s H Ca cl fp)).1 iter1).v)) (fun s H Ca cl fp => pg_all (ctx_blk C bo.kind s H Ca cl fp) n ht1) (fun s H Ca cl fp => pts_cF ((ih _ _ (ctx_blk C bo.kind s H Ca cl fp)).2.1) hf1)
          (fun s H Ca cl fp => pe_kept C.ok ((ih _ _ (ctx_blk C bo.kind s H Ca cl fp)).1 elt).v) (set_fold h1) (fun env => set_fold h1')) fun Ds σ H h => ?_
        have h3 := asgN_imp h
        simp only [evE] at h3
        exact lc2_imp C.ok hts (fun j hj => hj) hts1 h3
    rcases cLc_eq (rE := cE n) (rB := cB n) (n := n) (c := c) (elt := elt) (gs := gs) (sc := sc) with z | ⟨tg, iter, ifs, t, f, rfl, h1, h2, ht, hf, hts, z⟩
    · rw [z]; exact bad
    · rw [z]
      have bo := blkOk_by h2
      have bo' : BlkOk X.N X.env.scope sc (ownOf c sc) := by rw [C.N, C.sc]; exact bo
      refine ps_imp (ps_setLc (spos := spos) C.calm (by rw [C.N]; exact C.nd) hN hlk hsw (pi_all C hE iter) bo' (fun s H Ca cl fp => pg_all (ctx_blk C bo.kind s H Ca cl fp) n ht) (fun s H Ca cl fp => pts_cF ((ih _ _ (ctx_blk C bo.kind s H Ca cl fp)).2.1) hf) (fun s H Ca cl fp => pe_kept C.ok ((ih _ _ (ctx_blk C bo.kind s H Ca cl fp)).1 elt).v) (set_fold h1)) fun Ds σ H h => ?_
      have h3 := asgN_imp h
      simp only [evE] at h3
      exact lc_imp C.ok hts h3
/-- a name gets a value -/
theorem set_v {n : Nat} (C : CtxOk X F glb G c) {x : Str} {i : Nat} {p spos : Pos} {e : Expr} (hi : c.tgt x = some i) (he : isComp e = false) : PS X (.Assign [.Name x p] e spos) (tS F (asgN (evE G (cE n c e)) i)) := by
  obtain ⟨_, hN, hloc, hf⟩ := tgt_ok (p := p) C hi
  exact ps_imp (ps_set (by rw [C.N]; exact C.nd) hN hloc ((snd_all n X c C).1 e).v (sw_no he) hf) fun Ds σ H h => asgN_imp h
end
end Mi
end

section
set_option maxRecDepth 100000
set_option maxHeartbeats 2000000
namespace Mi
open PySem PySem.Spec PyProof.Rows L2
section
variable {X : Cx} {F : Fx} {glb : List (Str × Gk)} {G : Gm} {c : Cc}

theorem doc_eq {e : Expr} (h : isDoc e = true) : ∃ x j p, e = .Constant (.str x) j p := by
  cases e with
  | Constant v j p =>
    cases v with
    | str x => exact ⟨x, j, p, rfl⟩
    | _ => cases h
  | _ => cases h
theorem twoN_eq {ts : List Expr} {x y : Str} {px py : Pos} (h : twoN ts = some (x, px, y, py)) : ts = [.Name x px, .Name y py] := by
  match ts, h with
  | [a, b], h =>
    cases a with
    | Name x' px' =>
      cases b with
      | Name y' py' => cases h; rfl
      | _ => cases h
    | _ => cases h
theorem twoE_eq {e a b : Expr} (h : twoE e = some (a, b)) : ∃ k p, e = .Tuple [a, b] k p := by
  cases e with
  | Tuple es k p =>
    match es, h with
    | [a', b'], h => cases h; exact ⟨k, p, rfl⟩
  | _ => cases h
theorem subN_eq {ts : List Expr} {x y : Str} {i : Expr} (h : subN ts = some (x, i, y)) : ∃ p1 p2 tp, ts = [.Subscript (.Name x p1) i tp, .Name y p2] := by
  match ts, h with
  | [a, b], h =>
    cases a with
    | Subscript o i' tp =>
      cases o with
      | Name x' p1 =>
        cases b with
        | Name y' p2 => cases h; exact ⟨_, _, _, rfl⟩
        | _ => cases h
      | _ => cases h
    | _ => cases h
theorem name_eq {e : Expr} {x : Str} (h : nameOf e = some x) : ∃ p, e = .Name x p := by
  cases e with
  | Name y p => cases h; exact ⟨p, rfl⟩
  | _ => cases h
theorem asg_ok {n : Nat} (C : CtxOk X F glb G c) {t e : Expr} {pos : Pos} : PS X (.Assign [t] e pos) (tS F (evS G (cAsg n c t e))) := by
  obtain ⟨hE, hB, hO⟩ := snd_all (F := F) (glb := glb) (G := G) n X c C
  cases t with
  | Name x p =>
    simp only [cAsg]
    cases hi : c.tgt x with
    | none => exact ps_bad
    | some i =>
      simp only
      split
      · exact ps_bad
      · rename_i hc
        have hc := no_of hc
        simp only [evS]
        cases hcomp : isComp e with
        | false => exact set_v C hi hcomp
        | true =>
          rw [hcomp, Bool.true_and, Bool.not_eq_false'] at hc
          cases e with
          | ListComp elt gs sc pos2 =>
            have hc : (decide (c.sc.names.lookup x = some .local) && (p.line == pos2.line) && !(sc.names.any fun (n, k) => n == x && (k == .local || k == .cell))) = true := hc
            rw [Bool.and_eq_true, Bool.and_eq_true, decide_eq_true_iff, Bool.not_eq_true'] at hc
            exact set_lc C hi hc.1.1 hc.1.2 hc.2
          | _ => cases hc
  | Tuple ts k p =>
    simp only [cAsg]
    split
    · rename_i ht
      cases h1 : twoN ts with
      | none => exact ps_bad
      | some q1 =>
        obtain ⟨x, px, y, py⟩ := q1
        cases h2 : twoE e with
        | none => exact ps_bad
        | some q2 =>
          obtain ⟨a, b⟩ := q2
          simp only
          split
          · rename_i hpar
            obtain ⟨k2, pt2, rfl⟩ := twoE_eq h2
            rw [twoN_eq h1]
            cases hi : idx c.N x with
            | none => exact ps_bad
            | some i =>
              cases hj : idx c.N y with
              | none => exact ps_bad
              | some j =>
                obtain ⟨q1, q2, q3, q4, q5, q6⟩ := par_sw (pt := p) (pt2 := pt2) (kt := k) (k2 := k2) C.sc hpar
                have e1 : X.N[i]? = some x := by rw [C.N]; exact idx_get hi
                have e2 : X.N[j]? = some y := by rw [C.N]; exact idx_get hj
                simp only [evS]
                exact gl_par C.calm (by rw [C.N]; exact C.nd) e1 e2 (fun z => by rw [z, e2] at e1; cases e1; exact q4 rfl) (by rw [C.sc]; exact q2) (by rw [C.sc]; exact q3) (hE a).v (hE b).v (star_no q5) (star_no q6) q1
          · exact ps_bad
    · rename_i ht
      split
      · exact ps_bad
      · rename_i hc
        cases hsub : subN ts with
        | some q =>
          obtain ⟨x, i, y⟩ := q
          obtain ⟨p1, p2, tp, rfl⟩ := subN_eq hsub
          simp only
          cases hs : c.slot x with
          | none => exact ps_bad
          | some s =>
            cases hj : c.tgt y with
            | none => exact ps_bad
            | some j =>
              simp only
              split
              · rename_i hpi
                simp only [evS]
                exact gl_sasg C.ok C.K C.calm (pe_slot C hs) (hE i).v (hE e).v (tgt_ok C hj).1 (show swapsWith e (some (.Tuple [.Subscript (.Name x p1) i tp, .Name y p2] k p)) pos.line X.env = pure false from sw_no (no_of hc)) (ss_tup (no_of ht)) (asg_sub hpi)
              · exact ps_bad
        | none =>
        simp only
        cases hct : cT n c (.Tuple ts k p) with
        | none => exact ps_bad
        | some t =>
          cases t with
          | nm i => exact ps_bad
          | tp t =>
            simp only [evS]
            exact ps_imp (ps_asg (pe_kept C.ok (hE e).v) (pg_all C n hct) (show swapsWith e (some (.Tuple ts k p)) pos.line X.env = pure false from sw_no (no_of hc)) (ss_tup (no_of ht)) rfl) fun Ds σ H h => asgT_imp C.ok h
  | Subscript a i q =>
    simp only [cAsg]
    cases hn : nameOf a with
    | none => exact ps_bad
    | some x =>
      obtain ⟨p1, rfl⟩ := name_eq hn
      cases hs : c.slot x with
      | none => simp only [hs]; exact ps_bad
      | some s =>
        simp only [hs]
        split
        · rename_i hpi
          simp only [evS]
          exact gl_sset C.ok (pe_slot C hs) (hE i).v (hE e).v sw_sub ss_sub (asg_sub hpi)
        · exact ps_bad
  | _ => exact ps_bad
theorem ret_ok' {e : Expr} {ce : CE} {pos : Pos} (h : Sn X F G e ce) : PS X (.Return (some e) pos) (tS F (evS G (.ret ce))) := by
  by_cases hv : ∃ i, ce = .var i
  · obtain ⟨i, rfl⟩ := hv
    have h2 := h.v
    simp only [evE] at h2
    exact gl_retV (h.n i rfl) h2
  · have hr : ∀ e0, retV ce e0 = none := fun e0 => by
      cases ce <;> first | rfl | exact absurd ⟨_, rfl⟩ hv
    refine ps_imp (gl_ret h.v) fun Ds σ H ⟨t, e0, S, fl, hm, k⟩ => ⟨t, e0, S, fl, ?_, k⟩
    rw [← hm]
    simp only [evS, hr e0]
    rfl
theorem snd_S {n : Nat} (ih : ∀ (X : Cx) (c : Cc), CtxOk X F glb G c → PassesOwn (model X.prog X.w) X.A X.env X.xe → (∀ s, PS X s (tS F (evS G (cS n c s)))) ∧ ∀ ss, PSs X ss (tS F (evSs G (cSs n c ss)))) (C : CtxOk X F glb G c) (hp : PassesOwn (model X.prog X.w) X.A X.env X.xe) (s : Stmt) : PS X s (tS F (evS G (cS (n + 1) c s))) := by
  obtain ⟨hS, hSs⟩ := ih X c C hp
  obtain ⟨hE, hB, hO⟩ := snd_all (F := F) (glb := glb) (G := G) n X c C
  cases s with
  | Return o pos =>
    simp only [cS]
    cases o with
    | none => exact gl_retN
    | some e => exact ret_ok' (hE e)
  | Pass pos => exact gl_pass
  | Break pos => exact gl_brk
  | Continue pos => exact gl_cont
  | Expr e pos =>
    simp only [cS]
    split
    · rename_i hd
      obtain ⟨x, j, p, rfl⟩ := doc_eq hd
      exact gl_doc
    · split
      · exact ps_bad
      · rename_i he
        simp only [evS]
        exact gl_expr (hE e).v (sw_no (no_of he))
  | Assign ts e pos =>
    simp only [cS]
    match ts with
    | [] => exact ps_bad
    | [t] => exact asg_ok C
    | _ :: _ :: _ => exact ps_bad
  | If t a b pos => simp only [cS, evS]; exact gl_if (hB _).1 (hSs _) (hSs _)
  | While t a o pos =>
    simp only [cS]
    split
    · rename_i ho
      rw [List.isEmpty_iff] at ho
      subst ho
      simp only [evS]; exact gl_while hp (hB _).1 (hSs _)
    · exact ps_bad
  | For tg iter b o pos =>
    simp only [cS]
    split
    · exact ps_bad
    · rename_i hst
      have hst := no_of hst
      rw [Bool.or_eq_false_iff, Bool.not_eq_false', List.isEmpty_iff] at hst
      obtain ⟨h1, rfl⟩ := hst
      cases ht : cT n c tg with
      | none => exact ps_bad
      | some t =>
        simp only [evS]
        exact gl_for C.ok hp C.calm (pi_all C hE iter) (pg_all C n ht) (hSs b) (set_fold h1)
  | _ => exact ps_bad
theorem snd_stmts : ∀ (n : Nat) (X : Cx) (c : Cc), CtxOk X F glb G c → PassesOwn (model X.prog X.w) X.A X.env X.xe → (∀ s, PS X s (tS F (evS G (cS n c s)))) ∧ ∀ ss, PSs X ss (tS F (evSs G (cSs n c ss)))
  | 0 => fun X c C hp => ⟨fun s => ps_bad, fun ss => ⟨fun _ _ _ _ _ _ ⟨_, e, _, _, hm, _⟩ => nomatch hm⟩⟩
  | n + 1 => fun X c C hp => by
    have ih := snd_stmts n
    refine ⟨fun s => snd_S ih C hp s, fun ss => ?_⟩
    cases ss with
    | nil => simp only [cSs]; exact gl_snil
    | cons s r =>
      simp only [cSs]
      have h := gl_scons ((ih X c C hp).1 s) ((ih X c C hp).2 r)
      refine pss_imp h fun Ds σ H ⟨t, e, S, fl, hm, k⟩ => ⟨t, e, S, fl, ?_, k⟩
      rw [← hm]
      simp only [evSs, seqS]
      all_goals
        cases evS G (cS n c s) e with
        | none => rfl
        | some f => cases f <;> rfl
end
end Mi
end

section
set_option maxRecDepth 100000
set_option maxHeartbeats 2000000
/-! Mi: all defs of a program, to every depth. -/
namespace Mi
open PySem PySem.Spec PyProof.Rows L2
structure DefI where
  name : Str
  qual : Str
  params : Arguments
  body : List Stmt
  scope : Scope
  N : List Str
  ps : List Str
  lam : Bool
def DefI.cc (glb : List (Str × Gk)) (d : DefI) : Cc := ⟨d.N, d.scope, glb, d.lam⟩
def fdOf (glb : List (Str × Gk)) (fuel : Nat) (defs : Nat → Option DefI) (g : Nat) : Option Fd := (defs g).map fun d => ⟨d.ps.length, d.N.length, cSs fuel (d.cc glb) d.body⟩
structure PrgOk (w : World) (K : PySem.W.Frag) (mg : Str → Option Value) (base : Heap) (F : Fx) (glb : List (Str × Gk)) (con : Nat → Option D) (defs : Nat → Option DefI) : Prop where
  hK : F.K = K
  ok : F.Ok
  clo : F.clo = CloF F.K F.fa (LKof glb)
  fd : ∀ g d, defs g = some d → ∃ fd, FunD K d.name d.qual d.params d.body d.scope [] [] (F.fa g) fd ∧ PlainP fd d.ps
  sc : ∀ g d, defs g = some d → FnScope d.N d.ps d.scope
  par : ∀ g d, defs g = some d → F.par g = d.ps
  gfn : ∀ x g ps, glb.lookup x = some (.fn g ps) → mg x = some (.ref (F.fa g)) ∧ F.par g = ps
  glit : ∀ x k, glb.lookup x = some (.lit k) → cnOk k = true ∧ ∃ u, mg x = some u ∧ RelV (cnV k) u
  gcon : ∀ x k, glb.lookup x = some (.con k) → ∀ d, con k = some d → ∃ v u, mg x = some u ∧ RelV v u ∧ ∀ H, RD F.K H v d
  gdic : ∀ x kvs, glb.lookup x = some (.dic kvs) → ∃ a, mg x = some (.ref a) ∧ DctK K w a kvs
  gblt : ∀ x, glb.lookup x = some .blt → mg x = none
  lam : ∀ g d oc od fd osl, defs g = some d → d.lam = true → K.lookup (F.fa g) = some ⟨oc, od, .func fd, osl⟩ → ∃ cd P, fd.code = .ref cd ∧ LamX.TabB base mg cd P ∧ (P, (d.qual ++ ".<locals>." : Str) ++ "<lambda>") ∈ F.T ∧ ∀ p ∈ F.T, p.1 = P → p.2 = (d.qual ++ ".<locals>." : Str) ++ "<lambda>"
section
variable {Pg : Program} {w : World} {K : PySem.W.Frag} {mg : Str → Option Value} {base : Heap} {F : Fx} {glb : List (Str × Gk)} {con : Nat → Option D} {defs : Nat → Option DefI} {fuel : Nat}
theorem gm_con : ∀ n, (gmOf con (fdOf glb fuel defs) n).con = con
  | 0 => rfl
  | _ + 1 => rfl
theorem gm_call {n g : Nat} {d : DefI} (h : defs g = some d) : (gmOf con (fdOf glb fuel defs) (n + 1)).call g = bodyF d.ps.length d.N.length (evSs (gmOf con (fdOf glb fuel defs) n) (cSs fuel (d.cc glb) d.body)) := by
  funext as
  show (match fdOf glb fuel defs g with
    | some f => if as.length == f.np then endF f.np (evSs (gmOf con (fdOf glb fuel defs) n) f.body (startE f.ns as)) else none
    | none => none) = _
  unfold fdOf
  rw [h]
  rfl
theorem gm_clo {n np ns : Nat} {b : CE} {cs : List Sl} : (gmOf con (fdOf glb fuel defs) (n + 1)).clo np ns b cs = lamF np ns (evE (gmOf con (fdOf glb fuel defs) n) b) cs := by
  funext as
  simp only [gmOf, lamF]
  all_goals
    split
    · cases evE (gmOf con (fdOf glb fuel defs) n) b (startE ns (as ++ cs)) with
      | none => rfl
      | some r =>
        cases r with
        | exc x e => rfl
        | ok v e => cases v <;> rfl
    · rfl
def Hn (Pg : Program) (w : World) (K : PySem.W.Frag) (mg : Str → Option Value) (base : Heap) (F : Fx) (glb : List (Str × Gk)) (con : Nat → Option D) (defs : Nat → Option DefI) (fuel n : Nat) : Prop := ∀ g d fd, defs g = some d → FunD K d.name d.qual d.params d.body d.scope [] [] (F.fa g) fd →
  FnOk Pg w K mg base CX0 n (F.fa g) fd d.ps (spG F d.ps.length ((gmOf con (fdOf glb fuel defs) n).call g))
def Ln (Pg : Program) (w : World) (K : PySem.W.Frag) (mg : Str → Option Value) (base : Heap) (F : Fx) (glb : List (Str × Gk)) (con : Nat → Option D) (defs : Nat → Option DefI) (fuel n : Nat) : Prop := ∀ X : Cx, X.prog = Pg → X.w = w → X.K = K → X.mg = mg → X.base = base → Room n X.A → Lv X F (LKof glb) (gmOf con (fdOf glb fuel defs) n)
theorem ctx_of (O : PrgOk w K mg base F glb con defs) {n : Nat} {X : Cx} {c : Cc} (L : Ln Pg w K mg base F glb con defs fuel n) (h1 : X.prog = Pg) (h2 : X.w = w) (h3 : X.K = K) (h4 : X.mg = mg) (h5 : X.base = base) (hr : Room n X.A) (hN : X.N = c.N) (nd : c.N.Nodup) (hs : X.env.scope = c.sc) (hk : c.sc.kind = .function) (hc : X.calm = true) (hg : c.glb = glb)
    (hl : c.lam = true → (∀ y, X.fn y = true) ∧ ∃ cd P, LamX.TabB X.base X.mg cd P ∧ X.env.code = .ref cd ∧ (P, lamQ X) ∈ F.T ∧ ∀ p ∈ F.T, p.1 = P → p.2 = lamQ X) : CtxOk X F glb (gmOf con (fdOf glb fuel defs) n) c where
  N := hN
  nd := nd
  sc := hs
  kind := hk
  calm := hc
  K := h3.trans O.hK.symm
  un := by have := hr.un; omega
  ok := O.ok
  clo := O.clo
  gl := hg
  lv := L X h1 h2 h3 h4 h5 hr
  gfn := by rw [h4]; exact O.gfn
  glit := by rw [h4]; exact O.glit
  gcon := by rw [h4, gm_con]; exact O.gcon
  gdic := by rw [h4, h3, h2]; exact O.gdic
  gblt := by rw [h4]; exact O.gblt
  lamx := hl
theorem levels (O : PrgOk w K mg base F glb con defs) : ∀ n, Hn Pg w K mg base F glb con defs fuel n ∧ Ln Pg w K mg base F glb con defs fuel n
  | 0 => ⟨fun g d fd _ _ => fn_zero, fun X _ _ _ _ _ _ => ⟨(fun g as r h => nomatch h), (fun np ns b cs as r h => nomatch h)⟩⟩
  | n + 1 => by
    obtain ⟨hH, hL⟩ := levels O n
    have H1 : Hn Pg w K mg base F glb con defs fuel (n + 1) := fun g d fd hd FN => by
      rw [gm_call hd]
      obtain ⟨oc, od, dV, kV, doc, pm, an, cdv, ct, osl, rfl, lk, hcd, _, _⟩ := FN.ex
      have S := O.sc g d hd
      refine fn_step lk hcd S fun A outer s H E hr => ?_
      refine (snd_stmts fuel _ (d.cc glb) (ctx_of O hL rfl rfl rfl rfl rfl hr rfl S.nd rfl S.kind rfl rfl fun hlam => ⟨fun _ => rfl, ?_⟩) PassesOwn.leaving).2 d.body
      obtain ⟨cd, P, q1, q2, q3, q4⟩ := O.lam g d _ _ _ _ hd hlam lk
      exact ⟨cd, P, q2, q1, q3, q4⟩
    refine ⟨H1, fun X h1 h2 h3 h4 h5 hr => ?_⟩
    subst h1 h2 h3 h4 h5
    refine ⟨fun g as r h => ?_, fun np ns b cs as r h => ?_⟩
    · cases hd : defs g with
      | none =>
        exfalso
        have z : (gmOf con (fdOf glb fuel defs) (n + 1)).call g as = none := by
          show (match fdOf glb fuel defs g with
            | some f => if as.length == f.np then endF f.np (evSs (gmOf con (fdOf glb fuel defs) n) f.body (startE f.ns as)) else none
            | none => none) = _
          unfold fdOf
          rw [hd]
          rfl
        rw [z] at h
        cases h
      | some d =>
        obtain ⟨fd, FN, pp⟩ := O.fd g d hd
        have S := O.sc g d hd
        have nd : d.ps.Nodup := by rw [← S.pre]; exact S.nd.sublist (List.take_sublist _ _)
        refine ⟨n + 1, fd, d.ps, H1 g d fd hd FN, hr, FN.kp, pp, nd, fun as r h => ?_, (O.par g d hd).symm⟩
        rw [gm_call hd] at h
        unfold bodyF at h
        split at h
        · rename_i q; exact beq_iff_eq.mp q
        · cases h
    · refine ⟨n, evE (gmOf con (fdOf glb fuel defs) n) b, hr, gm_clo, fun qual scope params bodyE ps cs f c' clos A outer s H L ⟨k, hk⟩ hrm => ?_⟩
      subst hk
      have e : F.K = X.K := O.hK
      rw [e]
      exact ((snd_all k (lamC X.prog X.w X.K X.mg X.base (ps ++ cs) qual scope f c' clos A outer s H) ⟨ps ++ cs, scope, glb, false⟩ (ctx_of (X := lamC X.prog X.w X.K X.mg X.base (ps ++ cs) qual scope f c' clos A outer s H) O hL rfl rfl rfl rfl rfl hrm rfl L.nd rfl L.kind rfl rfl fun z => nomatch z)).1 bodyE).v
end
end Mi
end

section
set_option maxRecDepth 100000
set_option maxHeartbeats 2000000
/-! Mi: the law's def. -/
namespace Mi
open PySem PySem.Spec PyProof.Rows L2
section
variable {Pg : Program} {w : World} {K : PySem.W.Frag} {mg : Str → Option Value} {base : Heap} {F : Fx} {glb : List (Str × Gk)} {con : Nat → Option D} {defs : Nat → Option DefI} {fuel : Nat}
/-- a list may be locked for good ahead of statements -/
theorem pss_fz {X : Cx} {sts : List Stmt} {t : TS} (h : PSs X sts t) : PSs X sts (fun Ds σ H => t Ds σ H ∨ ∃ a vs, H a = some (.lst vs) ∧ ∀ ob, t Ds σ (upd H a (.frz ob (.lst vs)))) := by
  refine ⟨fun pins s σ H Ds I q => ?_⟩
  rcases q with q | ⟨a, vs, ha, q⟩
  · exact h.run pins s σ H Ds I q
  · obtain ⟨od, I2⟩ := I.lock ha trivial
    exact h.run pins s σ _ Ds I2 (q od)
/-- what the law's def promises -/
def spLaw (F : Fx) (m : Nat) : Sp := fun vs H Q _ => ∃ (a : Addr) (ns : List Int), vs = [.ref a] ∧ ns.length ≤ m ∧ (∀ z ∈ ns, Builtin.Int.intBits z ≤ 1048576) ∧ LamX.Tabs F.T H ∧ SqL F.K H a (ns.map V.int) ∧ ∀ H', Q (.bl true) H'
theorem rds_intsV {H : Hp} : ∀ ns : List Int, RDs K H (ns.map V.int) (ns.map PyData.int)
  | [] => .nil
  | n :: r => .cons (.int n) (rds_intsV r)
theorem law_fn (O : PrgOk w K mg base F glb con defs) {n m g : Nat} {d : DefI} {fd : FuncData} {x : Str} (hd : defs g = some d) (FN : FunD K d.name d.qual d.params d.body d.scope [] [] (F.fa g) fd) (hps : d.ps = [x]) (nl : ∀ a o, K.lookup a = some o → o.cls ≠ .type "list")
    (plain : ∀ ns : List Int, ns.length ≤ m → (∀ z ∈ ns, Builtin.Int.intBits z ≤ 1048576) → ∃ os, (gmOf con (fdOf glb fuel defs) (n + 1)).call g [.val (.list (ns.map PyData.int))] = some (.ok (.val (.bool true)) os)) :
    FnOk Pg w K mg base CX0 (n + 1) (F.fa g) fd [x] (spLaw F m) := by
  obtain ⟨oc, od, dV, kV, doc, pm, an, cdv, ct, osl, rfl, lk, hcd, _, _⟩ := FN.ex
  have S := O.sc g d hd
  rw [hps] at S
  rw [gm_call hd, hps] at plain
  refine fn_of lk hcd S (fun vs H Q E ⟨a, ns, h, _⟩ => by rw [h]; rfl) fun A outer s H vs Q E hr hsp => ?_
  have hb := (snd_stmts fuel (cxOf CX0 Pg w K mg base d.N d.qual d.scope (F.fa g) cdv A outer s H E) (d.cc glb) (ctx_of O (levels (fuel := fuel) O n).2 rfl rfl rfl rfl rfl hr rfl S.nd rfl S.kind rfl rfl fun hlam => ⟨fun _ => rfl, by
    obtain ⟨cd, P, q1, q2, q3, q4⟩ := O.lam g d _ _ _ _ hd hlam lk
    exact ⟨cd, P, q2, q1, q3, q4⟩⟩) PassesOwn.leaving).2 d.body
  refine ⟨_, pss_fz hb, ?_⟩
  obtain ⟨a, ns, rfl, hl, hbits, t, hq, k⟩ := hsp
  obtain ⟨os, hf⟩ := plain ns hl hbits
  have go : ∀ (H1 : Hp) (o : Obj), H1 a = some (.frz o (.lst (ns.map V.int))) → LamX.Tabs F.T H1 → tS F (evSs (gmOf con (fdOf glb fuel defs) n) (cSs fuel (d.cc glb) d.body)) { nx := fun _ H' => Q .non H', rt := Q } (L2.start d.N [V.ref a]) H1 := fun H1 o h1 t1 => by
    refine body_sp (np := 1) (E := E) ⟨t1, [.val (.list (ns.map PyData.int))], .val (.bool true), os, ⟨Nat.le_refl _, fun j => ?_, fun j k b c _ h => ?_⟩, rfl, hf, fun w H' C => ?_⟩
    · cases j with
      | zero => exact ⟨_, rfl, .lst ⟨o, h1⟩ (rds_intsV ns)⟩
      | succ j => trivial
    · cases j with
      | zero => cases h
      | succ j => cases h
    · have v := C.val
      cases (show RD F.K H' w (.bool true) from v)
      exact k H'
  rcases hq with (h | ⟨o, h⟩) | ⟨o, its, q, hk, hc, _⟩
  · exact .inr ⟨a, _, h, fun ob => go _ ob upd_same (froze_tabs h ob t)⟩
  · exact .inl (go H o h t)
  · rw [O.hK] at hk
    exact absurd hc (nl a o hk)
end
end Mi
end

section
set_option maxRecDepth 100000
set_option maxHeartbeats 2000000
/-! Mi: the head: a law's data, what the head's Hook tells of it. -/
namespace Mi
open PySem PySem.Spec PyProof.Rows L2
def nameS : Stmt → Str
  | .FunctionDef n _ _ _ _ _ _ _ _ _ => n
  | _ => Str.empty
def defI (st : Stmt) (N : List Str) (lam : Bool) : DefI := ⟨nameS st, nameS st, defArgs st, defBody st, defScope st, N, (defArgs st).args.map (·.arg), lam⟩
structure Dat where
  ds : List DefI
  lits : List (Str × Cn)
  cons : List (Str × D)
  dics : List (Str × List (Str × Cn))
  blts : List Str
namespace Dat
def glb (L : Dat) : List (Str × Gk) := (L.ds.zipIdx.map fun p => (p.1.name, Gk.fn p.2 p.1.ps)) ++ ((L.lits.map fun p => (p.1, Gk.lit p.2)) ++ ((L.cons.zipIdx.map fun p => (p.1.1, Gk.con p.2)) ++ ((L.dics.map fun p => (p.1, Gk.dic p.2)) ++ L.blts.map fun x => (x, Gk.blt))))
def defs (L : Dat) (g : Nat) : Option DefI := L.ds[g]?
def con (L : Dat) (k : Nat) : Option D := (L.cons[k]?).map (·.2)
def at_ (d : DefI) : Str × Option Str := (d.name, none)
def fa (L : Dat) : List He.Fa := (L.ds.map fun d => He.Fa.glo d.name) ++ L.blts.map He.Fa.free
def fn (L : Dat) : List He.DefD := L.ds.map fun d => ⟨at_ d, d.name, d.qual, d.params, d.body, d.scope, [], []⟩
def ts (L : Dat) : List He.Tab := L.dics.map fun p => ((fun K => He.ga K p.1), p.2.map (·.1))
def lams (L : Dat) : List DefI := L.ds.filter (·.lam)
def tf (L : Dat) : List He.Defn := L.lams.map at_
end Dat
/-! ### constants -/
def dataAll (f : Value → D → Bool) : List Value → List D → Bool
  | [], [] => true
  | u :: us, d :: ds => f u d && dataAll f us ds
  | _, _ => false
def dataB (K : PySem.W.Frag) : Nat → Value → D → Bool
  | 0, _, _ => false
  | n + 1, u, d => match u, d with
    | .none, .none => true
    | .bool b, .bool c => b == c
    | .int i _, .int j => decide (i = j)
    | .str x _, .str y => decide (x = y) && cnOk (.str y)
    | .ref a, .tuple ds => (match K.lookup a with
      | some ⟨.type c, _, .seq its _, _⟩ => decide (c = "tuple") && decide (its.size ≤ sizeLine) && dataAll (dataB K n) its.toList ds
      | _ => false)
    | _, _ => false
theorem dataAll_ok {K : PySem.W.Frag} {f : Value → D → Bool} (hf : ∀ u d, f u d = true → ∃ v, RelV v u ∧ ∀ H, RD K H v d) : ∀ {us : List Value} {ds : List D}, dataAll f us ds = true → ∃ vs, Vals vs us ∧ ∀ H, RDs K H vs ds
  | [], [], h => ⟨[], .nil, fun H => .nil⟩
  | [], _ :: _, h => by simp [dataAll] at h
  | _ :: _, [], h => by simp [dataAll] at h
  | u :: us, d :: ds, h => by
    simp only [dataAll, Bool.and_eq_true] at h
    obtain ⟨v, r1, r2⟩ := hf u d h.1
    obtain ⟨vs, q1, q2⟩ := dataAll_ok hf h.2
    exact ⟨v :: vs, .cons r1 q1, fun H => .cons (r2 H) (q2 H)⟩
theorem dataB_ok {K : PySem.W.Frag} : ∀ (n : Nat) (u : Value) (d : D), dataB K n u d = true → ∃ v, RelV v u ∧ ∀ H, RD K H v d
  | 0, u, d, h => by simp [dataB] at h
  | n + 1, u, d, h => by
    unfold dataB at h
    split at h
    · exact ⟨.non, rfl, fun H => .non⟩
    · rename_i b c
      have e : b = c := beq_iff_eq.mp h
      subst e
      exact ⟨.bl b, rfl, fun H => .bl b⟩
    · rename_i i t j
      have e : i = j := of_decide_eq_true h
      subst e
      exact ⟨.int i, ⟨t, rfl⟩, fun H => .int i⟩
    · rename_i x t y
      rw [Bool.and_eq_true, decide_eq_true_iff] at h
      obtain ⟨rfl, h⟩ := h
      exact ⟨.str x, ⟨t, rfl⟩, fun H => rd_cn (k := .str x) h H⟩
    · rename_i a ds
      split at h
      · rename_i c od its k osl q
        simp only [Bool.and_eq_true, decide_eq_true_iff] at h
        obtain ⟨⟨rfl, h2⟩, h3⟩ := h
        obtain ⟨vs, r1, r2⟩ := dataAll_ok (dataB_ok n) h3
        exact ⟨.ref a, rfl, fun H => .tup (.inr ⟨_, its, k, q, rfl, rfl, h2, r1⟩) (r2 H)⟩
      · cases h
    · cases h
/-- the module's name x is this datum -/
def conB (K : PySem.W.Frag) (x : Str) (d : D) : Bool := match PySem.W.nsIn K mainGlobals x with
  | some (some u) => dataB K 9 u d
  | _ => false
theorem conB_ok {K : PySem.W.Frag} {h : Heap} {mg : Str → Option Value} {x : Str} {d : D} (X : K.In h) (G : h.Ns mainGlobals mg) (c : conB K x d = true) : ∃ v u, mg x = some u ∧ RelV v u ∧ ∀ H, RD K H v d := by
  unfold conB at c
  split at c
  · rename_i u q
    obtain ⟨v, r1, r2⟩ := dataB_ok _ _ _ c
    exact ⟨v, u, PySem.W.mg_of X G q, r1, r2⟩
  · cases c
def cnB (K : PySem.W.Frag) (x : Str) (c : Cn) : Bool := cnOk c && match PySem.W.nsIn K mainGlobals x with
  | some (some u) => He.relB (cnV c) u
  | _ => false
theorem cnB_ok {K : PySem.W.Frag} {h : Heap} {mg : Str → Option Value} {x : Str} {c : Cn} (X : K.In h) (G : h.Ns mainGlobals mg) (q : cnB K x c = true) : cnOk c = true ∧ ∃ u, mg x = some u ∧ RelV (cnV c) u := by
  unfold cnB at q
  rw [Bool.and_eq_true] at q
  obtain ⟨q1, q2⟩ := q
  refine ⟨q1, ?_⟩
  split at q2
  · rename_i u e
    exact ⟨u, PySem.W.mg_of X G e, He.relB_ok q2⟩
  · cases q2
def dicB (K : PySem.W.Frag) (x : Str) (kvs : List (Str × Cn)) : Bool := He.eqO (PySem.W.nsIn K mainGlobals x) (some (some (.ref (He.ga K x)))) && decide (kvs.map (·.1)).Nodup && kvs.all fun p => match PySem.W.nsIn K (He.ga K x) p.1 with
  | some (some u) => He.relB (cnV p.2) u
  | _ => false
theorem dicB_ok {K : PySem.W.Frag} {w : World} {h : Heap} {mg : Str → Option Value} {x : Str} {kvs : List (Str × Cn)} (X : K.In h) (G : h.Ns mainGlobals mg) (q : dicB K x kvs = true) (t : He.dicW K (He.ga K x) = some (He.keysIn w.params (kvs.map (·.1)))) : ∃ a, mg x = some (.ref a) ∧ DctK K w a kvs := by
  unfold dicB at q
  simp only [Bool.and_eq_true, decide_eq_true_iff] at q
  obtain ⟨⟨q1, q2⟩, q3⟩ := q
  obtain ⟨es, n, D⟩ := He.dicW_ok t
  refine ⟨_, PySem.W.mg_of X G (He.eqO_ok q1), es, n, D.at_, D.low, ?_, q2, fun z c hz => ?_⟩
  · unfold He.dicW at t
    rw [D.at_] at t
    simp only [D.low] at t
    exact Option.some.inj t
  · have := List.all_eq_true.mp q3 (z, c) (lookup_memL hz)
    simp only at this
    split at this
    · rename_i u e
      exact ⟨u, e, He.relB_ok this⟩
    · cases this
def noListB (K : PySem.W.Frag) : Bool := K.all fun q => match q.2.cls with
  | .type c => !decide (c = "list")
  | _ => true
theorem noListB_ok {K : PySem.W.Frag} (h : noListB K = true) : ∀ a o, K.lookup a = some o → o.cls ≠ .type "list" := by
  intro a o q z
  have := List.all_eq_true.mp h (a, o) (He.lookup_mem q)
  simp only [z] at this
  cases this
def Dat.ex (L : Dat) (K : PySem.W.Frag) : Bool := noListB K && (L.lits.all fun p => cnB K p.1 p.2) && (L.cons.all fun p => conB K p.1 p.2) && (L.dics.all fun p => dicB K p.1 p.2) && decide (L.tf.map fun p => (He.cT K p).2).Nodup
/-! ### what is to be seen in the text -/
def scB (d : DefI) : Bool := decide (d.scope.kind = .function) && !d.scope.isCoroutine && !d.scope.isGenerator && decide d.N.Nodup && decide (d.N.take d.ps.length = d.ps) && (d.ps.all fun x => decide (d.scope.names.lookup x = some .local) || decide (d.scope.names.lookup x = some .cell)) && (d.scope.names.all fun y => !decide (y.2 = .free))
theorem scB_ok {d : DefI} (h : scB d = true) : FnScope d.N d.ps d.scope := by
  unfold scB at h
  simp only [Bool.and_eq_true, decide_eq_true_iff, Bool.not_eq_true', List.all_eq_true, Bool.or_eq_true, decide_eq_false_iff_not] at h
  obtain ⟨⟨⟨⟨⟨⟨h1, h2⟩, h3⟩, h4⟩, h5⟩, h6⟩, h7⟩ := h
  exact ⟨h1, h2, h3, h4, h5, h6, h7⟩
def arB (d : DefI) : Bool := d.params.posonlyargs.isEmpty && decide (d.params.args.map (·.arg) = d.ps) && d.params.vararg.isNone && d.params.kwonlyargs.isEmpty && d.params.kwarg.isNone
theorem arB_ok {K : PySem.W.Frag} {d : DefI} {f : Addr} {fd : FuncData} (h : arB d = true) (FN : FunD K d.name d.qual d.params d.body d.scope [] [] f fd) : PlainP fd d.ps := by
  unfold arB at h
  simp only [Bool.and_eq_true, decide_eq_true_iff, List.isEmpty_iff, Option.isNone_iff_eq_none] at h
  obtain ⟨⟨⟨⟨h1, h2⟩, h3⟩, h4⟩, h5⟩ := h
  obtain ⟨oc, od, dV, kV, doc, pm, an, cdv, ct, osl, rfl, _, _, hd, _⟩ := FN.ex
  refine ⟨h1, h2, h3, h4, h5, ?_⟩
  rcases hd with ⟨_, hd⟩ | ⟨hd, _⟩
  · exact hd
  · exact absurd rfl hd
def Dat.okB (L : Dat) : Bool := (L.ds.all fun d => scB d && arB d)
/-- what the fields of a law's Fx are -/
def Dat.fx (L : Dat) (K : PySem.W.Frag) : Fx where
  K := K
  fa := fun g => match L.ds[g]? with
    | some d => He.ga K d.name
    | none => 0
  clo := CloF K (fun g => match L.ds[g]? with
    | some d => He.ga K d.name
    | none => 0) (LKof L.glb)
  T := L.lams.map fun d => ((He.cT K (Dat.at_ d)).2, (d.qual ++ ".<locals>." : Str) ++ "<lambda>")
  par := fun g => match L.ds[g]? with
    | some d => d.ps
    | none => []
theorem Dat.fx_fa {L : Dat} {K : PySem.W.Frag} {g : Nat} {d : DefI} (h : L.defs g = some d) : (L.fx K).fa g = He.fAd K (Dat.at_ d) := by
  have h : L.ds[g]? = some d := h
  show (match L.ds[g]? with
    | some d => He.ga K d.name
    | none => 0) = _
  rw [h]
  rfl
theorem zipIdx_get {α : Type} {l : List α} {a : α} {i : Nat} (h : (a, i) ∈ l.zipIdx) : l[i]? = some a := by
  rw [List.mem_zipIdx_iff_getElem?] at h
  exact h
section
variable {w : World} {K : PySem.W.Frag} {mg : Str → Option Value} {base h : Heap} {L : Dat}
theorem prg_of (hok : L.okB = true) (X : K.In h) (G : h.Ns mainGlobals mg) (S : He.SaysX L.fa L.fn L.ts L.tf L.ex w h K) (hb : ∀ p ∈ L.tf.map (He.cT K), LamX.TabB base mg p.1 p.2) : PrgOk w K mg base (L.fx K) L.glb L.con L.defs := by
  have SD := S.t.d
  have hex := S.more
  unfold Dat.ex at hex
  simp only [Bool.and_eq_true, decide_eq_true_iff, List.all_eq_true] at hex
  obtain ⟨⟨⟨⟨_, hlits⟩, hcons⟩, hdics⟩, hnd⟩ := hex
  have hds : ∀ d, d ∈ L.ds → scB d = true ∧ arB d = true := fun d hd => by
    have := List.all_eq_true.mp hok d hd
    rwa [Bool.and_eq_true] at this
  have mem : ∀ {g d}, L.defs g = some d → d ∈ L.ds := fun {g d} hd => List.mem_of_getElem? hd
  have fnd : ∀ {d}, d ∈ L.ds → ∃ fd, FunD K d.name d.qual d.params d.body d.scope [] [] (He.fAd K (Dat.at_ d)) fd := fun {d} hd => SD.defs (d := ⟨Dat.at_ d, d.name, d.qual, d.params, d.body, d.scope, [], []⟩) (List.mem_map.mpr ⟨d, hd, rfl⟩)
  have glk : ∀ {x k}, L.glb.lookup x = some k → (∃ d g, L.defs g = some d ∧ x = d.name ∧ k = .fn g d.ps) ∨ (∃ c, (x, c) ∈ L.lits ∧ k = .lit c) ∨ (∃ d i, L.cons[i]? = some (x, d) ∧ k = .con i) ∨ (∃ kvs, (x, kvs) ∈ L.dics ∧ k = .dic kvs) ∨ (x ∈ L.blts ∧ k = .blt) := fun {x k} hk => by
    have := lookup_memL hk
    unfold Dat.glb at this
    simp only [List.mem_append, List.mem_map, Prod.mk.injEq] at this
    rcases this with ⟨⟨d, g⟩, h1, h2, h3⟩ | ⟨⟨y, c⟩, h1, h2, h3⟩ | ⟨⟨⟨y, d⟩, i⟩, h1, h2, h3⟩ | ⟨⟨y, kvs⟩, h1, h2, h3⟩ | ⟨y, h1, h2, h3⟩
    · exact .inl ⟨d, g, zipIdx_get h1, h2.symm, h3.symm⟩
    · simp only at h2 h3
      subst h2
      exact .inr (.inl ⟨c, h1, h3.symm⟩)
    · simp only at h2 h3
      subst h2
      exact .inr (.inr (.inl ⟨d, i, zipIdx_get h1, h3.symm⟩))
    · simp only at h2 h3
      subst h2
      exact .inr (.inr (.inr (.inl ⟨kvs, h1, h3.symm⟩)))
    · subst h2
      exact .inr (.inr (.inr (.inr ⟨h1, h3.symm⟩)))
  refine ⟨rfl, ⟨fun H H' f np ns b cs k q => CloF.keep k q⟩, rfl, fun g d hd => ?_, fun g d hd => scB_ok (hds d (mem hd)).1, fun g d hd => ?_, fun x g ps hx => ?_, fun x k hx => ?_, fun x k hx d hd => ?_, fun x kvs hx => ?_, fun x hx => ?_, fun g d oc od fd osl hd hl hk => ?_⟩
  · rw [Dat.fx_fa hd]
    obtain ⟨fd, FN⟩ := fnd (mem hd)
    exact ⟨fd, FN, arB_ok (hds d (mem hd)).2 FN⟩
  · have hd : L.ds[g]? = some d := hd
    show (match L.ds[g]? with
      | some d => d.ps
      | none => []) = _
    rw [hd]
  · rcases glk hx with ⟨d, g', h1, rfl, h3⟩ | ⟨c, _, h3⟩ | ⟨d, i, _, h3⟩ | ⟨kvs, _, h3⟩ | ⟨_, h3⟩
    · cases h3
      refine ⟨?_, ?_⟩
      · rw [Dat.fx_fa h1]
        exact He.glo_ok X G (SD.facts (List.mem_append_left _ (List.mem_map.mpr ⟨d, mem h1, rfl⟩)))
      · have h1 : L.ds[g]? = some d := h1
        show (match L.ds[g]? with
          | some d => d.ps
          | none => []) = _
        rw [h1]
    all_goals cases h3
  · rcases glk hx with ⟨d, g', _, _, h3⟩ | ⟨c, h1, h3⟩ | ⟨d, i, _, h3⟩ | ⟨kvs, _, h3⟩ | ⟨_, h3⟩
    · cases h3
    · cases h3
      exact cnB_ok X G (hlits _ h1)
    all_goals cases h3
  · rcases glk hx with ⟨d, g', _, _, h3⟩ | ⟨c, _, h3⟩ | ⟨d', i, h1, h3⟩ | ⟨kvs, _, h3⟩ | ⟨_, h3⟩
    · cases h3
    · cases h3
    · cases h3
      have e : d' = d := by
        have hd : (L.cons[k]?).map (·.2) = some d := hd
        rw [h1] at hd
        exact Option.some.inj hd
      subst e
      exact conB_ok X G (hcons _ (List.mem_of_getElem? h1))
    all_goals cases h3
  · rcases glk hx with ⟨d, g', _, _, h3⟩ | ⟨c, _, h3⟩ | ⟨d', i, _, h3⟩ | ⟨kvs', h1, h3⟩ | ⟨_, h3⟩
    · cases h3
    · cases h3
    · cases h3
    · cases h3
      refine dicB_ok X G (hdics _ h1) ?_
      have e : L.ts.map (fun t => He.dicW K (t.1 K)) = L.ts.map fun t => some (He.keysIn w.params t.2) := congrArg (fun z : He.AlT => z.2) S.t
      obtain ⟨i, hi⟩ := List.mem_iff_getElem?.mp h1
      have e2 : (L.ts.map fun t => He.dicW K (t.1 K))[i]? = (L.ts.map fun t => some (He.keysIn w.params t.2))[i]? := by rw [e]
      unfold Dat.ts at e2
      rw [List.map_map, List.map_map, List.getElem?_map, List.getElem?_map, hi] at e2
      exact Option.some.inj e2
    · cases h3
  · rcases glk hx with ⟨d, g', _, _, h3⟩ | ⟨c, _, h3⟩ | ⟨d', i, _, h3⟩ | ⟨kvs', _, h3⟩ | ⟨h1, h3⟩
    · cases h3
    · cases h3
    · cases h3
    · cases h3
    · exact He.free_ok X G (SD.facts (List.mem_append_right _ (List.mem_map.mpr ⟨x, h1, rfl⟩)))
  · rw [Dat.fx_fa hd] at hk
    obtain ⟨fd', FN⟩ := fnd (mem hd)
    obtain ⟨oc', od', dV, kV, doc, pm, an, cdv, ct, osl', rfl, lk, hcd, _, _⟩ := FN.ex
    rw [hk] at lk
    cases lk
    obtain ⟨c, rfl⟩ := He.codeIn_ref hcd
    have hc := He.codeOf_eq hk rfl
    have hlm : d ∈ L.lams := List.mem_filter.mpr ⟨mem hd, hl⟩
    have htf : Dat.at_ d ∈ L.tf := List.mem_map.mpr ⟨d, hlm, rfl⟩
    have tb := hb _ (List.mem_map.mpr ⟨_, htf, rfl⟩)
    refine ⟨c, (He.cT K (Dat.at_ d)).2, rfl, ?_, List.mem_map.mpr ⟨d, hlm, rfl⟩, fun p hp e => ?_⟩
    · have e : (He.cT K (Dat.at_ d)).1 = c := hc
      rw [← e]
      exact tb
    · obtain ⟨d', hd', rfl⟩ := List.mem_map.mp hp
      obtain ⟨i, hi⟩ := List.mem_iff_getElem?.mp hlm
      obtain ⟨j, hj⟩ := List.mem_iff_getElem?.mp hd'
      have hnd' : (L.lams.map fun d => (He.cT K (Dat.at_ d)).2).Nodup := by
        have e : (L.tf.map fun p => (He.cT K p).2) = L.lams.map fun d => (He.cT K (Dat.at_ d)).2 := by
          unfold Dat.tf
          rw [List.map_map]
          rfl
        rw [← e]
        exact hnd
      have hij : i = j := nodup_get hnd' (k := (He.cT K (Dat.at_ d)).2) (by rw [List.getElem?_map, hi]; rfl) (by rw [List.getElem?_map, hj]; exact congrArg some e)
      subst hij
      rw [hi] at hj
      cases hj
      rfl
/-- the law's end -/
theorem law_at {l : PySem.W.OpenLaw} {fa : Addr} {x : Str} {g n m fuel : Nat} {d : DefI} (hok : L.okB = true) (X : K.In h) (G : h.Ns mainGlobals mg) (S : He.SaysX L.fa L.fn L.ts L.tf L.ex w h K) (hd : L.defs g = some d) (hps : d.ps = [x]) (hfa : mg d.name = some (.ref fa))
    (plain : ∀ ns : List Int, ns.length ≤ m → (∀ z ∈ ns, Builtin.Int.intBits z ≤ 1048576) → ∃ os, (gmOf L.con (fdOf L.glb fuel L.defs) (n + 1)).call g [.val (.list (ns.map PyData.int))] = some (.ok (.val (.bool true)) os)) :
    LamX.LawAtS l w K CX0 (n + 1) m x mg fa h := by
  have SD := S.t.d
  have hdm : d ∈ L.ds := List.mem_of_getElem? hd
  obtain ⟨fd, FN⟩ := SD.defs (d := ⟨Dat.at_ d, d.name, d.qual, d.params, d.body, d.scope, [], []⟩) (List.mem_map.mpr ⟨d, hdm, rfl⟩)
  have e1 : mg d.name = some (.ref (He.ga K d.name)) := He.glo_ok X G (SD.facts (List.mem_append_left _ (List.mem_map.mpr ⟨d, hdm, rfl⟩)))
  rw [hfa] at e1
  cases e1
  have har : scB d = true ∧ arB d = true := by
    have := List.all_eq_true.mp hok d hdm
    rwa [Bool.and_eq_true] at this
  have pp := arB_ok har.2 FN
  have hex := S.more
  unfold Dat.ex at hex
  simp only [Bool.and_eq_true] at hex
  have nl := noListB_ok hex.1.1.1.1
  have efa : (L.fx K).fa g = He.fAd K (Dat.at_ d) := Dat.fx_fa hd
  refine ⟨fd, L.tf.map (He.cT K), spLaw (L.fx K) m, fun p hp => ?_, fun p hp => ?_, fun p hp => ?_, fun s u => ?_, fun H a ns hl hbits hT hS => ?_, fun base KX GX hT => ?_⟩
  · obtain ⟨q, hq, rfl⟩ := List.mem_map.mp hp
    exact S.empty q hq
  · obtain ⟨q, hq, rfl⟩ := List.mem_map.mp hp
    exact S.out q hq
  · obtain ⟨q, hq, rfl⟩ := List.mem_map.mp hp
    exact PySem.W.codeHd_of_K X (S.hd q hq)
  · have nd : d.ps.Nodup := by rw [hps]; simp
    have b := bind_pos pp nd (us := [u]) (by rw [hps]; rfl)
    rw [hps] at b
    exact .of_eq b
  · refine ⟨a, ns, rfl, hl, hbits, fun p hp => ?_, hS, fun _ => rfl⟩
    obtain ⟨q, hq, rfl⟩ := List.mem_map.mp hp
    exact LamX.TabS.nil (hT _ (List.mem_map.mpr ⟨Dat.at_ q, List.mem_map.mpr ⟨q, hq, rfl⟩, rfl⟩))
  · have O := prg_of (base := base) hok X G S hT
    have := law_fn (Pg := l.prog) (m := m) O (n := n) hd (by rw [efa]; exact FN) hps nl plain
    rw [efa] at this
    exact this
end
end Mi
end

section
set_option maxRecDepth 100000
set_option maxHeartbeats 1000000
/-! Mi: plain laws about evaluations: loops by invariants, calls. -/
namespace Mi
open PySem L2
theorem gcall {con : Nat → Option D} {fn : Nat → Option Fd} {n g np ns : Nat} {b : CSs} {as : List Sl} (h : fn g = some ⟨np, ns, b⟩) (hl : as.length = np) : (gmOf con fn (n + 1)).call g as = endF np (evSs (gmOf con fn n) b (startE ns as)) := by
  show (match fn g with
    | some f => if as.length == f.np then endF f.np (evSs (gmOf con fn n) f.body (startE f.ns as)) else none
    | none => none) = _
  rw [h]
  show (if as.length == np then _ else _) = _
  rw [hl, if_pos (beq_self_eq_true np)]
theorem gclo {con : Nat → Option D} {fn : Nat → Option Fd} {n np ns : Nat} {b : CE} {cs as : List Sl} (hl : as.length = np) (hp : as.all Sl.pl = true) : (gmOf con fn (n + 1)).clo np ns b cs as = match evE (gmOf con fn n) b (startE ns (as ++ cs)) with
      | some (.ok (.bor _) _) => none
      | some (.ok v e) => some (.ok v (outs np e))
      | _ => none := by
  show (if as.length == np && as.all Sl.pl then _ else _) = _
  rw [hl, hp, if_pos (by simp)]
  all_goals
    cases evE (gmOf con fn n) b (startE ns (as ++ cs)) with
    | none => rfl
    | some r =>
      cases r with
      | exc x e => rfl
      | ok v e => cases v <;> rfl
theorem lenOk_of {n : Nat} (h : n ≤ 16777216) : lenOk n = true := Nat.ble_eq_true_of_le h
/-- a comprehension that maps and picks, with nothing changed -/
theorem loop_map {own : List Nat} {tg : D → M Unit} {tt : M Bool} {te : M D} {f : D → D} {p : D → Bool} {e0 : En} : ∀ (items : List D) (acc : List D) (e : En), wipe own e = e0 → acc.length + items.length ≤ 16777216 →
    (∀ x, x ∈ items → ∃ e1 e2, tg x e0 = some (.ok () e1) ∧ tt e1 = some (.ok (p x) e2) ∧ (p x = true → ∃ e3, te e2 = some (.ok (f x) e3) ∧ wipe own e3 = e0) ∧ (p x = false → wipe own e2 = e0)) →
    ∃ e', loopM own tg tt te items acc e = some (.ok (acc ++ (items.filter p).map f) e') ∧ wipe own e' = e0
  | [], acc, e, he, _, _ => ⟨e, by simp [loopM, M.ret], he⟩
  | x :: r, acc, e, he, hl, h => by
    obtain ⟨e1, e2, h1, h2, h3, h4⟩ := h x List.mem_cons_self
    simp only [List.length_cons] at hl
    cases hp : p x with
    | true =>
      obtain ⟨e3, h5, h6⟩ := h3 hp
      obtain ⟨e', h7, h8⟩ := loop_map r (acc ++ [f x]) e3 h6 (by rw [List.length_append, List.length_singleton]; omega) fun y hy => h y (List.mem_cons_of_mem _ hy)
      refine ⟨e', ?_, h8⟩
      simp only [loopM, he]
      simp only [M.bnd, h1, h2, hp, if_true, h5, lenOk_of (show acc.length + 1 ≤ 16777216 by omega)]
      rw [h7, List.filter_cons_of_pos hp, List.map_cons, List.append_assoc]
      rfl
    | false =>
      have h6 := h4 hp
      obtain ⟨e', h7, h8⟩ := loop_map r acc e2 h6 (by omega) fun y hy => h y (List.mem_cons_of_mem _ hy)
      refine ⟨e', ?_, h8⟩
      simp only [loopM, he]
      simp only [M.bnd, h1, h2, hp, Bool.false_eq_true, if_false]
      rw [h7, List.filter_cons_of_neg (by rw [hp]; exact Bool.false_ne_true)]
theorem comp_map {own : List Nat} {tg : D → M Unit} {tt : M Bool} {te : M D} {f : D → D} {p : D → Bool} {items : List D} {e : En} (hw : own.all (fun i => !(e.g i).ly) = true) (he : wipe own (wipe own e) = wipe own e) (hl : items.length ≤ 16777216)
    (h : ∀ x, x ∈ items → ∃ e1 e2, tg x (wipe own e) = some (.ok () e1) ∧ tt e1 = some (.ok (p x) e2) ∧ (p x = true → ∃ e3, te e2 = some (.ok (f x) e3) ∧ wipe own e3 = wipe own e) ∧ (p x = false → wipe own e2 = wipe own e)) :
    comp own (loopM own tg tt te items []) e = some (.ok (.fr ((items.filter p).map f)) (wipe own e)) := by
  obtain ⟨e', h1, h2⟩ := loop_map (f := f) (p := p) items [] (wipe own e) he (by simpa using hl) h
  unfold comp
  rw [if_pos hw, h1]
  simp only [List.nil_append]
  rw [h2]
/-- a comprehension with an invariant -/
theorem loop_inv {own : List Nat} {tg : D → M Unit} {te : M D} {I : Nat → List D → En → Prop} : ∀ (items : List D) (k : Nat) (acc : List D) (e : En), I k acc (wipe own e) → acc.length + items.length ≤ 16777216 →
    (∀ k acc x e, x ∈ items → I k acc e → ∃ e1 e2 y, tg x e = some (.ok () e1) ∧ te e1 = some (.ok y e2) ∧ I (k + 1) (acc ++ [y]) (wipe own e2)) →
    ∃ e' acc', loopM own tg (M.ret true) te items acc e = some (.ok acc' e') ∧ I (k + items.length) acc' (wipe own e')
  | [], k, acc, e, hi, _, _ => ⟨e, acc, by simp [loopM, M.ret], by simpa using hi⟩
  | x :: r, k, acc, e, hi, hl, h => by
    obtain ⟨e1, e2, y, h1, h2, h3⟩ := h k acc x _ List.mem_cons_self hi
    simp only [List.length_cons] at hl
    obtain ⟨e', acc', h4, h5⟩ := loop_inv r (k + 1) (acc ++ [y]) e2 h3 (by rw [List.length_append, List.length_singleton]; omega) fun k acc z e hz => h k acc z e (List.mem_cons_of_mem _ hz)
    refine ⟨e', acc', ?_, by rw [List.length_cons]; rwa [show k + 1 + r.length = k + (r.length + 1) by omega] at h5⟩
    simp only [loopM]
    simp only [M.bnd, h1, M.ret, if_true, h2, lenOk_of (show acc.length + 1 ≤ 16777216 by omega)]
    exact h4
/-- a loop with an invariant; it may end by a return -/
theorem for_inv {tg : D → M Unit} {b : En → Option Fl} {I : Nat → En → Prop} {R : EV → En → Prop} : ∀ (items : List D) (k : Nat) (e : En), I k e →
    (∀ j x e, items[j]? = some x → I (k + j) e → ∃ e1, tg x e = some (.ok () e1) ∧ ∃ fl, b e1 = some fl ∧ ((∃ e2, (fl = .nx e2 ∨ fl = .ct e2) ∧ I (k + j + 1) e2) ∨ ∃ v e2, fl = .rt v e2 ∧ R v e2)) →
    ∃ fl, forM tg b items e = some fl ∧ ((∃ e', fl = .nx e' ∧ I (k + items.length) e') ∨ ∃ v e', fl = .rt v e' ∧ R v e')
  | [], k, e, hi, _ => ⟨.nx e, rfl, .inl ⟨e, rfl, by simpa using hi⟩⟩
  | x :: r, k, e, hi, h => by
    obtain ⟨e1, h1, fl, h2, h3⟩ := h 0 x e rfl (by simpa using hi)
    have step : ∀ e2, I (k + 1) e2 → ∃ fl, forM tg b r e2 = some fl ∧ ((∃ e', fl = .nx e' ∧ I (k + (x :: r).length) e') ∨ ∃ v e', fl = .rt v e' ∧ R v e') := fun e2 hi2 => by
      obtain ⟨fl, q1, q2⟩ := for_inv r (k + 1) e2 hi2 fun j y e hy hj => by
        have := h (j + 1) y e (by rw [List.getElem?_cons_succ]; exact hy) (by rwa [show k + (j + 1) = k + 1 + j by omega])
        rwa [show k + (j + 1) + 1 = k + 1 + j + 1 by omega] at this
      refine ⟨fl, q1, ?_⟩
      rw [List.length_cons]
      rwa [show k + 1 + r.length = k + (r.length + 1) by omega] at q2
    rcases h3 with ⟨e2, hf | hf, hi2⟩ | ⟨v, e2, hf, hr⟩
    · obtain ⟨fl', q1, q2⟩ := step e2 (by simpa using hi2)
      refine ⟨fl', ?_, q2⟩
      subst hf
      simp only [forM, h1, h2]
      exact q1
    · obtain ⟨fl', q1, q2⟩ := step e2 (by simpa using hi2)
      refine ⟨fl', ?_, q2⟩
      subst hf
      simp only [forM, h1, h2]
      exact q1
    · subst hf
      exact ⟨.rt v e2, by simp only [forM, h1, h2], .inr ⟨v, e2, rfl, hr⟩⟩
/-- a while loop with a measure -/
theorem while_inv {c : M Bool} {b : En → Option Fl} {I : Nat → En → Prop} {Z : Fl → Prop} : ∀ (m k : Nat) (e : En), m < k → I m e →
    (∀ m e, I m e → ∃ t e1, c e = some (.ok t e1) ∧ (t = false → Z (.nx e1)) ∧ (t = true → ∃ fl, b e1 = some fl ∧ ((∃ e2 m', (fl = .nx e2 ∨ fl = .ct e2) ∧ m' < m ∧ I m' e2) ∨ ∃ v e2, fl = .rt v e2 ∧ Z fl))) →
    ∃ fl, whileM c b k e = some fl ∧ Z fl := by
  intro m
  induction m using Nat.strongRecOn with
  | ind m ih =>
    intro k e hk hi h
    cases k with
    | zero => omega
    | succ k =>
      obtain ⟨t, e1, h1, h2, h3⟩ := h m e hi
      cases t with
      | false => exact ⟨.nx e1, by simp only [whileM, h1], h2 rfl⟩
      | true =>
        obtain ⟨fl, h4, h5⟩ := h3 rfl
        rcases h5 with ⟨e2, m', hf, hm, hi2⟩ | ⟨v, e2, hf, hz⟩
        · obtain ⟨fl', q1, q2⟩ := ih m' hm k e2 (by omega) hi2 h
          refine ⟨fl', ?_, q2⟩
          rcases hf with hf | hf <;> (subst hf; simp only [whileM, h1, h4]; exact q1)
        · refine ⟨fl, ?_, hz⟩
          subst hf
          simp only [whileM, h1, h4]
theorem ly_no : Sl.no.ly = false := rfl
theorem ly_val {d : D} : (Sl.val d).ly = false := rfl
theorem ly_fn {g : Nat} : (Sl.fn g).ly = false := rfl
theorem ly_clo {np ns : Nat} {b : CE} {cs : List Sl} : (Sl.clo np ns b cs).ly = false := rfl
theorem putV_v {i : Nat} {d : D} {e : En} (h : (e.g i).ly = false) : putV i (.val d) e = some (.ok () (e.set i (.val d))) := by
  unfold putV
  cases q : e.g i <;> first | rfl | (rw [q] at h; cases h)
theorem putV_l {i : Nat} {xs : List D} {e : En} (h : (e.g i).ly = false) : putV i (.fr xs) e = some (.ok () (e.set i (.own xs))) := by
  unfold putV
  cases q : e.g i <;> first | rfl | (rw [q] at h; cases h)
theorem putV_ov {i : Nat} {d : D} {e : En} {ys : List D} (h : e.g i = .own ys) : putV i (.val d) e = some (.ok () (e.set i (.val d))) := by
  unfold putV
  rw [h]
theorem putV_ol {i : Nat} {xs : List D} {e : En} {ys : List D} (h : e.g i = .own ys) : putV i (.fr xs) e = some (.ok () (e.set i (.own xs))) := by
  unfold putV
  rw [h]
theorem at_some {α : Type} {xs : List α} {r : Int} (h0 : 0 ≤ r) (h1 : r < xs.length) : ∃ x, x ∈ xs ∧ L2.atI xs r = some x := by
  have hl : r.toNat < xs.length := by omega
  refine ⟨xs[r.toNat], List.getElem_mem hl, ?_⟩
  unfold L2.atI L2.ixN
  rw [if_pos h0, if_pos h1]
  exact List.getElem?_eq_getElem hl
theorem lenOk_0 : lenOk 0 = true := rfl
theorem eqOk_int {a b : Int} : eqOk (.int a) (.int b) = true := by simp [eqOk, shal, nod]
theorem eqOk_str {a b : Str} : eqOk (.str a) (.str b) = true := by simp [eqOk, shal, nod]
theorem eqOk_bool {a b : Bool} : eqOk (.bool a) (.bool b) = true := by simp [eqOk, shal, nod]
theorem eqv_int {a b : Int} : PyData.eqv (.int a) (.int b) = (a == b) := by simp [PyData.eqv]
theorem eqv_str {a b : Str} : PyData.eqv (.str a) (.str b) = (a == b) := by simp [PyData.eqv]
theorem eqv_bool {a b : Bool} : PyData.eqv (.bool a) (.bool b) = (a == b) := by simp [PyData.eqv]
theorem nodL_strs : ∀ ss : List Str, nodL (ss.map PyData.str) = true
  | [] => by simp [nodL]
  | s :: r => by simp [nodL, nod, nodL_strs r]
theorem shal_str {n : Nat} {s : Str} : shal n (.str s) = true := by cases n <;> rfl
theorem mem_strs {s : Str} {ss : List Str} : memD (.str s) (ss.map PyData.str) = some (decide (s ∈ ss)) := by
  unfold memD
  rw [shal_str, nodL_strs]
  have e : ((ss.map PyData.str).any fun y => PyData.eqv y (.str s)) = decide (s ∈ ss) := by
    induction ss with
    | nil => rfl
    | cons x r ih =>
      rw [List.map_cons, List.any_cons, ih]
      have h1 : PyData.eqv (.str x) (.str s) = (x == s) := by simp [PyData.eqv]
      rw [h1]
      by_cases h : x = s
      · subst h; simp
      · have h2 : (x == s) = false := beq_eq_false_iff_ne.mpr h
        have h3 : ¬ s = x := fun z => h z.symm
        simp [h2, h3]
  rw [e]
  simp [nod]
theorem rangeL_nth {lo c : Int} : ∀ (n i : Nat) (x : D), (rangeL lo c n)[i]? = some x → ∃ k : Int, x = .int k ∧ i < n
  | 0, i, x, h => by simp [rangeL] at h
  | n + 1, 0, x, h => by
    simp [rangeL] at h
    exact ⟨lo, h.symm, by omega⟩
  | n + 1, i + 1, x, h => by
    simp only [rangeL, List.getElem?_cons_succ] at h
    obtain ⟨k, h1, h2⟩ := rangeL_nth n i x h
    exact ⟨k, h1, by omega⟩
theorem rgOk_of {i : Int} (h : -4611686018427387904 ≤ i) (h2 : i < 4611686018427387904) : rgOk i = true := by
  unfold rgOk
  rw [decide_eq_true h, decide_eq_true h2]
  rfl
theorem smallI_of {i : Int} (h : -big < i) (h2 : i < big) : smallI i = true := by
  unfold smallI
  rw [decide_eq_true h, decide_eq_true h2]
  rfl
theorem evT_nm {i : Nat} {x : D} : evT (.nm i) x = putV i (.val x) := by simp [evT]
theorem evT_tp {ts : CTs} {xs : List D} : evT (.tp ts) (.tuple xs) = evTs ts xs := by simp [evT]
theorem evTs_nil : evTs .nil [] = M.ret () := by simp [evTs]
theorem evTs_cons {t : CT} {r : CTs} {x : D} {xs : List D} : evTs (.cons t r) (x :: xs) = (evT t x).bnd fun _ => evTs r xs := by simp [evTs]
theorem rangeD_1 {n : Int} (h : rgOk n = true) : rangeD 1 [.int n] = some (rangeL 0 1 n.toNat) := by
  unfold rangeD
  exact if_pos h
theorem smallI_lit {i : Int} (h : -big < i ∧ i < big) : smallI i = true := smallI_of h.1 h.2
theorem of_some {α : Type} {a : α} {e : En} : M.of (some a) e = some (.ok a e) := rfl
theorem of_none {α : Type} {e : En} : (M.of (none : Option α)) e = none := rfl
/-- parts of code -/
def hd : CSs → CS
  | .cons s _ => s
  | .nil => .pass
def tl : CSs → CSs
  | .cons _ r => r
  | .nil => .nil
def fb : CS → CSs
  | .forr _ _ b => b
  | .whil _ b => b
  | .iff _ a _ => a
  | _ => .nil
-- what an evaluation's laws unfold
end Mi
end

section
set_option maxRecDepth 100000
set_option maxHeartbeats 0
namespace K01
open Mi PySem PySem.W PySem.Calls PyProof.Rows L2
abbrev Prg : Program := PySem.Challenge.pw_toldanew_k01_whole_worlds_and_sentences
def top (i : Nat) : Stmt := Prg.main.body.getD i (.Pass ⟨0, 0, 0, 0⟩)
def dat : Mi.Dat where
  ds := [
    defI (top 7) ["value", "words"] false,
    defI (top 8) ["value", ".0", "sign"] false,
    defI (top 9) ["value"] false,
    defI (top 10) ["value", "least", "most", "is_right", "index", "each"] false,
    defI (top 11) ["ahead", "value"] false,
    defI (top 20) ["value"] true,
    defI (top 21) ["atoms", "found", "_", ".0", "ahead", "truth"] false,
    defI (top 22) ["atoms", "value", "line", "here", "deep", ".0", "part"] true,
    defI (top 23) ["value"] false,
    defI (top 25) ["atoms", "index"] false,
    defI (top 26) ["atoms"] false,
    defI (top 27) ["atoms", "value"] false,
    defI (top 29) ["script", "lap", "cell", "stirred", "each"] false,
    defI (top 30) ["pool", "many", "figure", "stirred"] false,
    defI (top 31) ["pool", "some"] false,
    defI (top 32) ["told", "due", "fits", ".0", "k"] true,
    defI (top 33) ["pool", "thing", "at", "some"] false,
    defI (top 34) ["words"] false,
    defI (top 35) ["pool", "used", "lap", "found", "spot", ".0", "k"] true,
    defI (top 36) ["pool", "most", "found", "lap"] false,
    defI (top 37) ["atoms", "found", "atom", "longer", "row"] false,
    defI (top 38) ["sentence", "rows", "best", "item", "depth", ".0", "part"] true,
    defI (top 39) ["pool", "atoms", "most", "rows", "lap", "one", "two", "made"] false,
    defI (top 40) ["atoms", "item", "rows", "each", "depth", ".0", "part"] true,
    defI (top 41) ["pool", "atoms", "due", "lap", "own", "a", "some", "each"] false,
    defI (top 42) ["script", "lap", "pool", ".0", "again"] true]
  lits := [("LETTERS", (.str "abcdefghijklmnopqrstuvwxyz")), ("MOST_LETTERS", (.int (8))), ("MOST_ATOMS", (.int (4))), ("MOST_DEEP", (.int (10))), ("NOT", (.str "not")), ("AND", (.str "and")), ("OR", (.str "or")), ("IF", (.str "if"))]
  cons := [("WORDS", (.tuple [(.str "all"), (.str "and"), (.str "anew"), (.str "base"), (.str "believe"), (.str "book"), (.str "case"), (.str "clash"), (.str "false"), (.str "if"), (.str "is"), (.str "least"), (.str "no"), (.str "none"), (.str "not"), (.str "of"), (.str "open"), (.str "or"), (.str "perhaps"), (.str "quit"), (.str "rank"), (.str "sure"), (.str "take"), (.str "tell"), (.str "then"), (.str "ties"), (.str "told"), (.str "true"), (.str "undo"), (.str "world"), (.str "yes")]))]
  dics := [("PARTS", [("not", (.int (1))), ("and", (.int (2))), ("or", (.int (2))), ("if", (.int (2)))])]
  blts := ["len", "abs", "int", "divmod", "sum", "any", "all", "max", "min", "sorted", "list", "tuple", "range", "enumerate", "zip", "isinstance", "bool", "str"]


abbrev k_WORDS : Nat := 0
abbrev f_is_one_of : Nat := 0
abbrev f_is_word : Nat := 1
abbrev f_is_name : Nat := 2
abbrev f_wrong_in : Nat := 3
abbrev f_are_below : Nat := 4
abbrev f_wrong_in_atoms : Nat := 5
abbrev f_worlds_by : Nat := 6
abbrev f_is_sentence_by : Nat := 7
abbrev f_has_parts : Nat := 8
abbrev f_check_atoms : Nat := 9
abbrev f_worlds : Nat := 10
abbrev f_is_sentence : Nat := 11
abbrev f__law_pool : Nat := 12
abbrev f__law_below : Nat := 13
abbrev f__law_one : Nat := 14
abbrev f__law_same : Nat := 15
abbrev f__law_bent : Nat := 16
abbrev f__law_words : Nat := 17
abbrev f__law_name : Nat := 18
abbrev f__law_atoms : Nat := 19
abbrev f__law_worlds : Nat := 20
abbrev f__law_depth : Nat := 21
abbrev f__law_sentence : Nat := 22
abbrev f__law_is_sentence : Nat := 23
abbrev f__law_right : Nat := 24
abbrev f_law : Nat := 25
/-- [(value, 0), (words, 1)] -/
def c_is_one_of : CSs :=
  (.cons (.ret (.and (.isi (.var 0) .str) (.cmp .mem (.var 0) (.var 1))))
    .nil)
/-- [(value, 0), (.0, 1), (sign, 2)] -/
def c_is_word : CSs :=
  (.cons (.ret (.and (.isi (.var 0) .str) (.and (.cmp .ne (.var 0) (.cst (.str ""))) (.bi .all (.cons false (.lc (.cmp .mem (.var 2) (.cst (.str "abcdefghijklmnopqrstuvwxyz"))) (.nm 2) (.ex (.var 0)) .no [1, 2]) .nil)))))
    .nil)
/-- [(value, 0)] -/
def c_is_name : CSs :=
  (.cons (.ret (.and (.call f_is_word (.cons false (.var 0) .nil)) (.and (.cmp .le (.bi .len (.cons false (.var 0) .nil)) (.cst (.int (8)))) (.cmp .nmem (.var 0) (.gcn k_WORDS)))))
    .nil)
/-- [(value, 0), (least, 1), (most, 2), (is_right, 3), (index, 4), (each, 5)] -/
def c_wrong_in : CSs :=
  (.cons (.iff (.or (.not (.tv (.isi (.var 0) .tuple))) (.tv (.cmp .lt (.bi .len (.cons false (.var 0) .nil)) (.var 1)))) (.cons (.ret (.lst (.cons false (.cst .non) .nil)))
    .nil) .nil)
    (.cons (.forr (.tp (.cons (.nm 4) (.cons (.nm 5) .nil))) (.en (.cons false (.var 0) .nil)) (.cons (.iff (.or (.tv (.cmp .eq (.var 4) (.var 2))) (.not (.tv (.cal 3 (.cons false (.sl (.var 0) .no (.yes (.var 4))) (.cons false (.var 5) .nil)))))) (.cons (.ret (.lst (.cons false (.var 4) .nil)))
    .nil) .nil)
    .nil))
    (.cons (.ret (.lst .nil))
    .nil)))
/-- [(ahead, 0), (value, 1)] -/
def c_are_below : CSs :=
  (.cons (.ret (.or (.cmp .eq (.var 0) (.tup .nil)) (.cmp .lt (.ix (.var 0) (.un .neg (.cst (.int (1))))) (.var 1))))
    .nil)
/-- [(value, 0)] -/
def c_wrong_in_atoms : CSs :=
  (.cons (.ret (.calll f_wrong_in (.cons false (.var 0) (.cons false (.cst (.int (1))) (.cons false (.cst (.int (4))) .nil))) 2 2 (.and (.call f_is_name (.cons false (.var 1) .nil)) (.call f_are_below (.cons false (.var 0) (.cons false (.var 1) .nil)))) []))
    .nil)
/-- [(atoms, 0), (found, 1), (_, 2), (.0, 3), (ahead, 4), (truth, 5)] -/
def c_worlds_by : CSs :=
  (.cons (.asg (.nm 1) (.lst (.cons false (.tup .nil) .nil)))
    (.cons (.forr (.nm 2) (.ex (.var 0)) (.cons (.asg (.nm 1) (.lc2 (.tup (.cons true (.var 4) (.cons false (.var 5) .nil))) (.nm 4) (.ex (.var 1)) .no (.nm 5) (.tup (.cons false (.cst (.bl false)) (.cons false (.cst (.bl true)) .nil))) .no [3, 4, 5] [5]))
    .nil))
    (.cons (.ret (.bi .tuple (.cons false (.var 1) .nil)))
    .nil)))
/-- [(atoms, 0), (value, 1), (line, 2), (here, 3), (deep, 4), (.0, 5), (part, 6)] -/
def c_is_sentence_by : CSs :=
  (.cons (.asg (.nm 2) (.lst (.cons false (.tup (.cons false (.var 1) (.cons false (.cst (.int (0))) .nil))) .nil)))
    (.cons (.whil (.tv (.cmp .ne (.var 2) (.lst .nil))) (.cons (.asg (.tp (.cons (.nm 3) (.cons (.nm 4) .nil))) (.pop 2))
    (.cons (.iff (.not (.tv (.call f_is_one_of (.cons false (.var 3) (.cons false (.var 0) .nil))))) (.cons (.iff (.or (.tv (.cmp .eq (.var 4) (.cst (.int (10))))) (.not (.tv (.call f_has_parts (.cons false (.var 3) .nil))))) (.cons (.ret (.cst (.bl false)))
    .nil) .nil)
    (.cons (.expr (.ext 2 (.lc (.tup (.cons false (.var 6) (.cons false (.bin .add (.var 4) (.cst (.int (1)))) .nil))) (.nm 6) (.ex (.sl (.var 3) (.yes (.cst (.int (1)))) .no)) .no [5, 6])))
    .nil)) .nil)
    .nil)))
    (.cons (.ret (.cst (.bl true)))
    .nil)))
/-- [(value, 0)] -/
def c_has_parts : CSs :=
  (.cons (.iff (.or (.not (.tv (.isi (.var 0) .tuple))) (.or (.tv (.cmp .eq (.var 0) (.tup .nil))) (.not (.tv (.call f_is_one_of (.cons false (.ix (.var 0) (.cst (.int (0)))) (.cons false (.lst (.cons false (.cst (.str "not")) (.cons false (.cst (.str "and")) (.cons false (.cst (.str "or")) (.cons false (.cst (.str "if")) .nil))))) .nil))))))) (.cons (.ret (.cst (.bl false)))
    .nil) .nil)
    (.cons (.ret (.cmp .eq (.bi .len (.cons false (.var 0) .nil)) (.bin .add (.look [("not", (.int (1))), ("and", (.int (2))), ("or", (.int (2))), ("if", (.int (2)))] (.ix (.var 0) (.cst (.int (0))))) (.cst (.int (1))))))
    .nil))
/-- [(atoms, 0), (index, 1)] -/
def c_check_atoms : CSs :=
  (.cons (.forr (.nm 1) (.ex (.call f_wrong_in_atoms (.cons false (.var 0) .nil))) (.cons .bad
    .nil))
    .nil)
/-- [(atoms, 0)] -/
def c_worlds : CSs :=
  (.cons (.expr (.call f_check_atoms (.cons false (.var 0) .nil)))
    (.cons (.ret (.call f_worlds_by (.cons false (.var 0) .nil)))
    .nil))
/-- [(atoms, 0), (value, 1)] -/
def c_is_sentence : CSs :=
  (.cons (.expr (.call f_check_atoms (.cons false (.var 0) .nil)))
    (.cons (.ret (.call f_is_sentence_by (.cons false (.var 0) (.cons false (.var 1) .nil))))
    .nil))
/-- [(script, 0), (lap, 1), (cell, 2), (stirred, 3), (each, 4)] -/
def c__law_pool : CSs :=
  (.cons (.asg (.nm 2) (.ife (.tv (.cmp .lt (.var 1) (.bi .len (.cons false (.var 0) .nil)))) (.bi .int (.cons false (.ix (.var 0) (.var 1)) .nil)) (.bin .add (.bin .mul (.cst (.int (10273))) (.var 1)) (.cst (.int (1237))))))
    (.cons (.asg (.nm 3) (.bin .add (.cst (.int (100049))) (.bin .mul (.cst (.int (9013))) (.var 1))))
    (.cons (.forr (.nm 4) (.ex (.sl (.var 0) .no (.yes (.cst (.int (63)))))) (.cons (.asg (.nm 3) (.bin .mod (.bi .int (.cons false (.bin .add (.bin .add (.bin .mul (.var 3) (.cst (.int (40699)))) (.bin .mod (.bi .int (.cons false (.var 4) .nil)) (.cst (.int (2147483587))))) (.cst (.int (23)))) .nil)) (.cst (.int (2147483629)))))
    .nil))
    (.cons (.asg (.nm 3) (.bin .mod (.bi .int (.cons false (.bin .add (.bin .add (.bin .mul (.var 3) (.cst (.int (97)))) (.bin .mul (.bin .mod (.bi .int (.cons false (.var 2) .nil)) (.cst (.int (2147483587)))) (.cst (.int (31013))))) (.cst (.int (7)))) .nil)) (.cst (.int (2147483629)))))
    (.cons (.ret (.lst (.cons false (.ife (.or (.tv (.cmp .lt (.var 2) (.cst (.int (0))))) (.tv (.cmp .ge (.var 2) (.bin .pow (.cst (.int (10))) (.cst (.int (15))))))) (.bi .abs (.cons false (.var 2) .nil)) (.cst (.int (0)))) (.cons false (.var 3) (.cons false (.cst (.int (0))) .nil)))))
    .nil)))))
/-- [(pool, 0), (many, 1), (figure, 2), (stirred, 3)] -/
def c__law_below : CSs :=
  (.cons (.iff (.tv (.cmp .gt (.ix (.var 0) (.cst (.int (0)))) (.cst (.int (0))))) (.cons (.sasg 0 (.cst (.int (0))) 2 (.bi .divmod (.cons false (.ix (.var 0) (.cst (.int (0)))) (.cons false (.var 1) .nil))))
    (.cons (.ret (.var 2))
    .nil)) .nil)
    (.cons (.sset 0 (.cst (.int (2))) (.bin .add (.ix (.var 0) (.cst (.int (2)))) (.cst (.int (1)))))
    (.cons (.asg (.nm 3) (.bin .mod (.bi .int (.cons false (.bin .add (.bin .add (.bin .mul (.ix (.var 0) (.cst (.int (1)))) (.cst (.int (48677)))) (.bin .mul (.cst (.int (3413))) (.ix (.var 0) (.cst (.int (2)))))) (.cst (.int (61)))) .nil)) (.cst (.int (2147483563)))))
    (.cons (.sset 0 (.cst (.int (1))) (.bin .mod (.bi .int (.cons false (.bin .add (.bin .mul (.var 3) (.bin .add (.bin .mod (.bi .int (.cons false (.var 3) .nil)) (.cst (.int (4001)))) (.cst (.int (17911))))) (.ix (.var 0) (.cst (.int (2))))) .nil)) (.cst (.int (2147483563)))))
    (.cons (.ret (.bin .mod (.bi .int (.cons false (.bin .fdiv (.ix (.var 0) (.cst (.int (1)))) (.cst (.int (367)))) .nil)) (.var 1)))
    .nil)))))
/-- [(pool, 0), (some, 1)] -/
def c__law_one : CSs :=
  (.cons (.ret (.ix (.var 1) (.call f__law_below (.cons false (.var 0) (.cons false (.bi .len (.cons false (.var 1) .nil)) .nil)))))
    .nil)
/-- [(told, 0), (due, 1), (fits, 2), (.0, 3), (k, 4)] -/
def c__law_same : CSs :=
  (.cons (.iff (.or (.tv (.isi (.var 1) .tuple)) (.tv (.isi (.var 1) .list))) (.cons (.asg (.nm 2) (.ife (.tv (.isi (.var 1) .tuple)) (.isi (.var 0) .tuple) (.isi (.var 0) .list)))
    (.cons (.ret (.and (.var 2) (.and (.cmp .eq (.bi .len (.cons false (.var 0) .nil)) (.bi .len (.cons false (.var 1) .nil))) (.bi .all (.cons false (.lc (.call f__law_same (.cons false (.ix (.var 0) (.var 4)) (.cons false (.ix (.var 1) (.var 4)) .nil))) (.nm 4) (.rg 1 (.cons false (.bi .len (.cons false (.var 1) .nil)) .nil)) .no [3, 4]) .nil)))))
    .nil)) .nil)
    (.cons (.iff (.tv (.cmp .isn (.var 1) (.cst .non))) (.cons (.ret (.cmp .isn (.var 0) (.cst .non)))
    .nil) .nil)
    (.cons (.iff (.tv (.isi (.var 1) .bool)) (.cons (.ret (.and (.isi (.var 0) .bool) (.cmp .eq (.var 0) (.var 1))))
    .nil) .nil)
    (.cons (.iff (.tv (.isi (.var 1) .int)) (.cons (.ret (.and (.isi (.var 0) .int) (.and (.not (.isi (.var 0) .bool)) (.cmp .eq (.var 0) (.var 1)))))
    .nil) .nil)
    (.cons (.ret (.and (.isi (.var 1) .str) (.and (.isi (.var 0) .str) (.cmp .eq (.var 0) (.var 1)))))
    .nil)))))
/-- [(pool, 0), (thing, 1), (at, 2), (some, 3)] -/
def c__law_bent : CSs :=
  (.cons (.iff (.and (.tv (.isi (.var 1) .tuple)) (.and (.tv (.cmp .ne (.var 1) (.tup .nil))) (.tv (.cmp .gt (.call f__law_below (.cons false (.var 0) (.cons false (.cst (.int (5))) .nil))) (.cst (.int (0))))))) (.cons (.asg (.nm 2) (.call f__law_below (.cons false (.var 0) (.cons false (.bi .len (.cons false (.var 1) .nil)) .nil))))
    (.cons (.ret (.bin .add (.bin .add (.sl (.var 1) .no (.yes (.var 2))) (.tup (.cons false (.call f__law_bent (.cons false (.var 0) (.cons false (.ix (.var 1) (.var 2)) .nil))) .nil))) (.sl (.var 1) (.yes (.bin .add (.var 2) (.cst (.int (1))))) .no)))
    .nil)) .nil)
    (.cons (.iff (.tv (.isi (.var 1) .tuple)) (.cons (.asg (.nm 2) (.call f__law_below (.cons false (.var 0) (.cons false (.bin .add (.bi .len (.cons false (.var 1) .nil)) (.cst (.int (1)))) .nil))))
    (.cons (.asg (.nm 3) (.lst (.cons false (.bin .add (.sl (.var 1) .no (.yes (.var 2))) (.sl (.var 1) (.yes (.bin .add (.var 2) (.cst (.int (1))))) .no)) (.cons false (.rev (.var 1)) (.cons false (.bi .list (.cons false (.var 1) .nil)) (.cons false (.bin .add (.bin .add (.sl (.var 1) .no (.yes (.var 2))) (.sl (.var 1) .no (.yes (.cst (.int (1)))))) (.sl (.var 1) (.yes (.var 2)) .no)) (.cons false (.bin .add (.var 1) (.tup (.cons false (.cst (.int (0))) .nil))) (.cons false (.bin .add (.var 1) (.tup (.cons false (.tup .nil) .nil))) .nil))))))))
    (.cons (.ret (.call f__law_one (.cons false (.var 0) (.cons false (.bin .add (.var 3) (.lst (.cons false (.cst .non) (.cons false (.cst (.int (0))) (.cons false (.cst (.str "a")) .nil))))) .nil))))
    .nil))) .nil)
    (.cons (.iff (.tv (.isi (.var 1) .int)) (.cons (.ret (.call f__law_one (.cons false (.var 0) (.cons false (.lst (.cons false (.bin .add (.var 1) (.cst (.int (1)))) (.cons false (.bin .sub (.var 1) (.cst (.int (1)))) (.cons false (.un .neg (.var 1)) (.cons false (.bin .mul (.cst (.int (2))) (.var 1)) (.cons false (.cst (.int (0))) (.cons false (.cst (.int (1))) (.cons false (.cst (.bl true)) (.cons false (.cst (.bl false)) (.cons false (.cst .non) (.cons false (.cst (.str "1")) (.cons false (.tup (.cons false (.var 1) .nil)) (.cons false (.lst (.cons false (.var 1) .nil)) (.cons false (.bin .pow (.cst (.int (10))) (.cst (.int (20)))) .nil)))))))))))))) .nil))))
    .nil) .nil)
    (.cons (.ret (.call f__law_one (.cons false (.var 0) (.cons false (.lst (.cons false (.cst .non) (.cons false (.cst (.int (0))) (.cons false (.cst (.str "")) (.cons false (.cst (.str "a")) (.cons false (.cst (.str "A")) (.cons false (.tup .nil) (.cons false (.lst .nil) (.cons false .emp (.cons false (.tup (.cons false (.var 1) .nil)) (.cons false (.lst (.cons false (.cst (.str "a")) .nil)) .nil))))))))))) .nil))))
    .nil))))
/-- [(words, 0)] -/
def c__law_words : CSs :=
  (.cons (.asg (.nm 0) (.tup (.cons false (.cst (.str "all")) (.cons false (.cst (.str "and")) (.cons false (.cst (.str "anew")) (.cons false (.cst (.str "base")) (.cons false (.cst (.str "believe")) (.cons false (.cst (.str "book")) (.cons false (.cst (.str "case")) (.cons false (.cst (.str "clash")) (.cons false (.cst (.str "false")) (.cons false (.cst (.str "if")) (.cons false (.cst (.str "is")) (.cons false (.cst (.str "least")) (.cons false (.cst (.str "no")) (.cons false (.cst (.str "none")) (.cons false (.cst (.str "not")) .nil)))))))))))))))))
    (.cons (.asg (.nm 0) (.bin .add (.var 0) (.tup (.cons false (.cst (.str "of")) (.cons false (.cst (.str "open")) (.cons false (.cst (.str "or")) (.cons false (.cst (.str "perhaps")) (.cons false (.cst (.str "quit")) (.cons false (.cst (.str "rank")) (.cons false (.cst (.str "sure")) (.cons false (.cst (.str "take")) (.cons false (.cst (.str "tell")) (.cons false (.cst (.str "then")) (.cons false (.cst (.str "ties")) (.cons false (.cst (.str "told")) (.cons false (.cst (.str "true")) .nil))))))))))))))))
    (.cons (.ret (.bin .add (.var 0) (.tup (.cons false (.cst (.str "undo")) (.cons false (.cst (.str "world")) (.cons false (.cst (.str "yes")) .nil))))))
    .nil)))
/-- [(pool, 0), (used, 1), (lap, 2), (found, 3), (spot, 4), (.0, 5), (k, 6)] -/
def c__law_name : CSs :=
  (.cons (.forr (.nm 2) (.rg 1 (.cons false (.cst (.int (20))) .nil)) (.cons (.asg (.nm 3) (.cst (.str "")))
    (.cons (.iff (.and (.tv (.cmp .ne (.var 1) (.lst .nil))) (.tv (.cmp .eq (.call f__law_below (.cons false (.var 0) (.cons false (.cst (.int (4))) .nil))) (.cst (.int (0)))))) (.cons (.asg (.nm 3) (.sl (.call f__law_one (.cons false (.var 0) (.cons false (.var 1) .nil))) .no (.yes (.cst (.int (6))))))
    .nil) .nil)
    (.cons (.forr (.nm 4) (.rg 1 (.cons false (.call f__law_one (.cons false (.var 0) (.cons false (.tup (.cons false (.cst (.int (1))) (.cons false (.cst (.int (1))) (.cons false (.cst (.int (2))) (.cons false (.cst (.int (3))) (.cons false (.cst (.int (8))) .nil)))))) .nil))) .nil)) (.cons (.asg (.nm 3) (.bin .add (.var 3) (.ix (.cst (.str "abcdefghijklmnopqrstuvwxyz")) (.call f__law_below (.cons false (.var 0) (.cons false (.cst (.int (26))) .nil))))))
    .nil))
    (.cons (.asg (.nm 3) (.sl (.var 3) .no (.yes (.cst (.int (8))))))
    (.cons (.iff (.and (.tv (.cmp .nmem (.var 3) (.var 1))) (.tv (.cmp .nmem (.var 3) (.call f__law_words .nil)))) (.cons (.ret (.var 3))
    .nil) .nil)
    .nil))))))
    (.cons (.ret (.ix (.lc (.bin .mul (.ix (.cst (.str "abcdefghijkl")) (.var 6)) (.cst (.int (8)))) (.nm 6) (.rg 1 (.cons false (.cst (.int (12))) .nil)) (.yes (.tv (.cmp .nmem (.bin .mul (.ix (.cst (.str "abcdefghijkl")) (.var 6)) (.cst (.int (8)))) (.var 1)))) [5, 6]) (.cst (.int (0)))))
    .nil))
/-- [(pool, 0), (most, 1), (found, 2), (lap, 3)] -/
def c__law_atoms : CSs :=
  (.cons (.asg (.nm 2) (.lst .nil))
    (.cons (.forr (.nm 3) (.rg 1 (.cons false (.bin .add (.cst (.int (1))) (.call f__law_below (.cons false (.var 0) (.cons false (.var 1) .nil)))) .nil)) (.cons (.expr (.app 2 (.call f__law_name (.cons false (.var 0) (.cons false (.var 2) .nil)))))
    .nil))
    (.cons (.ret (.bi .tuple (.cons false (.bi .sorted (.cons false (.var 2) .nil)) .nil)))
    .nil)))
/-- [(atoms, 0), (found, 1), (atom, 2), (longer, 3), (row, 4)] -/
def c__law_worlds : CSs :=
  (.cons (.asg (.nm 1) (.lst (.cons false (.tup .nil) .nil)))
    (.cons (.forr (.nm 2) (.ex (.var 0)) (.cons (.asg (.nm 3) (.lst .nil))
    (.cons (.forr (.nm 4) (.ex (.var 1)) (.cons (.asg (.nm 3) (.bin .add (.var 3) (.lst (.cons false (.bin .add (.var 4) (.tup (.cons false (.cst (.bl false)) .nil))) (.cons false (.bin .add (.var 4) (.tup (.cons false (.cst (.bl true)) .nil))) .nil)))))
    .nil))
    (.cons (.asg (.nm 1) (.var 3))
    .nil))))
    (.cons (.ret (.var 1))
    .nil)))
/-- [(sentence, 0), (rows, 1), (best, 2), (item, 3), (depth, 4), (.0, 5), (part, 6)] -/
def c__law_depth : CSs :=
  (.cons (.par 1 2 (.lst (.cons false (.tup (.cons false (.var 0) (.cons false (.cst (.int (0))) .nil))) .nil)) (.cst (.int (0))))
    (.cons (.whil (.tv (.cmp .ne (.var 1) (.lst .nil))) (.cons (.asg (.tp (.cons (.nm 3) (.cons (.nm 4) .nil))) (.pop 1))
    (.cons (.asg (.nm 2) (.bi .max (.cons false (.var 2) (.cons false (.var 4) .nil))))
    (.cons (.iff (.tv (.isi (.var 3) .tuple)) (.cons (.asg (.nm 1) (.bin .add (.var 1) (.lc (.tup (.cons false (.var 6) (.cons false (.bin .add (.var 4) (.cst (.int (1)))) .nil))) (.nm 6) (.ex (.sl (.var 3) (.yes (.cst (.int (1)))) .no)) .no [5, 6])))
    .nil) .nil)
    .nil))))
    (.cons (.ret (.var 2))
    .nil)))
/-- [(pool, 0), (atoms, 1), (most, 2), (rows, 3), (lap, 4), (one, 5), (two, 6), (made, 7)] -/
def c__law_sentence : CSs :=
  (.cons (.asg (.nm 3) (.bi .list (.cons false (.var 1) .nil)))
    (.cons (.forr (.nm 4) (.rg 1 (.cons false (.call f__law_below (.cons false (.var 0) (.cons false (.bin .add (.var 2) (.cst (.int (1)))) .nil))) .nil)) (.cons (.par 5 6 (.call f__law_one (.cons false (.var 0) (.cons false (.var 3) .nil))) (.call f__law_one (.cons false (.var 0) (.cons false (.var 3) .nil))))
    (.cons (.asg (.nm 7) (.call f__law_one (.cons false (.var 0) (.cons false (.tup (.cons false (.tup (.cons false (.cst (.str "not")) (.cons false (.var 5) .nil))) (.cons false (.tup (.cons false (.cst (.str "and")) (.cons false (.var 5) (.cons false (.var 6) .nil)))) (.cons false (.tup (.cons false (.cst (.str "or")) (.cons false (.var 5) (.cons false (.var 6) .nil)))) (.cons false (.tup (.cons false (.cst (.str "if")) (.cons false (.var 5) (.cons false (.var 6) .nil)))) .nil))))) .nil))))
    (.cons (.iff (.tv (.cmp .le (.call f__law_depth (.cons false (.var 7) .nil)) (.cst (.int (10))))) (.cons (.expr (.app 3 (.var 7)))
    .nil) .nil)
    .nil))))
    (.cons (.ret (.ife (.tv (.cmp .gt (.call f__law_below (.cons false (.var 0) (.cons false (.cst (.int (6))) .nil))) (.cst (.int (0))))) (.ix (.var 3) (.un .neg (.cst (.int (1))))) (.call f__law_one (.cons false (.var 0) (.cons false (.var 3) .nil)))))
    .nil)))
/-- [(atoms, 0), (item, 1), (rows, 2), (each, 3), (depth, 4), (.0, 5), (part, 6)] -/
def c__law_is_sentence : CSs :=
  (.cons (.asg (.nm 2) (.lst (.cons false (.tup (.cons false (.var 1) (.cons false (.cst (.int (0))) .nil))) .nil)))
    (.cons (.whil (.tv (.cmp .ne (.var 2) (.lst .nil))) (.cons (.asg (.tp (.cons (.nm 3) (.cons (.nm 4) .nil))) (.pop 2))
    (.cons (.iff (.tv (.isi (.var 3) .str)) (.cons (.iff (.or (.tv (.cmp .nmem (.var 3) (.var 0))) (.tv (.cmp .gt (.var 4) (.cst (.int (10)))))) (.cons (.ret (.cst (.bl false)))
    .nil) .nil)
    .nil) (.cons (.iff (.and (.tv (.isi (.var 3) .tuple)) (.and (.tv (.cmp .ne (.var 3) (.tup .nil))) (.and (.tv (.isi (.ix (.var 3) (.cst (.int (0)))) .str)) (.and (.tv (.cmp .mem (.ix (.var 3) (.cst (.int (0)))) (.tup (.cons false (.cst (.str "not")) (.cons false (.cst (.str "and")) (.cons false (.cst (.str "or")) (.cons false (.cst (.str "if")) .nil))))))) (.tv (.cmp .lt (.var 4) (.cst (.int (12))))))))) (.cons (.iff (.tv (.cmp .ne (.bi .len (.cons false (.var 3) .nil)) (.ife (.tv (.cmp .eq (.ix (.var 3) (.cst (.int (0)))) (.cst (.str "not")))) (.cst (.int (2))) (.cst (.int (3)))))) (.cons (.ret (.cst (.bl false)))
    .nil) .nil)
    (.cons (.asg (.nm 2) (.bin .add (.var 2) (.lc (.tup (.cons false (.var 6) (.cons false (.bin .add (.var 4) (.cst (.int (1)))) .nil))) (.nm 6) (.ex (.sl (.var 3) (.yes (.cst (.int (1)))) .no)) .no [5, 6])))
    .nil)) (.cons (.ret (.cst (.bl false)))
    .nil))
    .nil))
    .nil)))
    (.cons (.ret (.cst (.bl true)))
    .nil)))
/-- [(pool, 0), (atoms, 1), (due, 2), (lap, 3), (own, 4), (a, 5), (some, 6), (each, 7)] -/
def c__law_right : CSs :=
  (.cons (.asg (.nm 1) (.call f__law_atoms (.cons false (.var 0) (.cons false (.cst (.int (4))) .nil))))
    (.cons (.asg (.nm 2) (.bi .tuple (.cons false (.call f__law_worlds (.cons false (.var 1) .nil)) .nil)))
    (.cons (.iff (.or (.not (.tv (.call f__law_same (.cons false (.lst (.cons false (.call f_worlds (.cons false (.var 1) .nil)) (.cons false (.callk f_worlds [0] .nil (.cons false (.var 1) .nil)) .nil))) (.cons false (.lst (.cons false (.var 2) (.cons false (.var 2) .nil))) .nil))))) (.tv (.cmp .ne (.bi .list (.cons false (.var 2) .nil)) (.bi .sorted (.cons false (.var 2) .nil))))) (.cons (.ret (.cst (.bl false)))
    .nil) .nil)
    (.cons (.forr (.nm 3) (.rg 1 (.cons false (.cst (.int (4))) .nil)) (.cons (.par 4 5 (.call f__law_sentence (.cons false (.var 0) (.cons false (.var 1) (.cons false (.cst (.int (6))) .nil)))) (.ix (.var 1) (.cst (.int (0)))))
    (.cons (.asg (.nm 6) (.lst (.cons false (.var 4) (.cons false (.tup (.cons false (.cst (.str "not")) (.cons false (.var 4) .nil))) (.cons false (.tup (.cons false (.cst (.str "and")) (.cons false (.var 4) (.cons false (.var 5) .nil)))) (.cons false (.tup (.cons false (.cst (.str "not")) .nil)) (.cons false (.tup (.cons false (.cst (.str "not")) (.cons false (.var 4) (.cons false (.var 5) .nil)))) (.cons false (.tup (.cons false (.cst (.str "and")) (.cons false (.var 4) .nil))) (.cons false (.tup (.cons false (.cst (.str "or")) (.cons false (.var 4) (.cons false (.var 5) (.cons false (.var 5) .nil))))) (.cons false (.tup (.cons false (.cst (.str "if")) (.cons false (.var 5) .nil))) (.cons false (.tup (.cons false (.cst (.str "nor")) (.cons false (.var 5) (.cons false (.var 5) .nil)))) (.cons false (.tup (.cons false (.cst (.str "Not")) (.cons false (.var 5) .nil))) (.cons false (.tup (.cons false (.var 4) .nil)) .nil)))))))))))))
    (.cons (.asg (.nm 6) (.bin .add (.var 6) (.lst (.cons false (.tup (.cons false (.cst (.str "not")) (.cons false (.bin .mul (.cst (.str "q")) (.cst (.int (9)))) .nil))) (.cons false (.tup (.cons false (.cst (.str "and")) (.cons false (.var 5) (.cons false (.cst .non) .nil)))) (.cons false (.lst (.cons false (.cst (.str "not")) (.cons false (.var 5) .nil))) (.cons false (.tup (.cons false (.cst (.str "not")) (.cons false (.lst (.cons false (.var 5) .nil)) .nil))) (.cons false (.tup .nil) (.cons false (.cst .non) (.cons false (.cst (.int (0))) (.cons false (.cst (.str "")) (.cons false (.cst (.str "not")) (.cons false (.bin .mul (.cst (.str "q")) (.cst (.int (9)))) (.cons false (.tup (.cons false (.var 5) (.cons false (.var 5) .nil))) .nil))))))))))))))
    (.cons (.asg (.nm 6) (.bin .add (.var 6) (.lst (.cons false (.tup (.cons false (.cst (.str "not")) (.cons false (.tup (.cons false (.cst (.str "and")) (.cons false (.var 5) (.cons false (.tup .nil) .nil)))) .nil))) (.cons false (.tup (.cons false (.tup (.cons false (.cst (.str "not")) .nil)) (.cons false (.var 5) .nil))) (.cons false (.tup (.cons false (.cst .non) (.cons false (.var 5) .nil))) (.cons false (.tup (.cons false (.cst (.str "if")) (.cons false (.var 5) (.cons false (.cst (.int (0))) .nil)))) (.cons false (.cst (.bl true)) (.cons false (.tup (.cons false (.cst (.str "or")) (.cons false (.tup (.cons false (.var 5) .nil)) (.cons false (.var 5) .nil)))) (.cons false (.call f__law_bent (.cons false (.var 0) (.cons false (.var 4) .nil))) (.cons false (.call f__law_bent (.cons false (.var 0) (.cons false (.tup (.cons false (.cst (.str "if")) (.cons false (.var 4) (.cons false (.var 5) .nil)))) .nil))) .nil)))))))))))
    (.cons (.asg (.nm 6) (.bin .add (.var 6) (.lst (.cons false (.call f__law_bent (.cons false (.var 0) (.cons false (.tup (.cons false (.cst (.str "and")) (.cons false (.tup (.cons false (.cst (.str "not")) (.cons false (.var 5) .nil))) (.cons false (.var 4) .nil)))) .nil))) .nil))))
    (.cons (.forr (.nm 7) (.ex (.var 6)) (.cons (.asg (.nm 2) (.call f__law_is_sentence (.cons false (.var 1) (.cons false (.var 7) .nil))))
    (.cons (.iff (.not (.tv (.call f__law_same (.cons false (.lst (.cons false (.call f_is_sentence (.cons false (.var 1) (.cons false (.var 7) .nil))) (.cons false (.callk f_is_sentence [1, 0] .nil (.cons false (.var 7) (.cons false (.var 1) .nil))) .nil))) (.cons false (.lst (.cons false (.var 2) (.cons false (.var 2) .nil))) .nil))))) (.cons (.ret (.cst (.bl false)))
    .nil) .nil)
    .nil)))
    .nil)))))))
    (.cons (.ret (.cst (.bl true)))
    .nil)))))
/-- [(script, 0), (lap, 1), (pool, 2), (.0, 3), (again, 4)] -/
def c_law : CSs :=
  (.cons (.forr (.nm 1) (.rg 1 (.cons false (.bi .max (.cons false (.cst (.int (1))) (.cons false (.bi .min (.cons false (.bi .len (.cons false (.var 0) .nil)) (.cons false (.cst (.int (3))) .nil))) .nil))) .nil)) (.cons (.asg (.nm 2) (.call f__law_pool (.cons false (.var 0) (.cons false (.var 1) .nil))))
    (.cons (.iff (.not (.tv (.bi .all (.cons false (.lc (.call f__law_right (.cons false (.var 2) .nil)) (.nm 4) (.rg 1 (.cons false (.cst (.int (4))) .nil)) .no [3, 4]) .nil)))) (.cons (.ret (.cst (.bl false)))
    .nil) .nil)
    .nil)))
    (.cons (.ret (.cst (.bl true)))
    .nil))
theorem d_is_one_of : fdOf dat.glb 60 dat.defs 0 = some ⟨2, 2, c_is_one_of⟩ := by kernel_rfl
theorem d_is_word : fdOf dat.glb 60 dat.defs 1 = some ⟨1, 3, c_is_word⟩ := by kernel_rfl
theorem d_is_name : fdOf dat.glb 60 dat.defs 2 = some ⟨1, 1, c_is_name⟩ := by kernel_rfl
theorem d_wrong_in : fdOf dat.glb 60 dat.defs 3 = some ⟨4, 6, c_wrong_in⟩ := by kernel_rfl
theorem d_are_below : fdOf dat.glb 60 dat.defs 4 = some ⟨2, 2, c_are_below⟩ := by kernel_rfl
theorem d_wrong_in_atoms : fdOf dat.glb 60 dat.defs 5 = some ⟨1, 1, c_wrong_in_atoms⟩ := by kernel_rfl
theorem d_worlds_by : fdOf dat.glb 60 dat.defs 6 = some ⟨1, 6, c_worlds_by⟩ := by kernel_rfl
theorem d_is_sentence_by : fdOf dat.glb 60 dat.defs 7 = some ⟨2, 7, c_is_sentence_by⟩ := by kernel_rfl
theorem d_has_parts : fdOf dat.glb 60 dat.defs 8 = some ⟨1, 1, c_has_parts⟩ := by kernel_rfl
theorem d_check_atoms : fdOf dat.glb 60 dat.defs 9 = some ⟨1, 2, c_check_atoms⟩ := by kernel_rfl
theorem d_worlds : fdOf dat.glb 60 dat.defs 10 = some ⟨1, 1, c_worlds⟩ := by kernel_rfl
theorem d_is_sentence : fdOf dat.glb 60 dat.defs 11 = some ⟨2, 2, c_is_sentence⟩ := by kernel_rfl
theorem d__law_pool : fdOf dat.glb 60 dat.defs 12 = some ⟨2, 5, c__law_pool⟩ := by kernel_rfl
theorem d__law_below : fdOf dat.glb 60 dat.defs 13 = some ⟨2, 4, c__law_below⟩ := by kernel_rfl
theorem d__law_one : fdOf dat.glb 60 dat.defs 14 = some ⟨2, 2, c__law_one⟩ := by kernel_rfl
theorem d__law_same : fdOf dat.glb 60 dat.defs 15 = some ⟨2, 5, c__law_same⟩ := by kernel_rfl
theorem d__law_bent : fdOf dat.glb 60 dat.defs 16 = some ⟨2, 4, c__law_bent⟩ := by kernel_rfl
theorem d__law_words : fdOf dat.glb 60 dat.defs 17 = some ⟨0, 1, c__law_words⟩ := by kernel_rfl
theorem d__law_name : fdOf dat.glb 60 dat.defs 18 = some ⟨2, 7, c__law_name⟩ := by kernel_rfl
theorem d__law_atoms : fdOf dat.glb 60 dat.defs 19 = some ⟨2, 4, c__law_atoms⟩ := by kernel_rfl
theorem d__law_worlds : fdOf dat.glb 60 dat.defs 20 = some ⟨1, 5, c__law_worlds⟩ := by kernel_rfl
theorem d__law_depth : fdOf dat.glb 60 dat.defs 21 = some ⟨1, 7, c__law_depth⟩ := by kernel_rfl
theorem d__law_sentence : fdOf dat.glb 60 dat.defs 22 = some ⟨3, 8, c__law_sentence⟩ := by kernel_rfl
theorem d__law_is_sentence : fdOf dat.glb 60 dat.defs 23 = some ⟨2, 7, c__law_is_sentence⟩ := by kernel_rfl
theorem d__law_right : fdOf dat.glb 60 dat.defs 24 = some ⟨1, 8, c__law_right⟩ := by kernel_rfl
theorem d_law : fdOf dat.glb 60 dat.defs 25 = some ⟨1, 5, c_law⟩ := by kernel_rfl


abbrev Row : PySem.W.OpenRow := PySem.W.OpenLaw.row PySem.Challenge.rw_toldanew_k01_whole_worlds_and_sentences
abbrev hk : PySem.W.Hook := He.hookX 4 dat.fa dat.fn dat.ts dat.tf dat.ex
def ob (s : PySem.W.SharedT) : He.AlX := He.obsX 4 dat.fa dat.fn dat.ts dat.tf dat.ex (HandSHeadRun.getT s)
theorem ob_eq (s : PySem.W.SharedT) : ob s = hk.obs s.abs := He.obsX_eq (HandSHeadRun.getT_eq s)
def loose : List PySem.Str := ([("ToldError" : PySem.Str), ("InvalidAtoms" : PySem.Str), ("LETTERS" : PySem.Str), ("MOST_LETTERS" : PySem.Str), ("WORDS" : PySem.Str), ("is_one_of" : PySem.Str), ("is_word" : PySem.Str), ("is_name" : PySem.Str), ("wrong_in" : PySem.Str), ("are_below" : PySem.Str), ("MOST_ATOMS" : PySem.Str), ("MOST_DEEP" : PySem.Str), ("NOT" : PySem.Str), ("AND" : PySem.Str), ("OR" : PySem.Str), ("IF" : PySem.Str), ("PARTS" : PySem.Str), ("wrong_in_atoms" : PySem.Str), ("worlds_by" : PySem.Str), ("is_sentence_by" : PySem.Str), ("has_parts" : PySem.Str), ("check_atoms" : PySem.Str), ("worlds" : PySem.Str), ("is_sentence" : PySem.Str), ("_law_pool" : PySem.Str), ("_law_below" : PySem.Str), ("_law_one" : PySem.Str), ("_law_same" : PySem.Str), ("_law_bent" : PySem.Str), ("_law_words" : PySem.Str), ("_law_name" : PySem.Str), ("_law_atoms" : PySem.Str), ("_law_worlds" : PySem.Str), ("_law_depth" : PySem.Str), ("_law_sentence" : PySem.Str), ("_law_is_sentence" : PySem.Str), ("_law_right" : PySem.Str)] : List PySem.Str)
theorem run (w : World) : HandSHeadRun.RunEq Row (PySem.W.view Row.prog [42]) hk ob 4000 loose w :=
  PySem.W.byRow2 "special-get-raises" (P := fun w => HandSHeadRun.RunEq Row (PySem.W.view Row.prog [42]) hk ob 4000 loose w) (fun w => by intro os; kernel_rfl) (fun w => by intro os; kernel_rfl) w
theorem dat_ok : dat.okB = true := by decide +kernel
end K01
end

section
set_option maxRecDepth 100000
set_option maxHeartbeats 1000000
namespace K01
open Mi PySem L2
def PoolV (l : List D) : Prop := ∃ a b c : Int, l = [.int a, .int b, .int c]
def BelowS (G : Gm) : Prop := ∀ l m, PoolV l → 0 < m → m < 1073741824 → ∃ r l', 0 ≤ r ∧ r < m ∧ PoolV l' ∧ G.call f__law_below [.lent l, .val (.int m)] = some (.ok (.val (.int r)) [.lent l', .no])
theorem below_run {G : Gm} {l : List D} {m : Int} (hp : PoolV l) (hm : 0 < m) (hm2 : m < 1073741824) : ∃ r l', 0 ≤ r ∧ r < m ∧ PoolV l' ∧ endF 2 (evSs G c__law_below (startE 4 [.lent l, .val (.int m)])) = some (.ok (.val (.int r)) [.lent l', .no]) := by
  obtain ⟨a, b, c, rfl⟩ := hp
  by_cases ha : 0 < a
  · refine ⟨a % m, [.int (a / m), .int b, .int c], Int.emod_nonneg _ (by omega), Int.emod_lt_of_pos _ hm, ⟨_, _, _, rfl⟩, ?_⟩
    simp -implicitDefEqProofs [startE, evSs, evS, flow, evB, pk, lk, evE, peek, unl, M.bnd, M.ret, of_some, of_none, M.fail, En.g, unlock, EV.dat, Cn.d, ixD, cmpD, truth, evPs, evAs, evEs, evO, biD, kp, EV.keep, chk, chg, setF, appF, putV_v, putV_l, ly_no, ly_val, ly_fn, ly_clo, retV, getV, endF, outs, binD, unD, argM, argV, argE, callM, apart, back, evT_nm, evT_tp, evTs_nil, evTs_cons, Fl.unl, lenD, items, someI, slD, isNone, tyD, evI, rangeD_1, eqD, mem_strs, lenOk_0, lenOk_of, eqOk_int, eqOk_str, eqOk_bool, eqv_int, eqv_str, eqv_bool, c__law_below, atI, ixN, ha, hm, hm2]
  · have h0 : m ≠ 0 := by omega
    generalize hs : (b * 48677 + 3413 * (c + 1) + 61).fmod 2147483563 = st
    have hk0 : 0 ≤ st.fmod 4001 := Int.fmod_nonneg_of_pos _ (by decide)
    have hk1 : st.fmod 4001 < 4001 := Int.fmod_lt_of_pos _ (by decide)
    have h1 : smallI (st.fmod 4001 + 17911) = true := smallI_of (by unfold big; omega) (by unfold big; omega)
    have h2 : smallI 48677 = true := smallI_lit (by decide)
    have h3 : smallI 3413 = true := smallI_lit (by decide)
    refine ⟨(((st * (st.fmod 4001 + 17911) + (c + 1)).fmod 2147483563).fdiv 367).fmod m, [.int a, .int ((st * (st.fmod 4001 + 17911) + (c + 1)).fmod 2147483563), .int (c + 1)], Int.fmod_nonneg_of_pos _ hm, Int.fmod_lt_of_pos _ hm, ⟨_, _, _, rfl⟩, ?_⟩
    simp -implicitDefEqProofs [startE, evSs, evS, flow, evB, pk, lk, evE, peek, unl, M.bnd, M.ret, of_some, of_none, M.fail, En.g, unlock, EV.dat, Cn.d, ixD, cmpD, truth, evPs, evAs, evEs, evO, biD, kp, EV.keep, chk, chg, setF, appF, putV_v, putV_l, ly_no, ly_val, ly_fn, ly_clo, retV, getV, endF, outs, binD, unD, argM, argV, argE, callM, apart, back, evT_nm, evT_tp, evTs_nil, evTs_cons, Fl.unl, lenD, items, someI, slD, isNone, tyD, evI, rangeD_1, eqD, mem_strs, lenOk_0, lenOk_of, eqOk_int, eqOk_str, eqOk_bool, eqv_int, eqv_str, eqv_bool, c__law_below, atI, ixN, ha, hm, hm2, h2, h3, hs, h1, h0]
theorem below_ok (n : Nat) : BelowS (gmOf dat.con (fdOf dat.glb 60 dat.defs) (n + 1)) := fun l m hp hm hm2 => by
  obtain ⟨r, l', h1, h2, h3, h4⟩ := below_run (G := gmOf dat.con (fdOf dat.glb 60 dat.defs) n) hp hm hm2
  exact ⟨r, l', h1, h2, h3, by rw [gcall d__law_below rfl]; exact h4⟩
def outS : Sl → Sl
  | .lent xs => .lent xs
  | _ => .no
def SeqS (s : Sl) (xs : List D) : Prop := s = .val (.tuple xs) ∨ s = .val (.list xs) ∨ s = .own xs ∨ s = .lent xs ∨ s = .lock xs
def OneS (G : Gm) : Prop := ∀ l xs s, PoolV l → SeqS s xs → xs ≠ [] → xs.length < 1073741824 → ∃ x l', x ∈ xs ∧ PoolV l' ∧ G.call f__law_one [.lent l, s] = some (.ok (.val x) [.lent l', outS s])
theorem one_run {G : Gm} (B : BelowS G) {l xs : List D} {s : Sl} (hp : PoolV l) (hs : SeqS s xs) (ne : xs ≠ []) (hl : xs.length < 1073741824) : ∃ x l', x ∈ xs ∧ PoolV l' ∧ endF 2 (evSs G c__law_one (startE 2 [.lent l, s])) = some (.ok (.val x) [.lent l', outS s]) := by
  have h0 : 0 < xs.length := by cases xs with
    | nil => exact absurd rfl ne
    | cons _ _ => simp
  obtain ⟨r, l', h1, h2, h3, h4⟩ := B l xs.length hp (by omega) (by omega)
  obtain ⟨x, hx, hat⟩ := at_some h1 h2
  refine ⟨x, l', hx, h3, ?_⟩
  rcases hs with rfl | rfl | rfl | rfl | rfl
  all_goals (simp -implicitDefEqProofs [startE, evSs, evS, flow, evB, pk, lk, evE, peek, unl, M.bnd, M.ret, of_some, of_none, M.fail, En.g, unlock, EV.dat, Cn.d, ixD, cmpD, truth, evPs, evAs, evEs, evO, biD, kp, EV.keep, chk, chg, setF, appF, putV_v, putV_l, ly_no, ly_val, ly_fn, ly_clo, retV, getV, endF, outs, binD, unD, argM, argV, argE, callM, apart, back, evT_nm, evT_tp, evTs_nil, evTs_cons, Fl.unl, lenD, items, someI, slD, isNone, tyD, evI, rangeD_1, eqD, mem_strs, lenOk_0, lenOk_of, eqOk_int, eqOk_str, eqOk_bool, eqv_int, eqv_str, eqv_bool, c__law_one, h4, hat, outS])
theorem one_ok {n : Nat} : OneS (gmOf dat.con (fdOf dat.glb 60 dat.defs) (n + 2)) := fun l xs s hp hs ne hl => by
  obtain ⟨x, l', h1, h2, h3⟩ := one_run (below_ok n) hp hs ne hl
  exact ⟨x, l', h1, h2, by rw [gcall d__law_one rfl]; exact h3⟩
end K01
end

section
set_option maxRecDepth 100000
set_option maxHeartbeats 2000000
namespace K01
open Mi PySem L2
def WL : List Str := ["all", "and", "anew", "base", "believe", "book", "case", "clash", "false", "if", "is", "least", "no", "none", "not", "of", "open", "or", "perhaps", "quit", "rank", "sure", "take", "tell", "then", "ties", "told", "true", "undo", "world", "yes"]
def Let (s : Str) : Prop := ∀ c, c ∈ s.cps.toList → 97 ≤ c ∧ c ≤ 122
structure NameOk (s : Str) : Prop where
  lo : 1 ≤ s.length
  hi : s.length ≤ 8
  lt : Let s
  nw : s ∉ WL
theorem words_run {G : Gm} : endF 0 (evSs G c__law_words (startE 1 [])) = some (.ok (.val (.tuple (WL.map PyData.str))) []) := by kernel_rfl
def WordsS (G : Gm) : Prop := G.call f__law_words [] = some (.ok (.val (.tuple (WL.map PyData.str))) [])
theorem words_ok {n : Nat} : WordsS (gmOf dat.con (fdOf dat.glb 60 dat.defs) (n + 1)) := by
  unfold WordsS
  rw [gcall d__law_words rfl]
  exact words_run
theorem str_len (s : Str) : s.length = s.cps.toList.length := by
  show s.cps.size = _
  simp
theorem cut_let {z : Str} {k : Nat} (h : Let z) : Let (L2.cutS z none (some (k : Int))) ∧ (L2.cutS z none (some (k : Int))).length = min k z.length := by
  have e : L2.cutS z none (some (k : Int)) = ⟨(z.cps.toList.take (min k z.length)).toArray⟩ := by
    unfold L2.cutS
    rw [HT.sIx_none, HT.sIx_nat, List.drop_zero, Nat.sub_zero]
  rw [e]
  refine ⟨fun c hc => h c ?_, ?_⟩
  · have hc : c ∈ (z.cps.toList.take (min k z.length)) := by simpa using hc
    exact List.mem_of_mem_take hc
  · rw [str_len]
    have := str_len z
    simp only [List.length_take]
    omega
theorem app_let {x y : Str} (hx : Let x) (hy : Let y) : Let (x ++ y) ∧ (x ++ y).length = x.length + y.length := by
  refine ⟨fun c hc => ?_, ?_⟩
  · have hc : c ∈ (x.cps ++ y.cps).toList := hc
    rw [Array.toList_append, List.mem_append] at hc
    exact hc.elim (hx c) (hy c)
  · show (x.cps ++ y.cps).size = _
    rw [Array.size_append]
    rfl
def LTS : Str := "abcdefghijklmnopqrstuvwxyz"
theorem letters : ∀ c ∈ LTS.cps.toList, 97 ≤ c ∧ c ≤ 122 := by decide +kernel
theorem lts_len : LTS.cps.toList.length = 26 := by decide +kernel
theorem one_let {c : Nat} (h : 97 ≤ c ∧ c ≤ 122) : Let ⟨#[c]⟩ := fun d hd => by
  have : d = c := by simpa using hd
  subst this
  exact h
def nameBody : CSs := fb (hd c__law_name)
def nameIf : CS := hd (tl nameBody)
def nameSpot : CSs := fb (hd (tl (tl nameBody)))
theorem nameSpot_eq : nameSpot = (.cons (.asg (.nm 3) (.bin .add (.var 3) (.ix (.cst (.str "abcdefghijklmnopqrstuvwxyz")) (.call f__law_below (.cons false (.var 0) (.cons false (.cst (.int (26))) .nil)))))) .nil) := rfl
theorem nameIf_eq : nameIf = .iff (.and (.tv (.cmp .ne (.var 1) (.lst .nil))) (.tv (.cmp .eq (.call f__law_below (.cons false (.var 0) (.cons false (.cst (.int (4))) .nil))) (.cst (.int (0)))))) (.cons (.asg (.nm 3) (.sl (.call f__law_one (.cons false (.var 0) (.cons false (.var 1) .nil))) .no (.yes (.cst (.int (6)))))) .nil) .nil := rfl
theorem nameBody_eq : nameBody = .cons (.asg (.nm 3) (.cst (.str ""))) (.cons nameIf (.cons (.forr (.nm 4) (.rg 1 (.cons false (.call f__law_one (.cons false (.var 0) (.cons false (.tup (.cons false (.cst (.int (1))) (.cons false (.cst (.int (1))) (.cons false (.cst (.int (2))) (.cons false (.cst (.int (3))) (.cons false (.cst (.int (8))) .nil)))))) .nil))) .nil)) nameSpot)
    (.cons (.asg (.nm 3) (.sl (.var 3) .no (.yes (.cst (.int (8)))))) (.cons (.iff (.and (.tv (.cmp .nmem (.var 3) (.var 1))) (.tv (.cmp .nmem (.var 3) (.call f__law_words .nil)))) (.cons (.ret (.var 3)) .nil) .nil) .nil)))) := rfl
/-- the letters, one behind the other -/
theorem spots {G : Gm} (B : BelowS G) {used : List D} {v2 v4 : Sl} (h4 : v4.ly = false) {n : Nat} (hn : n ≤ 8) {l : List D} (hp : PoolV l) {s : Str} (hs : Let s) (hl : s.length ≤ 8) :
    ∃ l' s' v4', PoolV l' ∧ Let s' ∧ s'.length = s.length + n ∧ v4'.ly = false ∧ forM (evT (.nm 4)) (evSs G nameSpot) (rangeL 0 1 n) [.lent l, .lent used, v2, .val (.str s), v4, .no, .no] = some (.nx [.lent l', .lent used, v2, .val (.str s'), v4', .no, .no]) := by
  obtain ⟨fl, h1, h2⟩ := for_inv (tg := evT (.nm 4)) (b := evSs G nameSpot) (I := fun k e => ∃ l s' v4, PoolV l ∧ Let s' ∧ s'.length = s.length + k ∧ v4.ly = false ∧ e = [.lent l, .lent used, v2, .val (.str s'), v4, .no, .no]) (R := fun _ _ => False) (rangeL 0 1 n) 0 [.lent l, .lent used, v2, .val (.str s), v4, .no, .no] ⟨l, s, v4, hp, hs, rfl, h4, rfl⟩ fun j x e hx hI => by
    obtain ⟨l1, s1, w4, hp1, hs1, hl1, h41, rfl⟩ := hI
    obtain ⟨k, rfl, hj⟩ := rangeL_nth n j x hx
    obtain ⟨r, l2, r0, r1, hp2, hc⟩ := B l1 26 hp1 (by decide) (by decide)
    obtain ⟨c, hcm, hat⟩ := at_some (xs := LTS.cps.toList) r0 (by rw [lts_len]; exact r1)
    have hat2 : L2.atI (Str.ofString "abcdefghijklmnopqrstuvwxyz").cps.toList r = some c := hat
    obtain ⟨a1, a2⟩ := app_let hs1 (one_let (letters c hcm))
    have hz : lenOk (s1.length + Str.length { cps := #[c] }) = true := lenOk_of (by show s1.length + 1 ≤ _; omega)
    refine ⟨[.lent l1, .lent used, v2, .val (.str s1), .val (.int k), .no, .no], by simp -implicitDefEqProofs [startE, evSs, evS, flow, evB, pk, lk, evE, peek, unl, M.bnd, M.ret, of_some, of_none, M.fail, En.g, unlock, EV.dat, Cn.d, ixD, cmpD, truth, evPs, evAs, evEs, evO, biD, kp, EV.keep, chk, chg, setF, appF, putV_v, putV_l, ly_no, ly_val, ly_fn, ly_clo, retV, getV, endF, outs, binD, unD, argM, argV, argE, callM, apart, back, evT_nm, evT_tp, evTs_nil, evTs_cons, Fl.unl, lenD, items, someI, slD, isNone, tyD, evI, rangeD_1, eqD, mem_strs, lenOk_0, lenOk_of, eqOk_int, eqOk_str, eqOk_bool, eqv_int, eqv_str, eqv_bool, h41], .nx [.lent l2, .lent used, v2, .val (.str (s1 ++ ⟨#[c]⟩)), .val (.int k), .no, .no], ?_, .inl ⟨_, .inl rfl, l2, s1 ++ ⟨#[c]⟩, .val (.int k), hp2, a1, ?_, rfl, rfl⟩⟩
    · rw [nameSpot_eq]
      simp -implicitDefEqProofs [startE, evSs, evS, flow, evB, pk, lk, evE, peek, unl, M.bnd, M.ret, of_some, of_none, M.fail, En.g, unlock, EV.dat, Cn.d, ixD, cmpD, truth, evPs, evAs, evEs, evO, biD, kp, EV.keep, chk, chg, setF, appF, putV_v, putV_l, ly_no, ly_val, ly_fn, ly_clo, retV, getV, endF, outs, binD, unD, argM, argV, argE, callM, apart, back, evT_nm, evT_tp, evTs_nil, evTs_cons, Fl.unl, lenD, items, someI, slD, isNone, tyD, evI, rangeD_1, eqD, mem_strs, lenOk_0, lenOk_of, eqOk_int, eqOk_str, eqOk_bool, eqv_int, eqv_str, eqv_bool, hc, hat2, hz]
    · rw [a2, hl1]
      show s.length + (0 + j) + 1 = _
      omega
  rcases h2 with ⟨e', rfl, l', s', v4', q1, q2, q3, q4, rfl⟩ | ⟨_, _, _, z⟩
  · rw [rangeL_len] at q3
    exact ⟨l', s', v4', q1, q2, by omega, q4, h1⟩
  · exact z.elim
theorem name_if {G : Gm} (B : BelowS G) (O : OneS G) {used : List Str} (hu : used.length < 100) (hn : ∀ s ∈ used, NameOk s) {v2 v4 : Sl} {l : List D} (hp : PoolV l) :
    ∃ l' s0, PoolV l' ∧ Let s0 ∧ s0.length ≤ 6 ∧ evS G nameIf [.lent l, .lent (used.map PyData.str), v2, .val (.str ""), v4, .no, .no] = some (.nx [.lent l', .lent (used.map PyData.str), v2, .val (.str s0), v4, .no, .no]) := by
  have hE : Let ("" : Str) := fun c hc => by rw [show ("" : Str).cps.toList = [] from rfl] at hc; cases hc
  cases used with
  | nil =>
    refine ⟨l, "", hp, hE, by decide, ?_⟩
    rw [nameIf_eq]
    simp -implicitDefEqProofs [startE, evSs, evS, flow, evB, pk, lk, evE, peek, unl, M.bnd, M.ret, of_some, of_none, M.fail, En.g, unlock, EV.dat, Cn.d, ixD, cmpD, truth, evPs, evAs, evEs, evO, biD, kp, EV.keep, chk, chg, setF, appF, putV_v, putV_l, ly_no, ly_val, ly_fn, ly_clo, retV, getV, endF, outs, binD, unD, argM, argV, argE, callM, apart, back, evT_nm, evT_tp, evTs_nil, evTs_cons, Fl.unl, lenD, items, someI, slD, isNone, tyD, evI, rangeD_1, eqD, mem_strs, lenOk_0, lenOk_of, eqOk_int, eqOk_str, eqOk_bool, eqv_int, eqv_str, eqv_bool]
  | cons u us =>
    obtain ⟨r, l1, r0, r1, hp1, hc⟩ := B l 4 hp (by decide) (by decide)
    by_cases hr : r = 0
    · subst hr
      obtain ⟨x, l2, hx, hp2, ho⟩ := O l1 ((u :: us).map PyData.str) (.lent ((u :: us).map PyData.str)) hp1 (.inr (.inr (.inr (.inl rfl)))) (by simp) (by rw [List.length_map]; omega)
      obtain ⟨s, hs, rfl⟩ := List.mem_map.mp hx
      obtain ⟨a1, a2⟩ := cut_let (z := s) (k := 6) (hn s hs).lt
      refine ⟨l2, L2.cutS s none (some 6), hp2, a1, ?_, ?_⟩
      · show (L2.cutS s none (some ((6 : Nat) : Int))).length ≤ 6
        rw [a2]; omega
      · rw [nameIf_eq]
        rw [List.map_cons] at ho ⊢
        simp -implicitDefEqProofs [startE, evSs, evS, flow, evB, pk, lk, evE, peek, unl, M.bnd, M.ret, of_some, of_none, M.fail, En.g, unlock, EV.dat, Cn.d, ixD, cmpD, truth, evPs, evAs, evEs, evO, biD, kp, EV.keep, chk, chg, setF, appF, putV_v, putV_l, ly_no, ly_val, ly_fn, ly_clo, retV, getV, endF, outs, binD, unD, argM, argV, argE, callM, apart, back, evT_nm, evT_tp, evTs_nil, evTs_cons, Fl.unl, lenD, items, someI, slD, isNone, tyD, evI, rangeD_1, eqD, mem_strs, lenOk_0, lenOk_of, eqOk_int, eqOk_str, eqOk_bool, eqv_int, eqv_str, eqv_bool, hc, ho, outS]
    · refine ⟨l1, "", hp1, hE, by decide, ?_⟩
      rw [nameIf_eq, List.map_cons]
      simp -implicitDefEqProofs [startE, evSs, evS, flow, evB, pk, lk, evE, peek, unl, M.bnd, M.ret, of_some, of_none, M.fail, En.g, unlock, EV.dat, Cn.d, ixD, cmpD, truth, evPs, evAs, evEs, evO, biD, kp, EV.keep, chk, chg, setF, appF, putV_v, putV_l, ly_no, ly_val, ly_fn, ly_clo, retV, getV, endF, outs, binD, unD, argM, argV, argE, callM, apart, back, evT_nm, evT_tp, evTs_nil, evTs_cons, Fl.unl, lenD, items, someI, slD, isNone, tyD, evI, rangeD_1, eqD, mem_strs, lenOk_0, lenOk_of, eqOk_int, eqOk_str, eqOk_bool, eqv_int, eqv_str, eqv_bool, hc, hr]
/-- one try -/
theorem name_turn {G : Gm} (B : BelowS G) (O : OneS G) (Wd : WordsS G) {used : List Str} (hu : used.length < 100) (hn : ∀ s ∈ used, NameOk s) {v2 v3 v4 : Sl} (h3 : v3.ly = false) (h4 : v4.ly = false) {l : List D} (hp : PoolV l) :
    ∃ l' w3 w4, PoolV l' ∧ w3.ly = false ∧ w4.ly = false ∧ (evSs G nameBody [.lent l, .lent (used.map PyData.str), v2, v3, v4, .no, .no] = some (.nx [.lent l', .lent (used.map PyData.str), v2, w3, w4, .no, .no]) ∨
      ∃ s, NameOk s ∧ s ∉ used ∧ evSs G nameBody [.lent l, .lent (used.map PyData.str), v2, v3, v4, .no, .no] = some (.rt (.val (.str s)) [.lent l', .lent (used.map PyData.str), v2, w3, w4, .no, .no])) := by
  obtain ⟨l1, s0, hp1, hs0, hl0, hif⟩ := name_if B O hu hn (v2 := v2) (v4 := v4) hp
  obtain ⟨x, l2, hx, hp2, ho⟩ := O l1 [.int 1, .int 1, .int 2, .int 3, .int 8] (.val (.tuple [.int 1, .int 1, .int 2, .int 3, .int 8])) hp1 (.inl rfl) (by simp) (by simp)
  obtain ⟨n, rfl, n1, n8⟩ : ∃ n : Nat, x = .int n ∧ 1 ≤ n ∧ n ≤ 8 := by
    simp at hx
    rcases hx with rfl | rfl | rfl | rfl
    · exact ⟨1, rfl, by decide, by decide⟩
    · exact ⟨2, rfl, by decide, by decide⟩
    · exact ⟨3, rfl, by decide, by decide⟩
    · exact ⟨8, rfl, by decide, by decide⟩
  obtain ⟨l3, s1, w4, hp3, hs1, hl1, h41, hsp⟩ := spots B (used := used.map PyData.str) (v2 := v2) h4 n8 hp2 hs0 (by omega)
  obtain ⟨a1, a2⟩ := cut_let (z := s1) (k := 8) hs1
  have hr : rgOk (n : Int) = true := rgOk_of (by omega) (by omega)
  unfold WordsS at Wd
  have e8 : L2.cutS s1 none (some ((8 : Nat) : Int)) = L2.cutS s1 none (some 8) := rfl
  rw [e8] at a1 a2
  by_cases hb : L2.cutS s1 none (some 8) ∉ used ∧ L2.cutS s1 none (some 8) ∉ WL
  · refine ⟨l3, .val (.str (L2.cutS s1 none (some 8))), w4, hp3, rfl, h41, .inr ⟨L2.cutS s1 none (some 8), ⟨by rw [a2]; omega, by rw [a2]; omega, a1, hb.2⟩, hb.1, ?_⟩⟩
    rw [nameBody_eq]
    simp -implicitDefEqProofs [startE, evSs, evS, flow, evB, pk, lk, evE, peek, unl, M.bnd, M.ret, of_some, of_none, M.fail, En.g, unlock, EV.dat, Cn.d, ixD, cmpD, truth, evPs, evAs, evEs, evO, biD, kp, EV.keep, chk, chg, setF, appF, putV_v, putV_l, ly_no, ly_val, ly_fn, ly_clo, retV, getV, endF, outs, binD, unD, argM, argV, argE, callM, apart, back, evT_nm, evT_tp, evTs_nil, evTs_cons, Fl.unl, lenD, items, someI, slD, isNone, tyD, evI, rangeD_1, eqD, mem_strs, lenOk_0, lenOk_of, eqOk_int, eqOk_str, eqOk_bool, eqv_int, eqv_str, eqv_bool, h3, hif, ho, outS, hr, hsp, Wd, hb.1, hb.2]
  · refine ⟨l3, .val (.str (L2.cutS s1 none (some 8))), w4, hp3, rfl, h41, .inl ?_⟩
    rw [nameBody_eq]
    by_cases h1 : L2.cutS s1 none (some 8) ∈ used
    · simp -implicitDefEqProofs [startE, evSs, evS, flow, evB, pk, lk, evE, peek, unl, M.bnd, M.ret, of_some, of_none, M.fail, En.g, unlock, EV.dat, Cn.d, ixD, cmpD, truth, evPs, evAs, evEs, evO, biD, kp, EV.keep, chk, chg, setF, appF, putV_v, putV_l, ly_no, ly_val, ly_fn, ly_clo, retV, getV, endF, outs, binD, unD, argM, argV, argE, callM, apart, back, evT_nm, evT_tp, evTs_nil, evTs_cons, Fl.unl, lenD, items, someI, slD, isNone, tyD, evI, rangeD_1, eqD, mem_strs, lenOk_0, lenOk_of, eqOk_int, eqOk_str, eqOk_bool, eqv_int, eqv_str, eqv_bool, h3, hif, ho, outS, hr, hsp, Wd, h1]
    · have h2 : L2.cutS s1 none (some 8) ∈ WL := Classical.byContradiction fun z => hb ⟨h1, z⟩
      simp -implicitDefEqProofs [startE, evSs, evS, flow, evB, pk, lk, evE, peek, unl, M.bnd, M.ret, of_some, of_none, M.fail, En.g, unlock, EV.dat, Cn.d, ixD, cmpD, truth, evPs, evAs, evEs, evO, biD, kp, EV.keep, chk, chg, setF, appF, putV_v, putV_l, ly_no, ly_val, ly_fn, ly_clo, retV, getV, endF, outs, binD, unD, argM, argV, argE, callM, apart, back, evT_nm, evT_tp, evTs_nil, evTs_cons, Fl.unl, lenD, items, someI, slD, isNone, tyD, evI, rangeD_1, eqD, mem_strs, lenOk_0, lenOk_of, eqOk_int, eqOk_str, eqOk_bool, eqv_int, eqv_str, eqv_bool, h3, hif, ho, outS, hr, hsp, Wd, h1, h2]
end K01
end

section
set_option maxRecDepth 100000
set_option maxHeartbeats 2000000
namespace K01
open Mi PySem L2
theorem nodup_len {α : Type} [DecidableEq α] : ∀ {l m : List α}, l.Nodup → (∀ x ∈ l, x ∈ m) → l.length ≤ m.length
  | [], m, _, _ => Nat.zero_le _
  | a :: r, m, nd, h => by
    rw [List.nodup_cons] at nd
    have ha := h a List.mem_cons_self
    have := nodup_len (l := r) (m := m.erase a) nd.2 fun x hx => (List.mem_erase_of_ne (fun z => nd.1 (by rw [← z]; exact hx))).mpr (h x (List.mem_cons_of_mem _ hx))
    rw [List.length_erase_of_mem ha] at this
    have hp := List.length_pos_of_mem ha
    rw [List.length_cons]
    omega
def NM : List Str := ["aaaaaaaa", "bbbbbbbb", "cccccccc", "dddddddd", "eeeeeeee", "ffffffff", "gggggggg", "hhhhhhhh", "iiiiiiii", "jjjjjjjj", "kkkkkkkk", "llllllll"]
def AL : Str := "abcdefghijkl"
def n8 : D → D
  | .int k => match L2.atI AL.cps.toList k with
    | some c => .str (repS ⟨#[c]⟩ 8)
    | none => .none
  | _ => .none
def n8p (used : List Str) (x : D) : Bool := match n8 x with
  | .str s => decide (s ∉ used)
  | _ => false
theorem n8_all : (rangeL 0 1 12).map n8 = NM.map PyData.str := by kernel_rfl
theorem nm_ok : ∀ s ∈ NM, NameOk s := by
  have h : NM.all (fun s => decide (1 ≤ s.length) && decide (s.length ≤ 8) && s.cps.toList.all (fun c => decide (97 ≤ c) && decide (c ≤ 122)) && decide (s ∉ WL)) = true := by decide +kernel
  intro s hs
  have := List.all_eq_true.mp h s hs
  simp only [Bool.and_eq_true, decide_eq_true_iff, List.all_eq_true] at this
  exact ⟨this.1.1.1, this.1.1.2, fun c hc => this.1.2 c hc, this.2⟩
theorem nm_nd : NM.Nodup := by decide +kernel
theorem nm_len : NM.length = 12 := rfl
def nameFb : CE := .ix (.lc (.bin .mul (.ix (.cst (.str "abcdefghijkl")) (.var 6)) (.cst (.int (8)))) (.nm 6) (.rg 1 (.cons false (.cst (.int (12))) .nil)) (.yes (.tv (.cmp .nmem (.bin .mul (.ix (.cst (.str "abcdefghijkl")) (.var 6)) (.cst (.int (8)))) (.var 1)))) [5, 6]) (.cst (.int (0)))
def nameLc : CE := .lc (.bin .mul (.ix (.cst (.str "abcdefghijkl")) (.var 6)) (.cst (.int (8)))) (.nm 6) (.rg 1 (.cons false (.cst (.int (12))) .nil)) (.yes (.tv (.cmp .nmem (.bin .mul (.ix (.cst (.str "abcdefghijkl")) (.var 6)) (.cst (.int (8)))) (.var 1)))) [5, 6]
theorem nameFb_eq : nameFb = .ix nameLc (.cst (.int (0))) := rfl
theorem nameLc_lk {m : M EV} : lk nameLc m = m.bnd fun v => M.ret (v, []) := rfl
theorem name_code : c__law_name = .cons (.forr (.nm 2) (.rg 1 (.cons false (.cst (.int (20))) .nil)) nameBody) (.cons (.ret nameFb) .nil) := rfl
theorem one_len {c : Nat} : (⟨#[c]⟩ : Str).length = 1 := rfl
theorem name_fb {G : Gm} {used : List Str} (hu : used.length < 12) {v2 v3 v4 : Sl} {l : List D} :
    ∃ s, NameOk s ∧ s ∉ used ∧ evE G nameFb [.lent l, .lent (used.map PyData.str), v2, v3, v4, .no, .no] = some (.ok (.val (.str s)) [.lent l, .lent (used.map PyData.str), v2, v3, v4, .no, .no]) := by
  have hr : rgOk 12 = true := rgOk_of (by decide) (by decide)
  have hall : ∀ x ∈ rangeL 0 1 12, ∃ k c s, x = .int k ∧ L2.atI AL.cps.toList k = some c ∧ n8 x = .str s ∧ s = repS ⟨#[c]⟩ 8 ∧ s ∈ NM := fun x hx => by
    have hm : n8 x ∈ NM.map PyData.str := by rw [← n8_all]; exact List.mem_map.mpr ⟨x, hx, rfl⟩
    obtain ⟨s, hs, e⟩ := List.mem_map.mp hm
    obtain ⟨i, hi⟩ := List.mem_iff_getElem?.mp hx
    obtain ⟨k, rfl, _⟩ := rangeL_nth 12 i x hi
    cases hat : L2.atI AL.cps.toList k with
    | none => simp only [n8, hat] at e; cases e
    | some c =>
      have e2 : n8 (.int k) = .str (repS ⟨#[c]⟩ 8) := by simp only [n8, hat]
      rw [e2] at e
      cases e
      exact ⟨k, c, _, rfl, hat, e2, rfl, hs⟩
  have hc := comp_map (own := [5, 6]) (tg := evT (.nm 6)) (tt := evF G (.yes (.tv (.cmp .nmem (.bin .mul (.ix (.cst (.str "abcdefghijkl")) (.var 6)) (.cst (.int (8)))) (.var 1))))) (te := kp (evE G (.bin .mul (.ix (.cst (.str "abcdefghijkl")) (.var 6)) (.cst (.int (8)))))) (f := n8) (p := n8p used) (items := rangeL 0 1 12) (e := [.lent l, .lent (used.map PyData.str), v2, v3, v4, .no, .no]) (by rfl) (by rfl) (by rw [rangeL_len]; decide) fun x hx => by
    obtain ⟨k, c, s, rfl, hat, h8, hs, hm⟩ := hall x hx
    have hat2 : L2.atI (Str.ofString "abcdefghijkl").cps.toList k = some c := hat
    have hp : n8p used (.int k) = decide (s ∉ used) := by simp only [n8p, h8]
    refine ⟨[.lent l, .lent (used.map PyData.str), v2, v3, v4, .no, .val (.int k)], [.lent l, .lent (used.map PyData.str), v2, v3, v4, .no, .val (.int k)], by simp -implicitDefEqProofs [startE, evSs, evS, flow, evB, pk, lk, evE, peek, unl, M.bnd, M.ret, of_some, of_none, M.fail, En.g, unlock, EV.dat, Cn.d, ixD, cmpD, truth, evPs, evAs, evEs, evO, biD, kp, EV.keep, chk, chg, setF, appF, putV_v, putV_l, ly_no, ly_val, ly_fn, ly_clo, retV, getV, endF, outs, binD, unD, argM, argV, argE, callM, apart, back, evT_nm, evT_tp, evTs_nil, evTs_cons, Fl.unl, lenD, items, someI, slD, isNone, tyD, evI, rangeD_1, eqD, mem_strs, lenOk_0, lenOk_of, eqOk_int, eqOk_str, eqOk_bool, eqv_int, eqv_str, eqv_bool, Mi.wipe], ?_, fun _ => ⟨[.lent l, .lent (used.map PyData.str), v2, v3, v4, .no, .val (.int k)], ?_, rfl⟩, fun _ => rfl⟩
    · rw [hp]
      simp -implicitDefEqProofs [startE, evSs, evS, flow, evB, pk, lk, evE, peek, unl, M.bnd, M.ret, of_some, of_none, M.fail, En.g, unlock, EV.dat, Cn.d, ixD, cmpD, truth, evPs, evAs, evEs, evO, biD, kp, EV.keep, chk, chg, setF, appF, putV_v, putV_l, ly_no, ly_val, ly_fn, ly_clo, retV, getV, endF, outs, binD, unD, argM, argV, argE, callM, apart, back, evT_nm, evT_tp, evTs_nil, evTs_cons, Fl.unl, lenD, items, someI, slD, isNone, tyD, evI, rangeD_1, eqD, mem_strs, lenOk_0, lenOk_of, eqOk_int, eqOk_str, eqOk_bool, eqv_int, eqv_str, eqv_bool, evF, hat2, one_len, hs]
    · rw [h8]
      simp -implicitDefEqProofs [startE, evSs, evS, flow, evB, pk, lk, evE, peek, unl, M.bnd, M.ret, of_some, of_none, M.fail, En.g, unlock, EV.dat, Cn.d, ixD, cmpD, truth, evPs, evAs, evEs, evO, biD, kp, EV.keep, chk, chg, setF, appF, putV_v, putV_l, ly_no, ly_val, ly_fn, ly_clo, retV, getV, endF, outs, binD, unD, argM, argV, argE, callM, apart, back, evT_nm, evT_tp, evTs_nil, evTs_cons, Fl.unl, lenD, items, someI, slD, isNone, tyD, evI, rangeD_1, eqD, mem_strs, lenOk_0, lenOk_of, eqOk_int, eqOk_str, eqOk_bool, eqv_int, eqv_str, eqv_bool, hat2, one_len, hs]
  have hne : ∃ s r, ((rangeL 0 1 12).filter (n8p used)).map n8 = .str s :: r ∧ NameOk s ∧ s ∉ used := by
    cases hq : (rangeL 0 1 12).filter (n8p used) with
    | nil =>
      exfalso
      have : ∀ s ∈ NM, s ∈ used := fun s hs => by
        have hm : PyData.str s ∈ (rangeL 0 1 12).map n8 := by rw [n8_all]; exact List.mem_map.mpr ⟨s, hs, rfl⟩
        obtain ⟨x, hx, e⟩ := List.mem_map.mp hm
        refine Classical.byContradiction fun hn => ?_
        have : x ∈ (rangeL 0 1 12).filter (n8p used) := List.mem_filter.mpr ⟨hx, by simp only [n8p, e]; exact decide_eq_true hn⟩
        rw [hq] at this
        cases this
      have := nodup_len nm_nd this
      rw [nm_len] at this
      omega
    | cons x r =>
      have hx : x ∈ (rangeL 0 1 12).filter (n8p used) := by rw [hq]; exact List.mem_cons_self
      obtain ⟨h1, h2⟩ := List.mem_filter.mp hx
      obtain ⟨k, c, s, _, _, h8, _, hm⟩ := hall x h1
      refine ⟨s, r.map n8, by rw [List.map_cons, h8], nm_ok s hm, ?_⟩
      simp only [n8p, h8] at h2
      exact of_decide_eq_true h2
  obtain ⟨s, r, h1, h2, h3⟩ := hne
  rw [h1] at hc
  refine ⟨s, h2, h3, ?_⟩
  have e0 : Mi.wipe [5, 6] [.lent l, .lent (used.map PyData.str), v2, v3, v4, .no, .no] = [.lent l, .lent (used.map PyData.str), v2, v3, v4, .no, .no] := rfl
  rw [e0] at hc
  have hh : L2.atI (PyData.str s :: r) 0 = some (.str s) := by
    unfold L2.atI L2.ixN
    rw [if_pos (by decide), if_pos (by simp)]
    rfl
  have hl : ∀ e1 : En, e1 = [.lent l, .lent (used.map PyData.str), v2, v3, v4, .no, .no] → evE G nameLc e1 = some (.ok (.fr (PyData.str s :: r)) e1) := fun e1 he => by
    subst he
    unfold nameLc
    rw [evE]
    simp only [M.bnd]
    have hi : evI G (.rg 1 (.cons false (.cst (.int (12))) .nil)) [.lent l, .lent (used.map PyData.str), v2, v3, v4, .no, .no] = some (.ok (rangeL 0 1 12, []) [.lent l, .lent (used.map PyData.str), v2, v3, v4, .no, .no]) := by simp -implicitDefEqProofs [startE, evSs, evS, flow, evB, pk, lk, evE, peek, unl, M.bnd, M.ret, of_some, of_none, M.fail, En.g, unlock, EV.dat, Cn.d, ixD, cmpD, truth, evPs, evAs, evEs, evO, biD, kp, EV.keep, chk, chg, setF, appF, putV_v, putV_l, ly_no, ly_val, ly_fn, ly_clo, retV, getV, endF, outs, binD, unD, argM, argV, argE, callM, apart, back, evT_nm, evT_tp, evTs_nil, evTs_cons, Fl.unl, lenD, items, someI, slD, isNone, tyD, evI, rangeD_1, eqD, mem_strs, lenOk_0, lenOk_of, eqOk_int, eqOk_str, eqOk_bool, eqv_int, eqv_str, eqv_bool, hr]
    rw [hi]
    simp only [unl]
    rw [hc]
    rfl
  rw [nameFb_eq, evE, pk, nameLc_lk]
  have hl2 := hl _ rfl
  simp -implicitDefEqProofs [startE, evSs, evS, flow, evB, pk, lk, evE, peek, unl, M.bnd, M.ret, of_some, of_none, M.fail, En.g, unlock, EV.dat, Cn.d, ixD, cmpD, truth, evPs, evAs, evEs, evO, biD, kp, EV.keep, chk, chg, setF, appF, putV_v, putV_l, ly_no, ly_val, ly_fn, ly_clo, retV, getV, endF, outs, binD, unD, argM, argV, argE, callM, apart, back, evT_nm, evT_tp, evTs_nil, evTs_cons, Fl.unl, lenD, items, someI, slD, isNone, tyD, evI, rangeD_1, eqD, mem_strs, lenOk_0, lenOk_of, eqOk_int, eqOk_str, eqOk_bool, eqv_int, eqv_str, eqv_bool, hl2, hh]
end K01
end

section
set_option maxRecDepth 100000
set_option maxHeartbeats 2000000
namespace K01
open Mi PySem L2
def nameTl : CSs := .cons (.ret nameFb) .nil
theorem name_code2 : c__law_name = .cons (.forr (.nm 2) (.rg 1 (.cons false (.cst (.int (20))) .nil)) nameBody) nameTl := rfl
theorem ret_ok {G : Gm} {a : CE} {e e' : En} {v : D} (hv : retV a e = none) (h : evE G a e = some (.ok (.val v) e')) : evSs G (.cons (.ret a) .nil) e = some (.rt (.val v) e') := by
  simp -implicitDefEqProofs only [evSs, evS, hv, flow, h]
theorem bi_own {G : Gm} {b : Bi} {i : Nat} {xs : List D} {e : En} {v : EV} (h : e.g i = .own xs) (hb : biD b [.list xs] = some v) : evE G (.bi b (.cons false (.var i) .nil)) e = some (.ok v ((e.set i (.lock xs)).set i (.own xs))) := by
  simp -implicitDefEqProofs only [evE, evPs, lk, peek, M.bnd, h, M.ret, EV.dat, List.append_nil, hb, of_some, unl, unlock, List.foldl]
def NameS (G : Gm) : Prop := ∀ l (used : List Str), PoolV l → used.length < 12 → (∀ s ∈ used, NameOk s) → ∃ s l', NameOk s ∧ s ∉ used ∧ PoolV l' ∧ G.call f__law_name [.lent l, .lent (used.map PyData.str)] = some (.ok (.val (.str s)) [.lent l', .lent (used.map PyData.str)])
theorem name_run {G : Gm} (B : BelowS G) (O : OneS G) (Wd : WordsS G) {l : List D} {used : List Str} (hp : PoolV l) (hu : used.length < 12) (hn : ∀ s ∈ used, NameOk s) :
    ∃ s l', NameOk s ∧ s ∉ used ∧ PoolV l' ∧ endF 2 (evSs G c__law_name (startE 7 [.lent l, .lent (used.map PyData.str)])) = some (.ok (.val (.str s)) [.lent l', .lent (used.map PyData.str)]) := by
  obtain ⟨fl, h1, h2⟩ := for_inv (tg := evT (.nm 2)) (b := evSs G nameBody) (I := fun _ e => ∃ l v2 v3 v4, PoolV l ∧ v2.ly = false ∧ v3.ly = false ∧ v4.ly = false ∧ e = [.lent l, .lent (used.map PyData.str), v2, v3, v4, .no, .no])
    (R := fun v e => ∃ s l v2 v3 v4, NameOk s ∧ s ∉ used ∧ PoolV l ∧ v = .val (.str s) ∧ e = [.lent l, .lent (used.map PyData.str), v2, v3, v4, .no, .no]) (rangeL 0 1 20) 0 [.lent l, .lent (used.map PyData.str), .no, .no, .no, .no, .no] ⟨l, .no, .no, .no, hp, rfl, rfl, rfl, rfl⟩ fun j x e hx hI => by
    obtain ⟨l1, v2, v3, v4, hp1, h2, h3, h4, rfl⟩ := hI
    obtain ⟨k, rfl, hj⟩ := rangeL_nth 20 j x hx
    refine ⟨[.lent l1, .lent (used.map PyData.str), .val (.int k), v3, v4, .no, .no], by simp -implicitDefEqProofs [startE, evSs, evS, flow, evB, pk, lk, evE, peek, unl, M.bnd, M.ret, of_some, of_none, M.fail, En.g, unlock, EV.dat, Cn.d, ixD, cmpD, truth, evPs, evAs, evEs, evO, biD, kp, EV.keep, chk, chg, setF, appF, putV_v, putV_l, ly_no, ly_val, ly_fn, ly_clo, retV, getV, endF, outs, binD, unD, argM, argV, argE, callM, apart, back, evT_nm, evT_tp, evTs_nil, evTs_cons, Fl.unl, lenD, items, someI, slD, isNone, tyD, evI, rangeD_1, eqD, mem_strs, lenOk_0, lenOk_of, eqOk_int, eqOk_str, eqOk_bool, eqv_int, eqv_str, eqv_bool, h2], ?_⟩
    obtain ⟨l2, w3, w4, q1, q2, q3, q4⟩ := name_turn B O Wd (used := used) (by omega) hn (v2 := .val (.int k)) h3 h4 hp1
    rcases q4 with q4 | ⟨s, s1, s2, q4⟩
    · exact ⟨_, q4, .inl ⟨_, .inl rfl, l2, .val (.int k), w3, w4, q1, rfl, q2, q3, rfl⟩⟩
    · exact ⟨_, q4, .inr ⟨_, _, rfl, s, l2, .val (.int k), w3, w4, s1, s2, q1, rfl, rfl⟩⟩
  have hr : rgOk 20 = true := rgOk_of (by decide) (by decide)
  rcases h2 with ⟨e', rfl, l', v2, v3, v4, q1, q2, q3, q4, rfl⟩ | ⟨v, e', rfl, s, l', v2, v3, v4, q1, q2, q3, rfl, rfl⟩
  · obtain ⟨s, s1, s2, s3⟩ := name_fb (G := G) hu (v2 := v2) (v3 := v3) (v4 := v4) (l := l')
    refine ⟨s, l', s1, s2, q1, ?_⟩
    have ht : evSs G nameTl _ = _ := ret_ok (a := nameFb) rfl s3
    rw [name_code2]
    simp -implicitDefEqProofs [startE, evSs, evS, flow, evB, pk, lk, evE, peek, unl, M.bnd, M.ret, of_some, of_none, M.fail, En.g, unlock, EV.dat, Cn.d, ixD, cmpD, truth, evPs, evAs, evEs, evO, biD, kp, EV.keep, chk, chg, setF, appF, putV_v, putV_l, ly_no, ly_val, ly_fn, ly_clo, retV, getV, endF, outs, binD, unD, argM, argV, argE, callM, apart, back, evT_nm, evT_tp, evTs_nil, evTs_cons, Fl.unl, lenD, items, someI, slD, isNone, tyD, evI, rangeD_1, eqD, mem_strs, lenOk_0, lenOk_of, eqOk_int, eqOk_str, eqOk_bool, eqv_int, eqv_str, eqv_bool, hr, h1, ht]
  · refine ⟨s, l', q1, q2, q3, ?_⟩
    rw [name_code]
    simp -implicitDefEqProofs [startE, evSs, evS, flow, evB, pk, lk, evE, peek, unl, M.bnd, M.ret, of_some, of_none, M.fail, En.g, unlock, EV.dat, Cn.d, ixD, cmpD, truth, evPs, evAs, evEs, evO, biD, kp, EV.keep, chk, chg, setF, appF, putV_v, putV_l, ly_no, ly_val, ly_fn, ly_clo, retV, getV, endF, outs, binD, unD, argM, argV, argE, callM, apart, back, evT_nm, evT_tp, evTs_nil, evTs_cons, Fl.unl, lenD, items, someI, slD, isNone, tyD, evI, rangeD_1, eqD, mem_strs, lenOk_0, lenOk_of, eqOk_int, eqOk_str, eqOk_bool, eqv_int, eqv_str, eqv_bool, hr, h1]
theorem name_ok {n : Nat} : NameS (gmOf dat.con (fdOf dat.glb 60 dat.defs) (n + 3)) := fun l used hp hu hn => by
  obtain ⟨s, l', h1, h2, h3, h4⟩ := name_run (below_ok (n + 1)) (one_ok (n := n)) (words_ok (n := n + 1)) hp hu hn
  exact ⟨s, l', h1, h2, h3, by rw [gcall d__law_name rfl]; exact h4⟩
/-! ### sorted names -/
def Asc (as : List Str) : Prop := as.Pairwise fun a b => ltS a b = true
theorem lt_tri {a b : Str} (h : ltS a b = false) (n : a ≠ b) : ltS b a = true := by
  unfold ltS at *
  have h := of_decide_eq_false h
  refine decide_eq_true ?_
  have h2 := List.not_lt.mp h
  refine Classical.byContradiction fun h4 => ?_
  have h3 := List.le_antisymm h2 (List.not_lt.mp h4)
  · refine n ?_
    have h5 : a.cps = b.cps := (Array.toList_inj.mp h3).symm
    cases a; cases b
    exact congrArg Str.mk h5
theorem lt_tr {a b c : Str} (h : ltS a b = true) (k : ltS b c = true) : ltS a c = true := by
  unfold ltS at *
  exact decide_eq_true (List.lt_trans (of_decide_eq_true h) (of_decide_eq_true k))
theorem ins_mem {x z : Str} : ∀ {l : List Str}, z ∈ insB ltS x l ↔ z = x ∨ z ∈ l
  | [] => by simp [insB]
  | y :: r => by
    unfold insB
    split
    · rw [List.mem_cons, ins_mem (l := r), List.mem_cons]
      constructor
      · rintro (h | h | h) <;> simp [h]
      · rintro (h | h | h) <;> simp [h]
    · rw [List.mem_cons]
theorem ins_len {x : Str} : ∀ {l : List Str}, (insB ltS x l).length = l.length + 1
  | [] => rfl
  | y :: r => by
    unfold insB
    split
    · rw [List.length_cons, ins_len, List.length_cons]
    · rfl
theorem ins_asc {x : Str} : ∀ {l : List Str}, Asc l → x ∉ l → Asc (insB ltS x l)
  | [], _, _ => List.pairwise_singleton _ _
  | y :: r, h, n => by
    unfold Asc at h
    rw [List.pairwise_cons] at h
    unfold insB
    split
    · rename_i hy
      refine List.pairwise_cons.mpr ⟨fun z hz => ?_, ins_asc h.2 fun m => n (List.mem_cons_of_mem _ m)⟩
      rcases ins_mem.mp hz with rfl | hz
      · exact hy
      · exact h.1 z hz
    · rename_i hy
      have hxy : ltS x y = true := lt_tri (by simpa using hy) fun e => n (by rw [e]; exact List.mem_cons_self)
      refine List.pairwise_cons.mpr ⟨fun z hz => ?_, List.pairwise_cons.mpr h⟩
      rcases List.mem_cons.mp hz with rfl | hz
      · exact hxy
      · exact lt_tr hxy (h.1 z hz)
theorem sort_asc : ∀ {l : List Str}, l.Nodup → Asc (sortB ltS l) ∧ (sortB ltS l).length = l.length ∧ ∀ z, z ∈ sortB ltS l ↔ z ∈ l
  | [], _ => ⟨List.Pairwise.nil, rfl, fun z => Iff.rfl⟩
  | x :: r, h => by
    rw [List.nodup_cons] at h
    obtain ⟨h1, h2, h3⟩ := sort_asc h.2
    unfold sortB
    refine ⟨ins_asc h1 fun m => h.1 ((h3 x).mp m), by rw [ins_len, h2, List.length_cons], fun z => ?_⟩
    rw [ins_mem, h3, List.mem_cons]
structure AtOk (as : List Str) : Prop where
  lo : 1 ≤ as.length
  hi : as.length ≤ 4
  nm : ∀ s ∈ as, NameOk s
  asc : Asc as
def tS (as : List Str) : D := .tuple (as.map PyData.str)
theorem ints_strs {s : Str} {r : List Str} : intsL ((s :: r).map PyData.str) = none := rfl
theorem strs_strs : ∀ {r : List Str}, strsL (r.map PyData.str) = some r
  | [] => rfl
  | s :: r => by
    rw [List.map_cons]
    unfold strsL
    rw [strs_strs]
    rfl
theorem sorted_strs {r : List Str} (h : r.length < 64) (ne : r ≠ []) : biD .sorted [.list (r.map PyData.str)] = some (.fr ((sortB ltS r).map PyData.str)) := by
  cases r with
  | nil => exact absurd rfl ne
  | cons s t =>
    unfold biD
    have hb : Nat.blt ((s :: t).map PyData.str).length 64 = true := by
      rw [List.length_map]
      exact Nat.ble_eq_true_of_le h
    dsimp only
    rw [if_pos hb, ints_strs]
    dsimp only
    rw [strs_strs]
def AtomsS (G : Gm) : Prop := ∀ l, PoolV l → ∃ as l', AtOk as ∧ PoolV l' ∧ G.call f__law_atoms [.lent l, .val (.int 4)] = some (.ok (.val (tS as)) [.lent l', .no])
def atomsBody : CSs := fb (hd (tl c__law_atoms))
theorem atomsBody_eq : atomsBody = .cons (.expr (.app 2 (.call f__law_name (.cons false (.var 0) (.cons false (.var 2) .nil))))) .nil := rfl
def atomsRet : CE := .bi .tuple (.cons false (.bi .sorted (.cons false (.var 2) .nil)) .nil)
def atomsTl : CSs := .cons (.ret atomsRet) .nil
theorem atoms_code : c__law_atoms = .cons (.asg (.nm 2) (.lst .nil)) (.cons (.forr (.nm 3) (.rg 1 (.cons false (.bin .add (.cst (.int (1))) (.call f__law_below (.cons false (.var 0) (.cons false (.var 1) .nil)))) .nil)) atomsBody)
  atomsTl) := rfl
theorem atoms_run {G : Gm} (B : BelowS G) (N : NameS G) {l : List D} (hp : PoolV l) :
    ∃ as l', AtOk as ∧ PoolV l' ∧ endF 2 (evSs G c__law_atoms (startE 4 [.lent l, .val (.int 4)])) = some (.ok (.val (tS as)) [.lent l', .no]) := by
  obtain ⟨r, l1, r0, r1, hp1, hb⟩ := B l 4 hp (by decide) (by decide)
  obtain ⟨n, hn⟩ : ∃ n : Nat, 1 + r = (n : Int) := ⟨(1 + r).toNat, by omega⟩
  obtain ⟨fl, h1, h2⟩ := for_inv (tg := evT (.nm 3)) (b := evSs G atomsBody) (I := fun k e => k ≤ n ∧ ∃ l used v3, PoolV l ∧ used.length = k ∧ used.Nodup ∧ (∀ s ∈ used, NameOk s) ∧ v3.ly = false ∧ e = [.lent l, .val (.int 4), .own (used.map PyData.str), v3])
    (R := fun _ _ => False) (rangeL 0 1 n) 0 [.lent l1, .val (.int 4), .own [], .no] ⟨Nat.zero_le _, l1, [], .no, hp1, rfl, List.nodup_nil, by simp, rfl, rfl⟩ fun j x e hx hI => by
    obtain ⟨hk, l2, used, v3, hp2, hl, nd, ho, h3, rfl⟩ := hI
    obtain ⟨k, rfl, hj⟩ := rangeL_nth n j x hx
    obtain ⟨s, l3, s1, s2, hp3, hc⟩ := N l2 used hp2 (by omega) ho
    have hz : lenOk (used.length + 1) = true := lenOk_of (by omega)
    refine ⟨[.lent l2, .val (.int 4), .own (used.map PyData.str), .val (.int k)], by simp -implicitDefEqProofs [startE, evSs, evS, flow, evB, pk, lk, evE, peek, unl, M.bnd, M.ret, of_some, of_none, M.fail, En.g, unlock, EV.dat, Cn.d, ixD, cmpD, truth, evPs, evAs, evEs, evO, biD, kp, EV.keep, chk, chg, setF, appF, putV_v, putV_l, ly_no, ly_val, ly_fn, ly_clo, retV, getV, endF, outs, binD, unD, argM, argV, argE, callM, apart, back, evT_nm, evT_tp, evTs_nil, evTs_cons, Fl.unl, lenD, items, someI, slD, isNone, tyD, evI, rangeD_1, eqD, mem_strs, lenOk_0, lenOk_of, eqOk_int, eqOk_str, eqOk_bool, eqv_int, eqv_str, eqv_bool, h3], .nx [.lent l3, .val (.int 4), .own ((used ++ [s]).map PyData.str), .val (.int k)], ?_, .inl ⟨_, .inl rfl, by omega, l3, used ++ [s], .val (.int k), hp3, by rw [List.length_append, hl]; rfl, ?_, ?_, rfl, rfl⟩⟩
    · rw [atomsBody_eq]
      simp -implicitDefEqProofs [startE, evSs, evS, flow, evB, pk, lk, evE, peek, unl, M.bnd, M.ret, of_some, of_none, M.fail, En.g, unlock, EV.dat, Cn.d, ixD, cmpD, truth, evPs, evAs, evEs, evO, biD, kp, EV.keep, chk, chg, setF, appF, putV_v, putV_l, ly_no, ly_val, ly_fn, ly_clo, retV, getV, endF, outs, binD, unD, argM, argV, argE, callM, apart, back, evT_nm, evT_tp, evTs_nil, evTs_cons, Fl.unl, lenD, items, someI, slD, isNone, tyD, evI, rangeD_1, eqD, mem_strs, lenOk_0, lenOk_of, eqOk_int, eqOk_str, eqOk_bool, eqv_int, eqv_str, eqv_bool, hc, hz]
    · rw [List.nodup_append]
      refine ⟨nd, by simp, fun a ha b hb => ?_⟩
      rw [List.mem_singleton] at hb
      subst hb
      intro e
      subst e
      exact s2 ha
    · intro z hz
      rcases List.mem_append.mp hz with hz | hz
      · exact ho z hz
      · rw [List.mem_singleton] at hz
        subst hz
        exact s1
  have hr : rgOk (n : Int) = true := rgOk_of (by omega) (by omega)
  rcases h2 with ⟨e', rfl, hk, l', used, v3, q1, q2, q3, q4, q5, rfl⟩ | ⟨v, e', rfl, z⟩
  · rw [rangeL_len] at q2
    obtain ⟨a1, a2, a3⟩ := sort_asc q3
    refine ⟨sortB ltS used, l', ⟨by omega, by omega, fun s hs => q4 s ((a3 s).mp hs), a1⟩, q1, ?_⟩
    have hs := sorted_strs (r := used) (by omega) (by intro z; subst z; simp at q2; omega)
    have hret : evE G atomsRet [.lent l', .val (.int 4), .own (used.map PyData.str), v3] = some (.ok (.val (tS (sortB ltS used))) [.lent l', .val (.int 4), .own (used.map PyData.str), v3]) := by
      unfold atomsRet
      have hi := bi_own (G := G) (i := 2) (e := [.lent l', .val (.int 4), .own (used.map PyData.str), v3]) rfl hs
      rw [evE]
      simp -implicitDefEqProofs only [evPs, lk]
      simp -implicitDefEqProofs only [M.bnd, hi, M.ret, EV.dat, List.append_nil, of_some, unl, unlock, List.foldl]
      rfl
    have ht : evSs G atomsTl _ = _ := ret_ok (a := atomsRet) rfl hret
    rw [atoms_code]
    simp -implicitDefEqProofs [startE, evSs, evS, flow, evB, pk, lk, evE, peek, unl, M.bnd, M.ret, of_some, of_none, M.fail, En.g, unlock, EV.dat, Cn.d, ixD, cmpD, truth, evPs, evAs, evEs, evO, biD, kp, EV.keep, chk, chg, setF, appF, putV_v, putV_l, ly_no, ly_val, ly_fn, ly_clo, retV, getV, endF, outs, binD, unD, argM, argV, argE, callM, apart, back, evT_nm, evT_tp, evTs_nil, evTs_cons, Fl.unl, lenD, items, someI, slD, isNone, tyD, evI, rangeD_1, eqD, mem_strs, lenOk_0, lenOk_of, eqOk_int, eqOk_str, eqOk_bool, eqv_int, eqv_str, eqv_bool, hb, hn, hr, h1, ht]
  · exact z.elim
theorem atoms_ok {n : Nat} : AtomsS (gmOf dat.con (fdOf dat.glb 60 dat.defs) (n + 4)) := fun l hp => by
  obtain ⟨as, l', h1, h2, h3⟩ := atoms_run (below_ok (n + 2)) (name_ok (n := n)) hp
  exact ⟨as, l', h1, h2, by rw [gcall d__law_atoms rfl]; exact h3⟩
end K01
end

section
set_option maxRecDepth 100000
set_option maxHeartbeats 2000000
namespace K01
open Mi PySem L2
theorem bi_e {G : Gm} {b : Bi} {a : CE} {x v : EV} {e e' : En} (hl : ∀ m : M EV, lk a m = m.bnd fun v => M.ret (v, [])) (h : evE G a e = some (.ok x e')) (hb : biD b [x.dat] = some v) : evE G (.bi b (.cons false a .nil)) e = some (.ok v e') := by
  simp -implicitDefEqProofs only [evE, evPs, hl, M.bnd, h, M.ret, List.append_nil, hb, of_some, unl, unlock, List.foldl]
theorem lc_e {G : Gm} {elt : CE} {tg : CT} {it : CI} {ifs : CF} {own : List Nat} {xs : List D} {ls : Lks} {v : EV} {e e1 e2 : En} (hi : evI G it e = some (.ok (xs, ls) e1)) (hc : comp own (loopM own (evT tg) (evF G ifs) (kp (evE G elt)) xs []) e1 = some (.ok v e2)) : evE G (.lc elt tg it ifs own) e = some (.ok v (unlock ls e2)) := by
  rw [evE]
  simp only [M.bnd, hi, unl, hc]
theorem bools_map {f : D → Bool} : ∀ {l : List D}, boolsL (l.map fun x => PyData.bool (f x)) = some (l.map f)
  | [] => rfl
  | x :: r => by
    rw [List.map_cons]
    unfold boolsL
    rw [bools_map]
    rfl
def isIn (ss : List Str) : D → Bool
  | .str s => decide (s ∈ ss)
  | _ => false
def OneOfS (G : Gm) : Prop := ∀ d ss s2, (s2 = .val (.tuple (ss.map PyData.str)) ∨ s2 = .own (ss.map PyData.str)) → G.call f_is_one_of [.val d, s2] = some (.ok (.val (.bool (isIn ss d))) [.no, .no])
theorem oneof_ok {n : Nat} : OneOfS (gmOf dat.con (fdOf dat.glb 60 dat.defs) (n + 1)) := fun d ss s2 h => by
  rw [gcall d_is_one_of rfl]
  rcases h with rfl | rfl <;> cases d <;> simp -implicitDefEqProofs [startE, evSs, evS, flow, evB, pk, lk, evE, peek, unl, M.bnd, M.ret, of_some, of_none, M.fail, En.g, unlock, EV.dat, Cn.d, ixD, cmpD, truth, evPs, evAs, evEs, evO, biD, kp, EV.keep, chk, chg, setF, appF, putV_v, putV_l, ly_no, ly_val, ly_fn, ly_clo, retV, getV, endF, outs, binD, unD, argM, argV, argE, callM, apart, back, evT_nm, evT_tp, evTs_nil, evTs_cons, Fl.unl, lenD, items, someI, slD, isNone, tyD, evI, rangeD_1, eqD, mem_strs, lenOk_0, lenOk_of, eqOk_int, eqOk_str, eqOk_bool, eqv_int, eqv_str, eqv_bool, c_is_one_of, isIn]
theorem hs_let : ∀ c : Nat, 97 ≤ c → c ≤ 122 → hasSub ⟨#[c]⟩ (Str.ofString "abcdefghijklmnopqrstuvwxyz") = true := by
  intro c h1 h2
  have : c = 97 ∨ c = 98 ∨ c = 99 ∨ c = 100 ∨ c = 101 ∨ c = 102 ∨ c = 103 ∨ c = 104 ∨ c = 105 ∨ c = 106 ∨ c = 107 ∨ c = 108 ∨ c = 109 ∨ c = 110 ∨ c = 111 ∨ c = 112 ∨ c = 113 ∨ c = 114 ∨ c = 115 ∨ c = 116 ∨ c = 117 ∨ c = 118 ∨ c = 119 ∨ c = 120 ∨ c = 121 ∨ c = 122 := by omega
  rcases this with rfl | rfl | rfl | rfl | rfl | rfl | rfl | rfl | rfl | rfl | rfl | rfl | rfl | rfl | rfl | rfl | rfl | rfl | rfl | rfl | rfl | rfl | rfl | rfl | rfl | rfl <;> decide +kernel
def wordLc : CE := .lc (.cmp .mem (.var 2) (.cst (.str "abcdefghijklmnopqrstuvwxyz"))) (.nm 2) (.ex (.var 0)) .no [1, 2]
def wordAll : CE := .bi .all (.cons false wordLc .nil)
theorem word_code : c_is_word = .cons (.ret (.and (.isi (.var 0) .str) (.and (.cmp .ne (.var 0) (.cst (.str ""))) wordAll))) .nil := rfl
theorem word_all {G : Gm} {s : Str} (hs : Let s) (hl : s.length ≤ 100) : evE G wordAll [.val (.str s), .no, .no] = some (.ok (.val (.bool true)) [.val (.str s), .no, .no]) := by
  have hc := comp_map (own := [1, 2]) (tg := evT (.nm 2)) (tt := evF G .no) (te := kp (evE G (.cmp .mem (.var 2) (.cst (.str "abcdefghijklmnopqrstuvwxyz"))))) (f := fun _ => PyData.bool true) (p := fun _ => true) (items := signsL s) (e := [.val (.str s), .no, .no]) rfl rfl (by unfold signsL; rw [List.length_map, ← str_len]; omega) fun x hx => by
    obtain ⟨c, hc, rfl⟩ := List.mem_map.mp hx
    have hh := hs_let c (hs c hc).1 (hs c hc).2
    refine ⟨[.val (.str s), .no, .val (.str ⟨#[c]⟩)], [.val (.str s), .no, .val (.str ⟨#[c]⟩)], by simp -implicitDefEqProofs [startE, evSs, evS, flow, evB, pk, lk, evE, peek, unl, M.bnd, M.ret, of_some, of_none, M.fail, En.g, unlock, EV.dat, Cn.d, ixD, cmpD, truth, evPs, evAs, evEs, evO, biD, kp, EV.keep, chk, chg, setF, appF, putV_v, putV_l, ly_no, ly_val, ly_fn, ly_clo, retV, getV, endF, outs, binD, unD, argM, argV, argE, callM, apart, back, evT_nm, evT_tp, evTs_nil, evTs_cons, Fl.unl, lenD, items, someI, slD, isNone, tyD, evI, rangeD_1, eqD, mem_strs, lenOk_0, lenOk_of, eqOk_int, eqOk_str, eqOk_bool, eqv_int, eqv_str, eqv_bool, Mi.wipe], by simp -implicitDefEqProofs [startE, evSs, evS, flow, evB, pk, lk, evE, peek, unl, M.bnd, M.ret, of_some, of_none, M.fail, En.g, unlock, EV.dat, Cn.d, ixD, cmpD, truth, evPs, evAs, evEs, evO, biD, kp, EV.keep, chk, chg, setF, appF, putV_v, putV_l, ly_no, ly_val, ly_fn, ly_clo, retV, getV, endF, outs, binD, unD, argM, argV, argE, callM, apart, back, evT_nm, evT_tp, evTs_nil, evTs_cons, Fl.unl, lenD, items, someI, slD, isNone, tyD, evI, rangeD_1, eqD, mem_strs, lenOk_0, lenOk_of, eqOk_int, eqOk_str, eqOk_bool, eqv_int, eqv_str, eqv_bool, evF], fun _ => ⟨[.val (.str s), .no, .val (.str ⟨#[c]⟩)], by simp -implicitDefEqProofs [startE, evSs, evS, flow, evB, pk, lk, evE, peek, unl, M.bnd, M.ret, of_some, of_none, M.fail, En.g, unlock, EV.dat, Cn.d, ixD, cmpD, truth, evPs, evAs, evEs, evO, biD, kp, EV.keep, chk, chg, setF, appF, putV_v, putV_l, ly_no, ly_val, ly_fn, ly_clo, retV, getV, endF, outs, binD, unD, argM, argV, argE, callM, apart, back, evT_nm, evT_tp, evTs_nil, evTs_cons, Fl.unl, lenD, items, someI, slD, isNone, tyD, evI, rangeD_1, eqD, mem_strs, lenOk_0, lenOk_of, eqOk_int, eqOk_str, eqOk_bool, eqv_int, eqv_str, eqv_bool, hh], rfl⟩, fun z => by cases z⟩
  have hlc : evE G wordLc [.val (.str s), .no, .no] = _ := lc_e (xs := signsL s) (ls := []) (by simp -implicitDefEqProofs [startE, evSs, evS, flow, evB, pk, lk, evE, peek, unl, M.bnd, M.ret, of_some, of_none, M.fail, En.g, unlock, EV.dat, Cn.d, ixD, cmpD, truth, evPs, evAs, evEs, evO, biD, kp, EV.keep, chk, chg, setF, appF, putV_v, putV_l, ly_no, ly_val, ly_fn, ly_clo, retV, getV, endF, outs, binD, unD, argM, argV, argE, callM, apart, back, evT_nm, evT_tp, evTs_nil, evTs_cons, Fl.unl, lenD, items, someI, slD, isNone, tyD, evI, rangeD_1, eqD, mem_strs, lenOk_0, lenOk_of, eqOk_int, eqOk_str, eqOk_bool, eqv_int, eqv_str, eqv_bool, walkD]) hc
  refine bi_e (a := wordLc) (fun _ => rfl) hlc ?_
  show (boolsL _).map _ = _
  rw [bools_map]
  simp
def WordS (G : Gm) : Prop := ∀ s, NameOk s → G.call f_is_word [.val (.str s)] = some (.ok (.val (.bool true)) [.no])
theorem word_ok {n : Nat} : WordS (gmOf dat.con (fdOf dat.glb 60 dat.defs) (n + 1)) := fun s h => by
  rw [gcall d_is_word rfl, word_code]
  have h1 := word_all (G := gmOf dat.con (fdOf dat.glb 60 dat.defs) n) h.lt (by have := h.hi; omega)
  have h2 : (s == Str.ofString "") = false := beq_eq_false_iff_ne.mpr fun z => by
    have := h.lo
    rw [z] at this
    exact absurd this (by decide)
  simp -implicitDefEqProofs [startE, evSs, evS, flow, evB, pk, lk, evE, peek, unl, M.bnd, M.ret, of_some, of_none, M.fail, En.g, unlock, EV.dat, Cn.d, ixD, cmpD, truth, evPs, evAs, evEs, evO, biD, kp, EV.keep, chk, chg, setF, appF, putV_v, putV_l, ly_no, ly_val, ly_fn, ly_clo, retV, getV, endF, outs, binD, unD, argM, argV, argE, callM, apart, back, evT_nm, evT_tp, evTs_nil, evTs_cons, Fl.unl, lenD, items, someI, slD, isNone, tyD, evI, rangeD_1, eqD, mem_strs, lenOk_0, lenOk_of, eqOk_int, eqOk_str, eqOk_bool, eqv_int, eqv_str, eqv_bool, h1, h2]
theorem con_words {n : Nat} : (gmOf dat.con (fdOf dat.glb 60 dat.defs) n).con k_WORDS = some (.tuple (WL.map PyData.str)) := by
  have h : dat.con k_WORDS = some (.tuple (WL.map PyData.str)) := by kernel_rfl
  cases n <;> exact h
def IsNameS (G : Gm) : Prop := ∀ s, NameOk s → G.call f_is_name [.val (.str s)] = some (.ok (.val (.bool true)) [.no])
theorem isname_ok {n : Nat} : IsNameS (gmOf dat.con (fdOf dat.glb 60 dat.defs) (n + 2)) := fun s h => by
  rw [gcall d_is_name rfl]
  have h1 := word_ok (n := n) s h
  have h2 := con_words (n := n + 1)
  have h3 : (s.length : Int) ≤ 8 := by have := h.hi; omega
  have h4 := h.nw
  simp -implicitDefEqProofs [startE, evSs, evS, flow, evB, pk, lk, evE, peek, unl, M.bnd, M.ret, of_some, of_none, M.fail, En.g, unlock, EV.dat, Cn.d, ixD, cmpD, truth, evPs, evAs, evEs, evO, biD, kp, EV.keep, chk, chg, setF, appF, putV_v, putV_l, ly_no, ly_val, ly_fn, ly_clo, retV, getV, endF, outs, binD, unD, argM, argV, argE, callM, apart, back, evT_nm, evT_tp, evTs_nil, evTs_cons, Fl.unl, lenD, items, someI, slD, isNone, tyD, evI, rangeD_1, eqD, mem_strs, lenOk_0, lenOk_of, eqOk_int, eqOk_str, eqOk_bool, eqv_int, eqv_str, eqv_bool, c_is_name, h1, h2, h3, h4]
def BelS (G : Gm) : Prop := ∀ pre s, Asc (pre ++ [s]) → G.call f_are_below [.val (tS pre), .val (.str s)] = some (.ok (.val (.bool true)) [.no, .no])
theorem at_neg {α : Type} {xs : List α} {x : α} : L2.atI (xs ++ [x]) (-1) = some x := by
  unfold L2.atI L2.ixN
  rw [if_neg (by decide), if_pos (by rw [List.length_append, List.length_singleton]; omega)]
  have : ((xs ++ [x]).length + (-1 : Int)).toNat = xs.length := by rw [List.length_append, List.length_singleton]; omega
  first
  | (show (xs ++ [x])[((xs ++ [x]).length + (-1 : Int)).toNat]? = _; rw [this]; simp)
  | simp
theorem bel_ok {n : Nat} : BelS (gmOf dat.con (fdOf dat.glb 60 dat.defs) (n + 1)) := fun pre s h => by
  rw [gcall d_are_below rfl]
  rcases List.eq_nil_or_concat pre with rfl | ⟨p, z, rfl⟩
  · simp -implicitDefEqProofs [startE, evSs, evS, flow, evB, pk, lk, evE, peek, unl, M.bnd, M.ret, of_some, of_none, M.fail, En.g, unlock, EV.dat, Cn.d, ixD, cmpD, truth, evPs, evAs, evEs, evO, biD, kp, EV.keep, chk, chg, setF, appF, putV_v, putV_l, ly_no, ly_val, ly_fn, ly_clo, retV, getV, endF, outs, binD, unD, argM, argV, argE, callM, apart, back, evT_nm, evT_tp, evTs_nil, evTs_cons, Fl.unl, lenD, items, someI, slD, isNone, tyD, evI, rangeD_1, eqD, mem_strs, lenOk_0, lenOk_of, eqOk_int, eqOk_str, eqOk_bool, eqv_int, eqv_str, eqv_bool, c_are_below, tS]
  · have h2 : ltS z s = true := by
      rw [List.concat_eq_append, List.append_assoc] at h
      have h := (List.pairwise_append.mp h).2.1
      rw [List.singleton_append, List.pairwise_cons] at h
      exact h.1 s List.mem_cons_self
    have h3 : L2.atI (List.map PyData.str p ++ [PyData.str z]) (-1) = some (.str z) := at_neg
    have h4 : (List.map PyData.str p ++ [PyData.str z]).isEmpty = false := by cases List.map PyData.str p <;> rfl
    simp -implicitDefEqProofs [startE, evSs, evS, flow, evB, pk, lk, evE, peek, unl, M.bnd, M.ret, of_some, of_none, M.fail, En.g, unlock, EV.dat, Cn.d, ixD, cmpD, truth, evPs, evAs, evEs, evO, biD, kp, EV.keep, chk, chg, setF, appF, putV_v, putV_l, ly_no, ly_val, ly_fn, ly_clo, retV, getV, endF, outs, binD, unD, argM, argV, argE, callM, apart, back, evT_nm, evT_tp, evTs_nil, evTs_cons, Fl.unl, lenD, items, someI, slD, isNone, tyD, evI, rangeD_1, eqD, mem_strs, lenOk_0, lenOk_of, eqOk_int, eqOk_str, eqOk_bool, eqv_int, eqv_str, eqv_bool, c_are_below, tS, List.concat_eq_append, h3, h2, h4]
def rightB : CE := .and (.call f_is_name (.cons false (.var 1) .nil)) (.call f_are_below (.cons false (.var 0) (.cons false (.var 1) .nil)))
def CloS (G : Gm) : Prop := ∀ pre s, NameOk s → Asc (pre ++ [s]) → G.clo 2 2 rightB [] [.val (tS pre), .val (.str s)] = some (.ok (.val (.bool true)) [.no, .no])
theorem clo_ok {n : Nat} : CloS (gmOf dat.con (fdOf dat.glb 60 dat.defs) (n + 3)) := fun pre s h1 h2 => by
  have q1 := isname_ok (n := n) s h1
  have q2 : (gmOf dat.con (fdOf dat.glb 60 dat.defs) (n + 2)).call f_are_below [.val (tS pre), .val (.str s)] = _ := bel_ok (n := n + 1) pre s h2
  rw [gclo (np := 2) rfl rfl]
  simp -implicitDefEqProofs [startE, evSs, evS, flow, evB, pk, lk, evE, peek, unl, M.bnd, M.ret, of_some, of_none, M.fail, En.g, unlock, EV.dat, Cn.d, ixD, cmpD, truth, evPs, evAs, evEs, evO, biD, kp, EV.keep, chk, chg, setF, appF, putV_v, putV_l, ly_no, ly_val, ly_fn, ly_clo, retV, getV, endF, outs, binD, unD, argM, argV, argE, callM, apart, back, evT_nm, evT_tp, evTs_nil, evTs_cons, Fl.unl, lenD, items, someI, slD, isNone, tyD, evI, rangeD_1, eqD, mem_strs, lenOk_0, lenOk_of, eqOk_int, eqOk_str, eqOk_bool, eqv_int, eqv_str, eqv_bool, rightB, q1, q2, List.append_nil]
end K01
end

section
set_option maxRecDepth 100000
set_option maxHeartbeats 2000000
namespace K01
open Mi PySem L2
theorem enumL_nth {α : Type} : ∀ (xs : List D) (k j : Nat) (x : D), (enumL k xs)[j]? = some x → ∃ y, xs[j]? = some y ∧ x = .tuple [.int ((k + j : Nat) : Int), y]
  | [], k, j, x, h => by simp [enumL] at h
  | a :: r, k, 0, x, h => by
    simp [enumL] at h
    exact ⟨a, rfl, h.symm⟩
  | a :: r, k, j + 1, x, h => by
    simp only [enumL, List.getElem?_cons_succ] at h
    obtain ⟨y, h1, h2⟩ := enumL_nth (α := α) r (k + 1) j x h
    refine ⟨y, by rw [List.getElem?_cons_succ]; exact h1, ?_⟩
    rw [h2, show k + 1 + j = k + (j + 1) by omega]
theorem enumL_len : ∀ (xs : List D) (k : Nat), (enumL k xs).length = xs.length
  | [], _ => rfl
  | a :: r, k => by rw [enumL, List.length_cons, enumL_len, List.length_cons]
theorem cutL_take {α : Type} {xs : List α} {k : Nat} (h : k ≤ xs.length) : cutL xs none (some (k : Int)) = xs.take k := by
  unfold cutL
  rw [HT.sIx_none, HT.sIx_nat, List.drop_zero, Nat.sub_zero, Nat.min_eq_left h]
def wrongBody : CSs := fb (hd (tl c_wrong_in))
theorem wrongBody_eq : wrongBody = .cons (.iff (.or (.tv (.cmp .eq (.var 4) (.var 2))) (.not (.tv (.cal 3 (.cons false (.sl (.var 0) .no (.yes (.var 4))) (.cons false (.var 5) .nil)))))) (.cons (.ret (.lst (.cons false (.var 4) .nil))) .nil) .nil) .nil := rfl
theorem wrong_code : c_wrong_in = .cons (.iff (.or (.not (.tv (.isi (.var 0) .tuple))) (.tv (.cmp .lt (.bi .len (.cons false (.var 0) .nil)) (.var 1)))) (.cons (.ret (.lst (.cons false (.cst .non) .nil))) .nil) .nil)
  (.cons (.forr (.tp (.cons (.nm 4) (.cons (.nm 5) .nil))) (.en (.cons false (.var 0) .nil)) wrongBody) (.cons (.ret (.lst .nil)) .nil)) := rfl
theorem wrong_run {G : Gm} (C : CloS G) {as : List Str} (ha : AtOk as) : endF 4 (evSs G c_wrong_in (startE 6 [.val (tS as), .val (.int 1), .val (.int 4), .clo 2 2 rightB []])) = some (.ok (.fr []) [.no, .no, .no, .no]) := by
  obtain ⟨fl, h1, h2⟩ := for_inv (tg := evT (.tp (.cons (.nm 4) (.cons (.nm 5) .nil)))) (b := evSs G wrongBody) (I := fun k e => ∃ v4 v5, v4.ly = false ∧ v5.ly = false ∧ e = [.val (tS as), .val (.int 1), .val (.int 4), .clo 2 2 rightB [], v4, v5])
    (R := fun _ _ => False) (enumL 0 (as.map PyData.str)) 0 [.val (tS as), .val (.int 1), .val (.int 4), .clo 2 2 rightB [], .no, .no] ⟨.no, .no, rfl, rfl, rfl⟩ fun j x e hx hI => by
    obtain ⟨v4, v5, h4, h5, rfl⟩ := hI
    obtain ⟨y, hy, rfl⟩ := enumL_nth (α := Nat) _ _ _ _ hx
    rw [Nat.zero_add]
    rw [List.getElem?_map] at hy
    obtain ⟨s, hs, rfl⟩ : ∃ s, as[j]? = some s ∧ y = .str s := by
      cases hq : as[j]? with
      | none => rw [hq] at hy; cases hy
      | some s => rw [hq] at hy; cases hy; exact ⟨s, rfl, rfl⟩
    have hj : j < as.length := by
      rcases Nat.lt_or_ge j as.length with h | h
      · exact h
      · rw [List.getElem?_eq_none h] at hs; cases hs
    have hm : as = as.take j ++ s :: as.drop (j + 1) := by
      have e1 : as.drop j = s :: as.drop (j + 1) := by
        rw [List.drop_eq_getElem_cons hj]
        rw [List.getElem?_eq_getElem hj] at hs
        cases hs
        rfl
      rw [← e1, List.take_append_drop]
    have hasc : Asc (as.take j ++ [s]) := by
      have h := ha.asc
      unfold Asc at h ⊢
      rw [hm] at h
      rw [show as.take j ++ s :: as.drop (j + 1) = (as.take j ++ [s]) ++ as.drop (j + 1) by simp] at h
      exact (List.pairwise_append.mp h).1
    have hc := C (as.take j) s (ha.nm s (List.mem_of_getElem? hs)) hasc
    unfold tS at hc
    rw [List.map_take] at hc
    have hcut : cutL (as.map PyData.str) none (some (j : Int)) = (as.map PyData.str).take j := cutL_take (by rw [List.length_map]; omega)
    have hne : ((j : Int) == 4) = false := beq_eq_false_iff_ne.mpr (by have := ha.hi; omega)
    refine ⟨[.val (tS as), .val (.int 1), .val (.int 4), .clo 2 2 rightB [], .val (.int (j : Int)), .val (.str s)], by simp -implicitDefEqProofs [startE, evSs, evS, flow, evB, pk, lk, evE, peek, unl, M.bnd, M.ret, of_some, of_none, M.fail, En.g, unlock, EV.dat, Cn.d, ixD, cmpD, truth, evPs, evAs, evEs, evO, biD, kp, EV.keep, chk, chg, setF, appF, putV_v, putV_l, ly_no, ly_val, ly_fn, ly_clo, retV, getV, endF, outs, binD, unD, argM, argV, argE, callM, apart, back, evT_nm, evT_tp, evTs_nil, evTs_cons, Fl.unl, lenD, items, someI, slD, isNone, tyD, evI, rangeD_1, eqD, mem_strs, lenOk_0, lenOk_of, eqOk_int, eqOk_str, eqOk_bool, eqv_int, eqv_str, eqv_bool, h4, h5], .nx [.val (tS as), .val (.int 1), .val (.int 4), .clo 2 2 rightB [], .val (.int (j : Int)), .val (.str s)], ?_, .inl ⟨_, .inl rfl, _, _, rfl, rfl, rfl⟩⟩
    rw [wrongBody_eq]
    unfold tS
    simp -implicitDefEqProofs [startE, evSs, evS, flow, evB, pk, lk, evE, peek, unl, M.bnd, M.ret, of_some, of_none, M.fail, En.g, unlock, EV.dat, Cn.d, ixD, cmpD, truth, evPs, evAs, evEs, evO, biD, kp, EV.keep, chk, chg, setF, appF, putV_v, putV_l, ly_no, ly_val, ly_fn, ly_clo, retV, getV, endF, outs, binD, unD, argM, argV, argE, callM, apart, back, evT_nm, evT_tp, evTs_nil, evTs_cons, Fl.unl, lenD, items, someI, slD, isNone, tyD, evI, rangeD_1, eqD, mem_strs, lenOk_0, lenOk_of, eqOk_int, eqOk_str, eqOk_bool, eqv_int, eqv_str, eqv_bool, fnOf, hcut, hne, hc]
  rw [wrong_code]
  rcases h2 with ⟨e', rfl, v4, v5, h4, h5, rfl⟩ | ⟨v, e', rfl, z⟩
  · unfold tS at h1 ⊢
    have hl : ¬ ((as.length : Int) < 1) := by have := ha.lo; omega
    simp -implicitDefEqProofs [startE, evSs, evS, flow, evB, pk, lk, evE, peek, unl, M.bnd, M.ret, of_some, of_none, M.fail, En.g, unlock, EV.dat, Cn.d, ixD, cmpD, truth, evPs, evAs, evEs, evO, biD, kp, EV.keep, chk, chg, setF, appF, putV_v, putV_l, ly_no, ly_val, ly_fn, ly_clo, retV, getV, endF, outs, binD, unD, argM, argV, argE, callM, apart, back, evT_nm, evT_tp, evTs_nil, evTs_cons, Fl.unl, lenD, items, someI, slD, isNone, tyD, evI, rangeD_1, eqD, mem_strs, lenOk_0, lenOk_of, eqOk_int, eqOk_str, eqOk_bool, eqv_int, eqv_str, eqv_bool, hl, enumD, h1]
  · exact z.elim
def WrongAtS (G : Gm) : Prop := ∀ as, AtOk as → G.call f_wrong_in_atoms [.val (tS as)] = some (.ok (.fr []) [.no])
theorem wrongat_ok {n : Nat} : WrongAtS (gmOf dat.con (fdOf dat.glb 60 dat.defs) (n + 5)) := fun as ha => by
  have h1 : (gmOf dat.con (fdOf dat.glb 60 dat.defs) (n + 4)).call f_wrong_in [.val (tS as), .val (.int 1), .val (.int 4), .clo 2 2 rightB []] = some (.ok (.fr []) [.no, .no, .no, .no]) := by
    rw [gcall d_wrong_in rfl]
    exact wrong_run (clo_ok (n := n)) ha
  unfold rightB at h1
  rw [gcall d_wrong_in_atoms rfl]
  simp -implicitDefEqProofs [startE, evSs, evS, flow, evB, pk, lk, evE, peek, unl, M.bnd, M.ret, of_some, of_none, M.fail, En.g, unlock, EV.dat, Cn.d, ixD, cmpD, truth, evPs, evAs, evEs, evO, biD, kp, EV.keep, chk, chg, setF, appF, putV_v, putV_l, ly_no, ly_val, ly_fn, ly_clo, retV, getV, endF, outs, binD, unD, argM, argV, argE, callM, apart, back, evT_nm, evT_tp, evTs_nil, evTs_cons, Fl.unl, lenD, items, someI, slD, isNone, tyD, evI, rangeD_1, eqD, mem_strs, lenOk_0, lenOk_of, eqOk_int, eqOk_str, eqOk_bool, eqv_int, eqv_str, eqv_bool, c_wrong_in_atoms, capsV, h1]
def CheckS (G : Gm) : Prop := ∀ as, AtOk as → G.call f_check_atoms [.val (tS as)] = some (.ok (.val .none) [.no])
theorem check_ok {n : Nat} : CheckS (gmOf dat.con (fdOf dat.glb 60 dat.defs) (n + 6)) := fun as ha => by
  have h1 := wrongat_ok (n := n) as ha
  rw [gcall d_check_atoms rfl]
  simp -implicitDefEqProofs [startE, evSs, evS, flow, evB, pk, lk, evE, peek, unl, M.bnd, M.ret, of_some, of_none, M.fail, En.g, unlock, EV.dat, Cn.d, ixD, cmpD, truth, evPs, evAs, evEs, evO, biD, kp, EV.keep, chk, chg, setF, appF, putV_v, putV_l, ly_no, ly_val, ly_fn, ly_clo, retV, getV, endF, outs, binD, unD, argM, argV, argE, callM, apart, back, evT_nm, evT_tp, evTs_nil, evTs_cons, Fl.unl, lenD, items, someI, slD, isNone, tyD, evI, rangeD_1, eqD, mem_strs, lenOk_0, lenOk_of, eqOk_int, eqOk_str, eqOk_bool, eqv_int, eqv_str, eqv_bool, c_check_atoms, h1, walkD, Mi.forM]
end K01
end

section
set_option maxRecDepth 100000
set_option maxHeartbeats 2000000
namespace K01
open Mi PySem L2
def WS : Nat → List D
  | 0 => [.tuple []]
  | n + 1 => (WS n).flatMap fun x => match x with
    | .tuple xs => [.tuple (xs ++ [.bool false]), .tuple (xs ++ [.bool true])]
    | _ => []
theorem four {P : List Str → Prop} (h1 : ∀ a, P [a]) (h2 : ∀ a b, P [a, b]) (h3 : ∀ a b c, P [a, b, c]) (h4 : ∀ a b c d, P [a, b, c, d]) {as : List Str} (ha : AtOk as) : P as := by
  obtain ⟨lo, hi, _, _⟩ := ha
  match as, lo, hi with
  | [a], _, _ => exact h1 a
  | [a, b], _, _ => exact h2 a b
  | [a, b, c], _, _ => exact h3 a b c
  | [a, b, c, d], _, _ => exact h4 a b c d
  | _ :: _ :: _ :: _ :: _ :: _, _, h => simp at h
def ByS (G : Gm) : Prop := ∀ as, AtOk as → G.call f_worlds_by [.val (tS as)] = some (.ok (.val (.tuple (WS as.length))) [.no])
theorem by_ok {n : Nat} : ByS (gmOf dat.con (fdOf dat.glb 60 dat.defs) (n + 1)) := fun as ha => by
  rw [gcall d_worlds_by rfl]
  refine four (P := fun as => endF 1 (evSs (gmOf dat.con (fdOf dat.glb 60 dat.defs) n) c_worlds_by (startE 6 [.val (tS as)])) = some (.ok (.val (.tuple (WS as.length))) [.no])) ?_ ?_ ?_ ?_ ha
  · intro a; kernel_rfl
  · intro a b; kernel_rfl
  · intro a b c; kernel_rfl
  · intro a b c d; kernel_rfl
def LwS (G : Gm) : Prop := ∀ as, AtOk as → G.call f__law_worlds [.val (tS as)] = some (.ok (.val (.list (WS as.length))) [.no])
theorem lw_ok {n : Nat} : LwS (gmOf dat.con (fdOf dat.glb 60 dat.defs) (n + 1)) := fun as ha => by
  rw [gcall d__law_worlds rfl]
  refine four (P := fun as => endF 1 (evSs (gmOf dat.con (fdOf dat.glb 60 dat.defs) n) c__law_worlds (startE 5 [.val (tS as)])) = some (.ok (.val (.list (WS as.length))) [.no])) ?_ ?_ ?_ ?_ ha
  · intro a; kernel_rfl
  · intro a b; kernel_rfl
  · intro a b c; kernel_rfl
  · intro a b c d; kernel_rfl
def WorldsS (G : Gm) : Prop := ∀ as, AtOk as → G.call f_worlds [.val (tS as)] = some (.ok (.val (.tuple (WS as.length))) [.no])
theorem worlds_ok {n : Nat} : WorldsS (gmOf dat.con (fdOf dat.glb 60 dat.defs) (n + 7)) := fun as ha => by
  have h1 := check_ok (n := n) as ha
  have h2 := by_ok (n := n + 5) as ha
  rw [gcall d_worlds rfl]
  simp -implicitDefEqProofs [startE, evSs, evS, flow, evB, pk, lk, evE, peek, unl, M.bnd, M.ret, of_some, of_none, M.fail, En.g, unlock, EV.dat, Cn.d, ixD, cmpD, truth, evPs, evAs, evEs, evO, biD, kp, EV.keep, chk, chg, setF, appF, putV_v, putV_l, ly_no, ly_val, ly_fn, ly_clo, retV, getV, endF, outs, binD, unD, argM, argV, argE, callM, apart, back, evT_nm, evT_tp, evTs_nil, evTs_cons, Fl.unl, lenD, items, someI, slD, isNone, tyD, evI, rangeD_1, eqD, mem_strs, lenOk_0, lenOk_of, eqOk_int, eqOk_str, eqOk_bool, eqv_int, eqv_str, eqv_bool, c_worlds, h1, h2]
def SameW (G : Gm) : Prop := ∀ as, AtOk as → G.call f__law_same [.own [.tuple (WS as.length), .tuple (WS as.length)], .own [.tuple (WS as.length), .tuple (WS as.length)]] = some (.ok (.val (.bool true)) [.no, .no])
theorem samew_ok {n : Nat} : SameW (gmOf dat.con (fdOf dat.glb 60 dat.defs) (n + 4)) := fun as ha => by
  refine four (P := fun as => (gmOf dat.con (fdOf dat.glb 60 dat.defs) (n + 4)).call f__law_same [.own [.tuple (WS as.length), .tuple (WS as.length)], .own [.tuple (WS as.length), .tuple (WS as.length)]] = some (.ok (.val (.bool true)) [.no, .no])) ?_ ?_ ?_ ?_ ha
  · intro a; kernel_rfl
  · intro a b; kernel_rfl
  · intro a b c; kernel_rfl
  · intro a b c d; kernel_rfl
def SameB (G : Gm) : Prop := ∀ b : Bool, G.call f__law_same [.own [.bool b, .bool b], .own [.bool b, .bool b]] = some (.ok (.val (.bool true)) [.no, .no])
theorem sameb_ok {n : Nat} : SameB (gmOf dat.con (fdOf dat.glb 60 dat.defs) (n + 2)) := fun b => by
  cases b <;> kernel_rfl
theorem sorted_ws {as : List Str} (ha : AtOk as) : biD .sorted [.tuple (WS as.length)] = some (.fr (WS as.length)) := by
  refine four (P := fun as => biD .sorted [.tuple (WS as.length)] = some (.fr (WS as.length))) ?_ ?_ ?_ ?_ ha
  all_goals
    intros
    simp only [List.length_cons, List.length_nil, Nat.zero_add, Nat.reduceAdd]
    unfold biD
    dsimp only
    rw [if_pos (by decide +kernel)]
    unfold sortD
    rw [if_pos (by decide +kernel), List.mergeSort_of_pairwise (by decide +kernel)]
    rfl
theorem ne_ws {as : List Str} (ha : AtOk as) : cmpD .ne (.list (WS as.length)) (.list (WS as.length)) = some false := by
  refine four (P := fun as => cmpD .ne (.list (WS as.length)) (.list (WS as.length)) = some false) ?_ ?_ ?_ ?_ ha
  all_goals (intros; kernel_rfl)
end K01
end

section
set_option maxRecDepth 100000
set_option maxHeartbeats 2000000
namespace K01
open Mi PySem L2
mutual
/-- how much there is of a thing -/
def wt : D → Nat
  | .tuple xs => wtL xs + 1
  | _ => 1
def wtL : List D → Nat
  | [] => 0
  | x :: r => wt x + wtL r
end
theorem wt_pos (x : D) : 1 ≤ wt x := by cases x <;> simp [wt]
theorem wtL_app (xs ys : List D) : wtL (xs ++ ys) = wtL xs + wtL ys := by
  induction xs with
  | nil => simp [wtL]
  | cons x r ih => rw [List.cons_append, wtL, wtL, ih]; omega
theorem wtL_len (xs : List D) : xs.length ≤ wtL xs := by
  induction xs with
  | nil => simp
  | cons x r ih => rw [List.length_cons, wtL]; have := wt_pos x; omega
theorem wtL_mem {x : D} {xs : List D} (h : x ∈ xs) : wt x ≤ wtL xs := by
  induction xs with
  | nil => cases h
  | cons y r ih =>
    rw [wtL]
    rcases List.mem_cons.mp h with rfl | h
    · omega
    · have := ih h; omega
theorem wtL_take {xs : List D} {k : Nat} : wtL (xs.take k) + wtL (xs.drop k) = wtL xs := by
  rw [← wtL_app, List.take_append_drop]
theorem wtL_rev {xs : List D} : wtL xs.reverse = wtL xs := by
  induction xs with
  | nil => rfl
  | cons x r ih => rw [List.reverse_cons, wtL_app, ih, wtL, wtL, wtL]; omega
mutual
/-- of texts and tuples alone -/
def pur : D → Bool
  | .str _ => true
  | .tuple xs => purL xs
  | _ => false
def purL : List D → Bool
  | [] => true
  | x :: r => pur x && purL r
end
theorem purL_all {xs : List D} : purL xs = xs.all pur := by
  induction xs with
  | nil => rfl
  | cons x r ih => rw [purL, ih, List.all_cons]
mutual
def dp : D → Nat
  | .tuple xs => dpL xs + 1
  | _ => 0
def dpL : List D → Nat
  | [] => 0
  | x :: r => max (dp x) (dpL r)
end
theorem dpL_mem {x : D} {xs : List D} (h : x ∈ xs) : dp x ≤ dpL xs := by
  induction xs with
  | nil => cases h
  | cons y r ih =>
    rw [dpL]
    rcases List.mem_cons.mp h with rfl | h
    · omega
    · have := ih h; omega
theorem cutL_drop {α : Type} {xs : List α} {k : Nat} : cutL xs (some (k : Int)) none = xs.drop k := by
  unfold cutL
  rw [HT.sIx_none, HT.sIx_nat]
  rcases Nat.lt_or_ge k xs.length with h | h
  · rw [Nat.min_eq_left (by omega)]
    exact List.take_of_length_le (by rw [List.length_drop]; omega)
  · rw [List.drop_eq_nil_of_le h, Nat.min_eq_right h, List.drop_length, List.take_nil]
/-- a word with its parts -/
def hp : List D → Bool
  | .str o :: r => (o == "not" && r.length == 1) || ((o == "and" || o == "or" || o == "if") && r.length == 2)
  | _ => false
mutual
def senA (as : List Str) : D → Nat → Bool
  | .str s, _ => decide (s ∈ as)
  | .tuple (h :: r), d => d != 10 && hp (h :: r) && senAL as r (d + 1)
  | _, _ => false
def senAL (as : List Str) : List D → Nat → Bool
  | [], _ => true
  | x :: r, d => senA as x d && senAL as r d
end
mutual
def senB (as : List Str) : D → Nat → Bool
  | .str s, d => decide (s ∈ as) && decide (d ≤ 10)
  | .tuple (h :: r), d => decide (d < 12) && hp (h :: r) && senBL as r (d + 1)
  | _, _ => false
def senBL (as : List Str) : List D → Nat → Bool
  | [], _ => true
  | x :: r, d => senB as x d && senBL as r d
end
theorem hp_ne {h : D} {r : List D} (q : hp (h :: r) = true) : r ≠ [] := by
  intro z
  subst z
  cases h <;> simp [hp] at q
theorem senB_deep {as : List Str} : ∀ (n : Nat) (x : D) (d : Nat), wt x ≤ n → 11 ≤ d → senB as x d = false := by
  intro n
  induction n with
  | zero => intro x d h _; have := wt_pos x; omega
  | succ n ih =>
    intro x d h hd
    cases x with
    | str s => rw [senB, decide_eq_false (show ¬ d ≤ 10 by omega), Bool.and_false]
    | tuple xs =>
      cases xs with
      | nil => rfl
      | cons y r =>
        rw [senB]
        cases q : hp (y :: r) with
        | false => simp
        | true =>
          cases r with
          | nil => exact absurd rfl (hp_ne q)
          | cons z t =>
            rw [senBL, ih z (d + 1) (by simp only [wt, wtL] at h; have := wt_pos y; omega) (by omega)]
            simp
    | _ => rfl
theorem sen_ab {as : List Str} : ∀ (n : Nat), (∀ (x : D) (d : Nat), wt x ≤ n → d ≤ 10 → senA as x d = senB as x d) ∧ (∀ (xs : List D) (d : Nat), wtL xs ≤ n → d ≤ 10 → senAL as xs d = senBL as xs d) := by
  intro n
  induction n with
  | zero =>
    refine ⟨fun x d h _ => by have := wt_pos x; omega, fun xs d h _ => ?_⟩
    cases xs with
    | nil => rfl
    | cons y r => rw [wtL] at h; have := wt_pos y; omega
  | succ n ih =>
    have h1 : ∀ (x : D) (d : Nat), wt x ≤ n + 1 → d ≤ 10 → senA as x d = senB as x d := by
      intro x d h hd
      cases x with
      | str s => rw [senA, senB, decide_eq_true hd, Bool.and_true]
      | tuple xs =>
        cases xs with
        | nil => rfl
        | cons y r =>
          rw [senA, senB, decide_eq_true (show d < 12 by omega)]
          rw [wt, wtL] at h
          have hy := wt_pos y
          rcases Nat.lt_or_ge d 10 with h10 | h10
          · rw [ih.2 r (d + 1) (by omega) (by omega)]
            have : (d != 10) = true := by simp; omega
            rw [this]
          · have : d = 10 := by omega
            subst this
            simp
            intro q
            cases r with
            | nil => exact absurd rfl (hp_ne q)
            | cons z t =>
              rw [senBL, senB_deep (wt z) z 11 (Nat.le_refl _) (by decide)]
              rfl
      | _ => rfl
    refine ⟨h1, fun xs d h hd => ?_⟩
    cases xs with
    | nil => rfl
    | cons y r =>
      rw [wtL] at h
      have hy := wt_pos y
      rw [senAL, senBL, h1 y d (by omega) hd, ih.2 r d (by omega) hd]
abbrev Row1 := D × Nat
def rw1 (p : Row1) : D := .tuple [p.1, .int p.2]
def wtR : List Row1 → Nat
  | [] => 0
  | p :: r => wt p.1 + wtR r
theorem wtR_app (xs ys : List Row1) : wtR (xs ++ ys) = wtR xs + wtR ys := by
  induction xs with
  | nil => simp [wtR]
  | cons x r ih => rw [List.cons_append, wtR, wtR, ih]; omega
theorem wtR_map {xs : List D} {d : Nat} : wtR (xs.map fun x => (x, d)) = wtL xs := by
  induction xs with
  | nil => rfl
  | cons x r ih => rw [List.map_cons, wtR, wtL, ih]
theorem wtR_len (xs : List Row1) : xs.length ≤ wtR xs := by
  induction xs with
  | nil => simp
  | cons x r ih => rw [List.length_cons, wtR]; have := wt_pos x.1; omega
theorem senAL_all {as : List Str} {d : Nat} {xs : List D} : senAL as xs d = (xs.map fun x => (x, d)).all fun p => senA as p.1 p.2 := by
  induction xs with
  | nil => rfl
  | cons x r ih => rw [senAL, ih, List.map_cons, List.all_cons]
theorem senBL_all {as : List Str} {d : Nat} {xs : List D} : senBL as xs d = (xs.map fun x => (x, d)).all fun p => senB as p.1 p.2 := by
  induction xs with
  | nil => rfl
  | cons x r ih => rw [senBL, ih, List.map_cons, List.all_cons]
theorem pop_row {init : List D} {p : D} : popF (init ++ [p]) = some (init, p) := by
  unfold popF
  rw [List.getLast?_append]
  simp
theorem rows_emp {xs : List Row1} : (xs.map rw1).isEmpty = xs.isEmpty := by cases xs <;> rfl
end K01
end

section
set_option maxRecDepth 100000
set_option maxHeartbeats 2000000
namespace K01
open Mi PySem L2
def OPS : List Str := ["not", "and", "or", "if"]
def hpD : D → Bool
  | .tuple xs => hp xs
  | _ => false
def HasS (G : Gm) : Prop := ∀ d, G.call f_has_parts [.val d] = some (.ok (.val (.bool (hpD d))) [.no])
theorem ops_of {d : D} (h : isIn OPS d = true) : d = .str "not" ∨ d = .str "and" ∨ d = .str "or" ∨ d = .str "if" := by
  cases d with
  | str s =>
    have h := of_decide_eq_true h
    unfold OPS at h
    simp only [List.mem_cons, List.not_mem_nil, or_false] at h
    rcases h with rfl | rfl | rfl | rfl <;> simp
  | _ => cases h
theorem hp_ops {h : D} {r : List D} (q : isIn OPS h = false) : hp (h :: r) = false := by
  cases h with
  | str s =>
    have q := of_decide_eq_false q
    unfold OPS at q
    simp only [List.mem_cons, List.not_mem_nil, or_false, not_or] at q
    unfold hp
    have e1 : (s == Str.ofString "not") = false := beq_eq_false_iff_ne.mpr q.1
    have e2 : (s == Str.ofString "and") = false := beq_eq_false_iff_ne.mpr q.2.1
    have e3 : (s == Str.ofString "or") = false := beq_eq_false_iff_ne.mpr q.2.2.1
    have e4 : (s == Str.ofString "if") = false := beq_eq_false_iff_ne.mpr q.2.2.2
    dsimp only
    rw [e1, e2, e3, e4]
    rfl
  | _ => rfl
def lkv : List (Str × Cn) := [("not", (.int (1))), ("and", (.int (2))), ("or", (.int (2))), ("if", (.int (2)))]
theorem hp_not {r : List D} : hp (.str "not" :: r) = ((r.length : Int) + 1 == 1 + 1) := by
  have : hp (.str "not" :: r) = (r.length == 1) := by
    show (("not" : Str) == ("not" : Str) && _ || _) = _
    rw [show (("not" : Str) == ("not" : Str)) = true from by decide, show (("not" : Str) == ("and" : Str)) = false from by decide, show (("not" : Str) == ("or" : Str)) = false from by decide, show (("not" : Str) == ("if" : Str)) = false from by decide]
    simp
  rw [this]
  by_cases h : r.length = 1
  · rw [h]; rfl
  · rw [beq_eq_false_iff_ne.mpr h, eq_comm, beq_eq_false_iff_ne]; omega
theorem hp_two {o : Str} {r : List D} (ho : o = "and" ∨ o = "or" ∨ o = "if") : hp (.str o :: r) = ((r.length : Int) + 1 == 2 + 1) := by
  have : hp (.str o :: r) = (r.length == 2) := by
    have e1 : (o == ("not" : Str)) = false := by rcases ho with rfl | rfl | rfl <;> decide
    have e2 : (o == ("and" : Str) || o == ("or" : Str) || o == ("if" : Str)) = true := by rcases ho with rfl | rfl | rfl <;> decide
    show ((o == ("not" : Str)) && _ || (o == ("and" : Str) || o == ("or" : Str) || o == ("if" : Str)) && _) = _
    rw [e1, e2]
    simp
  rw [this]
  by_cases h : r.length = 2
  · rw [h]; rfl
  · rw [beq_eq_false_iff_ne.mpr h, eq_comm, beq_eq_false_iff_ne]; omega
theorem ix0 {h : D} {r : List D} : L2.atI (h :: r) 0 = some h := by
  unfold L2.atI L2.ixN
  rw [if_pos (by decide), if_pos (by simp)]
  rfl
theorem has_run {G : Gm} (O : OneOfS G) (d : D) : endF 1 (evSs G c_has_parts (startE 1 [.val d])) = some (.ok (.val (.bool (hpD d))) [.no]) := by
  cases d with
  | tuple xs =>
    cases xs with
    | nil => simp -implicitDefEqProofs [startE, evSs, evS, flow, evB, pk, lk, evE, peek, unl, M.bnd, M.ret, of_some, of_none, M.fail, En.g, unlock, EV.dat, Cn.d, ixD, cmpD, truth, evPs, evAs, evEs, evO, biD, kp, EV.keep, chk, chg, setF, appF, putV_v, putV_l, ly_no, ly_val, ly_fn, ly_clo, retV, getV, endF, outs, binD, unD, argM, argV, argE, callM, apart, back, evT_nm, evT_tp, evTs_nil, evTs_cons, Fl.unl, lenD, items, someI, slD, isNone, tyD, evI, rangeD_1, eqD, mem_strs, lenOk_0, lenOk_of, eqOk_int, eqOk_str, eqOk_bool, eqv_int, eqv_str, eqv_bool, c_has_parts, hpD, hp]
    | cons h r =>
      have ho := O h OPS (.own (OPS.map PyData.str)) (.inr rfl)
      have hx : L2.atI (h :: r) 0 = some h := ix0
      cases q : isIn OPS h with
      | false =>
        rw [q] at ho
        simp only [OPS, List.map] at ho
        have := hp_ops (r := r) q
        simp -implicitDefEqProofs [startE, evSs, evS, flow, evB, pk, lk, evE, peek, unl, M.bnd, M.ret, of_some, of_none, M.fail, En.g, unlock, EV.dat, Cn.d, ixD, cmpD, truth, evPs, evAs, evEs, evO, biD, kp, EV.keep, chk, chg, setF, appF, putV_v, putV_l, ly_no, ly_val, ly_fn, ly_clo, retV, getV, endF, outs, binD, unD, argM, argV, argE, callM, apart, back, evT_nm, evT_tp, evTs_nil, evTs_cons, Fl.unl, lenD, items, someI, slD, isNone, tyD, evI, rangeD_1, eqD, mem_strs, lenOk_0, lenOk_of, eqOk_int, eqOk_str, eqOk_bool, eqv_int, eqv_str, eqv_bool, c_has_parts, hpD, ho, hx, this]
      | true =>
        rw [q] at ho
        simp only [OPS, List.map] at ho
        rcases ops_of q with rfl | rfl | rfl | rfl
        · have h1 : lookD [(Str.ofString "not", Cn.int 1), (Str.ofString "and", Cn.int 2), (Str.ofString "or", Cn.int 2), (Str.ofString "if", Cn.int 2)] (.str (Str.ofString "not")) = some (.val (.int 1)) := by kernel_rfl
          have h2 := hp_not (r := r)
          simp -implicitDefEqProofs [startE, evSs, evS, flow, evB, pk, lk, evE, peek, unl, M.bnd, M.ret, of_some, of_none, M.fail, En.g, unlock, EV.dat, Cn.d, ixD, cmpD, truth, evPs, evAs, evEs, evO, biD, kp, EV.keep, chk, chg, setF, appF, putV_v, putV_l, ly_no, ly_val, ly_fn, ly_clo, retV, getV, endF, outs, binD, unD, argM, argV, argE, callM, apart, back, evT_nm, evT_tp, evTs_nil, evTs_cons, Fl.unl, lenD, items, someI, slD, isNone, tyD, evI, rangeD_1, eqD, mem_strs, lenOk_0, lenOk_of, eqOk_int, eqOk_str, eqOk_bool, eqv_int, eqv_str, eqv_bool, c_has_parts, hpD, ho, hx, h1, h2]
        · have h1 : lookD [(Str.ofString "not", Cn.int 1), (Str.ofString "and", Cn.int 2), (Str.ofString "or", Cn.int 2), (Str.ofString "if", Cn.int 2)] (.str (Str.ofString "and")) = some (.val (.int 2)) := by kernel_rfl
          have h2 := hp_two (o := "and") (r := r) (by simp)
          simp -implicitDefEqProofs [startE, evSs, evS, flow, evB, pk, lk, evE, peek, unl, M.bnd, M.ret, of_some, of_none, M.fail, En.g, unlock, EV.dat, Cn.d, ixD, cmpD, truth, evPs, evAs, evEs, evO, biD, kp, EV.keep, chk, chg, setF, appF, putV_v, putV_l, ly_no, ly_val, ly_fn, ly_clo, retV, getV, endF, outs, binD, unD, argM, argV, argE, callM, apart, back, evT_nm, evT_tp, evTs_nil, evTs_cons, Fl.unl, lenD, items, someI, slD, isNone, tyD, evI, rangeD_1, eqD, mem_strs, lenOk_0, lenOk_of, eqOk_int, eqOk_str, eqOk_bool, eqv_int, eqv_str, eqv_bool, c_has_parts, hpD, ho, hx, h1, h2]
        · have h1 : lookD [(Str.ofString "not", Cn.int 1), (Str.ofString "and", Cn.int 2), (Str.ofString "or", Cn.int 2), (Str.ofString "if", Cn.int 2)] (.str (Str.ofString "or")) = some (.val (.int 2)) := by kernel_rfl
          have h2 := hp_two (o := "or") (r := r) (by simp)
          simp -implicitDefEqProofs [startE, evSs, evS, flow, evB, pk, lk, evE, peek, unl, M.bnd, M.ret, of_some, of_none, M.fail, En.g, unlock, EV.dat, Cn.d, ixD, cmpD, truth, evPs, evAs, evEs, evO, biD, kp, EV.keep, chk, chg, setF, appF, putV_v, putV_l, ly_no, ly_val, ly_fn, ly_clo, retV, getV, endF, outs, binD, unD, argM, argV, argE, callM, apart, back, evT_nm, evT_tp, evTs_nil, evTs_cons, Fl.unl, lenD, items, someI, slD, isNone, tyD, evI, rangeD_1, eqD, mem_strs, lenOk_0, lenOk_of, eqOk_int, eqOk_str, eqOk_bool, eqv_int, eqv_str, eqv_bool, c_has_parts, hpD, ho, hx, h1, h2]
        · have h1 : lookD [(Str.ofString "not", Cn.int 1), (Str.ofString "and", Cn.int 2), (Str.ofString "or", Cn.int 2), (Str.ofString "if", Cn.int 2)] (.str (Str.ofString "if")) = some (.val (.int 2)) := by kernel_rfl
          have h2 := hp_two (o := "if") (r := r) (by simp)
          simp -implicitDefEqProofs [startE, evSs, evS, flow, evB, pk, lk, evE, peek, unl, M.bnd, M.ret, of_some, of_none, M.fail, En.g, unlock, EV.dat, Cn.d, ixD, cmpD, truth, evPs, evAs, evEs, evO, biD, kp, EV.keep, chk, chg, setF, appF, putV_v, putV_l, ly_no, ly_val, ly_fn, ly_clo, retV, getV, endF, outs, binD, unD, argM, argV, argE, callM, apart, back, evT_nm, evT_tp, evTs_nil, evTs_cons, Fl.unl, lenD, items, someI, slD, isNone, tyD, evI, rangeD_1, eqD, mem_strs, lenOk_0, lenOk_of, eqOk_int, eqOk_str, eqOk_bool, eqv_int, eqv_str, eqv_bool, c_has_parts, hpD, ho, hx, h1, h2]
  | _ => simp -implicitDefEqProofs [startE, evSs, evS, flow, evB, pk, lk, evE, peek, unl, M.bnd, M.ret, of_some, of_none, M.fail, En.g, unlock, EV.dat, Cn.d, ixD, cmpD, truth, evPs, evAs, evEs, evO, biD, kp, EV.keep, chk, chg, setF, appF, putV_v, putV_l, ly_no, ly_val, ly_fn, ly_clo, retV, getV, endF, outs, binD, unD, argM, argV, argE, callM, apart, back, evT_nm, evT_tp, evTs_nil, evTs_cons, Fl.unl, lenD, items, someI, slD, isNone, tyD, evI, rangeD_1, eqD, mem_strs, lenOk_0, lenOk_of, eqOk_int, eqOk_str, eqOk_bool, eqv_int, eqv_str, eqv_bool, c_has_parts, hpD]
theorem has_ok {n : Nat} : HasS (gmOf dat.con (fdOf dat.glb 60 dat.defs) (n + 2)) := fun d => by
  rw [gcall d_has_parts rfl]
  exact has_run oneof_ok d
/-! ### the parts, one level deeper -/
def partsLc : CE := .lc (.tup (.cons false (.var 6) (.cons false (.bin .add (.var 4) (.cst (.int (1)))) .nil))) (.nm 6) (.ex (.sl (.var 3) (.yes (.cst (.int (1)))) .no)) .no [5, 6]
theorem parts_lc {G : Gm} {s0 s1 s2 : Sl} {xs : List D} {d : Nat} (hl : xs.length ≤ 16777216) :
    evE G partsLc [s0, s1, s2, .val (.tuple xs), .val (.int d), .no, .no] = some (.ok (.fr ((xs.tail.map fun x => (x, d + 1)).map rw1)) [s0, s1, s2, .val (.tuple xs), .val (.int d), .no, .no]) := by
  have hc := comp_map (own := [5, 6]) (tg := evT (.nm 6)) (tt := evF G .no) (te := kp (evE G (.tup (.cons false (.var 6) (.cons false (.bin .add (.var 4) (.cst (.int (1)))) .nil))))) (f := fun x => rw1 (x, d + 1)) (p := fun _ => true) (items := xs.tail) (e := [s0, s1, s2, .val (.tuple xs), .val (.int d), .no, .no]) rfl rfl (by rw [List.length_tail]; omega) fun x hx => by
    refine ⟨[s0, s1, s2, .val (.tuple xs), .val (.int d), .no, .val x], [s0, s1, s2, .val (.tuple xs), .val (.int d), .no, .val x], by simp -implicitDefEqProofs [startE, evSs, evS, flow, evB, pk, lk, evE, peek, unl, M.bnd, M.ret, of_some, of_none, M.fail, En.g, unlock, EV.dat, Cn.d, ixD, cmpD, truth, evPs, evAs, evEs, evO, biD, kp, EV.keep, chk, chg, setF, appF, putV_v, putV_l, ly_no, ly_val, ly_fn, ly_clo, retV, getV, endF, outs, binD, unD, argM, argV, argE, callM, apart, back, evT_nm, evT_tp, evTs_nil, evTs_cons, Fl.unl, lenD, items, someI, slD, isNone, tyD, evI, rangeD_1, eqD, mem_strs, lenOk_0, lenOk_of, eqOk_int, eqOk_str, eqOk_bool, eqv_int, eqv_str, eqv_bool, Mi.wipe], by simp -implicitDefEqProofs [startE, evSs, evS, flow, evB, pk, lk, evE, peek, unl, M.bnd, M.ret, of_some, of_none, M.fail, En.g, unlock, EV.dat, Cn.d, ixD, cmpD, truth, evPs, evAs, evEs, evO, biD, kp, EV.keep, chk, chg, setF, appF, putV_v, putV_l, ly_no, ly_val, ly_fn, ly_clo, retV, getV, endF, outs, binD, unD, argM, argV, argE, callM, apart, back, evT_nm, evT_tp, evTs_nil, evTs_cons, Fl.unl, lenD, items, someI, slD, isNone, tyD, evI, rangeD_1, eqD, mem_strs, lenOk_0, lenOk_of, eqOk_int, eqOk_str, eqOk_bool, eqv_int, eqv_str, eqv_bool, evF], fun _ => ⟨[s0, s1, s2, .val (.tuple xs), .val (.int d), .no, .val x], by simp -implicitDefEqProofs [startE, evSs, evS, flow, evB, pk, lk, evE, peek, unl, M.bnd, M.ret, of_some, of_none, M.fail, En.g, unlock, EV.dat, Cn.d, ixD, cmpD, truth, evPs, evAs, evEs, evO, biD, kp, EV.keep, chk, chg, setF, appF, putV_v, putV_l, ly_no, ly_val, ly_fn, ly_clo, retV, getV, endF, outs, binD, unD, argM, argV, argE, callM, apart, back, evT_nm, evT_tp, evTs_nil, evTs_cons, Fl.unl, lenD, items, someI, slD, isNone, tyD, evI, rangeD_1, eqD, mem_strs, lenOk_0, lenOk_of, eqOk_int, eqOk_str, eqOk_bool, eqv_int, eqv_str, eqv_bool, rw1], rfl⟩, fun z => by cases z⟩
  have hd : cutL xs (some 1) none = xs.tail := by
    rw [← List.drop_one]
    exact cutL_drop (k := 1)
  have hi : evI G (.ex (.sl (.var 3) (.yes (.cst (.int (1)))) .no)) [s0, s1, s2, .val (.tuple xs), .val (.int d), .no, .no] = some (.ok (xs.tail, []) [s0, s1, s2, .val (.tuple xs), .val (.int d), .no, .no]) := by simp -implicitDefEqProofs [startE, evSs, evS, flow, evB, pk, lk, evE, peek, unl, M.bnd, M.ret, of_some, of_none, M.fail, En.g, unlock, EV.dat, Cn.d, ixD, cmpD, truth, evPs, evAs, evEs, evO, biD, kp, EV.keep, chk, chg, setF, appF, putV_v, putV_l, ly_no, ly_val, ly_fn, ly_clo, retV, getV, endF, outs, binD, unD, argM, argV, argE, callM, apart, back, evT_nm, evT_tp, evTs_nil, evTs_cons, Fl.unl, lenD, items, someI, slD, isNone, tyD, evI, rangeD_1, eqD, mem_strs, lenOk_0, lenOk_of, eqOk_int, eqOk_str, eqOk_bool, eqv_int, eqv_str, eqv_bool, hd, walkD]
  have := lc_e hi hc
  unfold partsLc
  rw [this, List.filter_eq_self.mpr (by simp), List.map_map]
  rfl
end K01
end

section
set_option maxRecDepth 100000
set_option maxHeartbeats 2000000
namespace K01
open Mi PySem L2
theorem turns_gt {m : Nat} (h : m ≤ 100000) : m < turns := by unfold turns; omega
def byLoop : CS := hd (tl c_is_sentence_by)
def byBody : CSs := fb byLoop
theorem by_code : c_is_sentence_by = .cons (.asg (.nm 2) (.lst (.cons false (.tup (.cons false (.var 1) (.cons false (.cst (.int (0))) .nil))) .nil))) (.cons byLoop (.cons (.ret (.cst (.bl true))) .nil)) := rfl
theorem byLoop_eq : byLoop = .whil (.tv (.cmp .ne (.var 2) (.lst .nil))) byBody := rfl
theorem byBody_eq : byBody = .cons (.asg (.tp (.cons (.nm 3) (.cons (.nm 4) .nil))) (.pop 2))
    (.cons (.iff (.not (.tv (.call f_is_one_of (.cons false (.var 3) (.cons false (.var 0) .nil))))) (.cons (.iff (.or (.tv (.cmp .eq (.var 4) (.cst (.int (10))))) (.not (.tv (.call f_has_parts (.cons false (.var 3) .nil))))) (.cons (.ret (.cst (.bl false))) .nil) .nil)
    (.cons (.expr (.ext 2 partsLc)) .nil)) .nil) .nil) := rfl
theorem isIn_str {ss : List Str} {y : D} (h : isIn ss y = true) : ∃ s, y = .str s ∧ s ∈ ss := by
  cases y with
  | str s => exact ⟨s, rfl, of_decide_eq_true h⟩
  | _ => cases h
theorem senA_not {as : List Str} {y : D} {d : Nat} (h : isIn as y = false) (h2 : d = 10 ∨ hpD y = false) : senA as y d = false := by
  cases y with
  | str s => exact h
  | tuple xs =>
    cases xs with
    | nil => rfl
    | cons z r =>
      rw [senA]
      rcases h2 with rfl | h2
      · rfl
      · rw [show hp (z :: r) = false from h2]; simp
  | _ => rfl
theorem by_loop {G : Gm} (O : OneOfS G) (H : HasS G) {as : List Str} {x : D} (hx : wt x ≤ 100000) : ∃ fl v2 v3 v4, ((senA as x 0 = true ∧ fl = .nx [.val (tS as), .val x, v2, v3, v4, .no, .no]) ∨ (senA as x 0 = false ∧ fl = .rt (.val (.bool false)) [.val (tS as), .val x, v2, v3, v4, .no, .no])) ∧
    evS G byLoop [.val (tS as), .val x, .own [rw1 (x, 0)], .no, .no, .no, .no] = some fl := by
  rw [byLoop_eq, evS]
  generalize ht : senA as x 0 = t
  obtain ⟨fl, h1, h2⟩ := while_inv (c := evB G (.tv (.cmp .ne (.var 2) (.lst .nil)))) (b := evSs G byBody) (I := fun m e => ∃ (rows : List Row1) (v3 v4 : Sl), wtR rows = m ∧ m ≤ 100000 ∧ v3.ly = false ∧ v4.ly = false ∧ (rows.all fun p => senA as p.1 p.2) = t ∧ e = [.val (tS as), .val x, .own (rows.map rw1), v3, v4, .no, .no])
    (Z := fun fl => ∃ v2 v3 v4, ((t = true ∧ fl = .nx [.val (tS as), .val x, v2, v3, v4, .no, .no]) ∨ (t = false ∧ fl = .rt (.val (.bool false)) [.val (tS as), .val x, v2, v3, v4, .no, .no]))) (wt x) turns [.val (tS as), .val x, .own [rw1 (x, 0)], .no, .no, .no, .no] (turns_gt hx) ⟨[(x, 0)], .no, .no, rfl, hx, rfl, rfl, by simp [ht], rfl⟩ fun m e hI => by
    obtain ⟨rows, v3, v4, hm, hm2, h3, h4, hal, rfl⟩ := hI
    rcases List.eq_nil_or_concat rows with rfl | ⟨init, ⟨y, d⟩, rfl⟩
    · refine ⟨false, [.val (tS as), .val x, .own [], v3, v4, .no, .no], by simp -implicitDefEqProofs [startE, evSs, evS, flow, evB, pk, lk, evE, peek, unl, M.bnd, M.ret, of_some, of_none, M.fail, En.g, unlock, EV.dat, Cn.d, ixD, cmpD, truth, evPs, evAs, evEs, evO, biD, kp, EV.keep, chk, chg, setF, appF, putV_v, putV_l, ly_no, ly_val, ly_fn, ly_clo, retV, getV, endF, outs, binD, unD, argM, argV, argE, callM, apart, back, evT_nm, evT_tp, evTs_nil, evTs_cons, Fl.unl, lenD, items, someI, slD, isNone, tyD, evI, rangeD_1, eqD, mem_strs, lenOk_0, lenOk_of, eqOk_int, eqOk_str, eqOk_bool, eqv_int, eqv_str, eqv_bool], fun _ => ⟨_, _, _, .inl ⟨hal.symm, rfl⟩⟩, fun z => by cases z⟩
    · rw [List.concat_eq_append] at hm hal ⊢
      rw [wtR_app] at hm
      simp only [wtR] at hm
      have hy := wt_pos y
      rw [List.all_append] at hal
      simp only [List.all_cons, List.all_nil, Bool.and_true] at hal
      have hp0 := pop_row (init := init.map rw1) (p := rw1 (y, d))
      rw [List.map_append, List.map_singleton]
      have hne : (init.map rw1 ++ [rw1 (y, d)]).isEmpty = false := by cases init <;> rfl
      refine ⟨true, [.val (tS as), .val x, .own (init.map rw1 ++ [rw1 (y, d)]), v3, v4, .no, .no], by simp -implicitDefEqProofs [startE, evSs, evS, flow, evB, pk, lk, evE, peek, unl, M.bnd, M.ret, of_some, of_none, M.fail, En.g, unlock, EV.dat, Cn.d, ixD, cmpD, truth, evPs, evAs, evEs, evO, biD, kp, EV.keep, chk, chg, setF, appF, putV_v, putV_l, ly_no, ly_val, ly_fn, ly_clo, retV, getV, endF, outs, binD, unD, argM, argV, argE, callM, apart, back, evT_nm, evT_tp, evTs_nil, evTs_cons, Fl.unl, lenD, items, someI, slD, isNone, tyD, evI, rangeD_1, eqD, mem_strs, lenOk_0, lenOk_of, eqOk_int, eqOk_str, eqOk_bool, eqv_int, eqv_str, eqv_bool, hne], (fun z => by cases z), fun _ => ?_⟩
      have e1 : rw1 (y, d) = PyData.tuple [y, .int d] := rfl
      rw [e1] at hp0 ⊢
      have ho := O y as (.val (tS as)) (.inl rfl)
      have hh := H y
      rw [byBody_eq]
      cases q : isIn as y with
      | true =>
        rw [q] at ho
        obtain ⟨s, rfl, hs⟩ := isIn_str q
        refine ⟨.nx [.val (tS as), .val x, .own (init.map rw1), .val (.str s), .val (.int d), .no, .no], by simp -implicitDefEqProofs [startE, evSs, evS, flow, evB, pk, lk, evE, peek, unl, M.bnd, M.ret, of_some, of_none, M.fail, En.g, unlock, EV.dat, Cn.d, ixD, cmpD, truth, evPs, evAs, evEs, evO, biD, kp, EV.keep, chk, chg, setF, appF, putV_v, putV_l, ly_no, ly_val, ly_fn, ly_clo, retV, getV, endF, outs, binD, unD, argM, argV, argE, callM, apart, back, evT_nm, evT_tp, evTs_nil, evTs_cons, Fl.unl, lenD, items, someI, slD, isNone, tyD, evI, rangeD_1, eqD, mem_strs, lenOk_0, lenOk_of, eqOk_int, eqOk_str, eqOk_bool, eqv_int, eqv_str, eqv_bool, hp0, h3, h4, ho], .inl ⟨_, _, .inl rfl, ?_, init, _, _, rfl, by omega, rfl, rfl, ?_, rfl⟩⟩
        · omega
        · rw [← hal]
          simp [senA, hs]
      | false =>
        rw [q] at ho
        by_cases hd : d = 10
        · have hd2 : ((d : Int) == 10) = true := beq_iff_eq.mpr (by omega)
          refine ⟨.rt (.val (.bool false)) [.val (tS as), .val x, .own (init.map rw1), .val y, .val (.int d), .no, .no], by simp -implicitDefEqProofs [startE, evSs, evS, flow, evB, pk, lk, evE, peek, unl, M.bnd, M.ret, of_some, of_none, M.fail, En.g, unlock, EV.dat, Cn.d, ixD, cmpD, truth, evPs, evAs, evEs, evO, biD, kp, EV.keep, chk, chg, setF, appF, putV_v, putV_l, ly_no, ly_val, ly_fn, ly_clo, retV, getV, endF, outs, binD, unD, argM, argV, argE, callM, apart, back, evT_nm, evT_tp, evTs_nil, evTs_cons, Fl.unl, lenD, items, someI, slD, isNone, tyD, evI, rangeD_1, eqD, mem_strs, lenOk_0, lenOk_of, eqOk_int, eqOk_str, eqOk_bool, eqv_int, eqv_str, eqv_bool, hp0, h3, h4, ho, hd2], .inr ⟨_, _, rfl, _, _, _, .inr ⟨?_, rfl⟩⟩⟩
          rw [← hal, senA_not q (.inl hd), Bool.and_false]
        · have hd2 : ((d : Int) == 10) = false := beq_eq_false_iff_ne.mpr (by omega)
          cases q2 : hpD y with
          | false =>
            rw [q2] at hh
            refine ⟨.rt (.val (.bool false)) [.val (tS as), .val x, .own (init.map rw1), .val y, .val (.int d), .no, .no], by simp -implicitDefEqProofs [startE, evSs, evS, flow, evB, pk, lk, evE, peek, unl, M.bnd, M.ret, of_some, of_none, M.fail, En.g, unlock, EV.dat, Cn.d, ixD, cmpD, truth, evPs, evAs, evEs, evO, biD, kp, EV.keep, chk, chg, setF, appF, putV_v, putV_l, ly_no, ly_val, ly_fn, ly_clo, retV, getV, endF, outs, binD, unD, argM, argV, argE, callM, apart, back, evT_nm, evT_tp, evTs_nil, evTs_cons, Fl.unl, lenD, items, someI, slD, isNone, tyD, evI, rangeD_1, eqD, mem_strs, lenOk_0, lenOk_of, eqOk_int, eqOk_str, eqOk_bool, eqv_int, eqv_str, eqv_bool, hp0, h3, h4, ho, hh, hd2], .inr ⟨_, _, rfl, _, _, _, .inr ⟨?_, rfl⟩⟩⟩
            rw [← hal, senA_not q (.inr q2), Bool.and_false]
          | true =>
            rw [q2] at hh
            cases y with
            | tuple xs =>
              cases xs with
              | nil => cases q2
              | cons h r =>
                simp only [wt, wtL] at hm hy
                have hl := wtL_len r
                have hpl := parts_lc (G := G) (s0 := .val (tS as)) (s1 := .val x) (s2 := .own (init.map rw1)) (xs := h :: r) (d := d) (by rw [List.length_cons]; omega)
                have hr := wtR_len init
                have hz : lenOk ((init.map rw1).length + (((h :: r).tail.map fun x => (x, d + 1)).map rw1).length) = true := lenOk_of (by simp only [List.length_map, List.tail_cons]; omega)
                simp only [List.length_map, List.tail_cons] at hz hpl
                refine ⟨.nx [.val (tS as), .val x, .own ((init ++ r.map fun x => (x, d + 1)).map rw1), .val (.tuple (h :: r)), .val (.int d), .no, .no], by simp -implicitDefEqProofs [startE, evSs, evS, flow, evB, pk, lk, evE, peek, unl, M.bnd, M.ret, of_some, of_none, M.fail, En.g, unlock, EV.dat, Cn.d, ixD, cmpD, truth, evPs, evAs, evEs, evO, biD, kp, EV.keep, chk, chg, setF, appF, putV_v, putV_l, ly_no, ly_val, ly_fn, ly_clo, retV, getV, endF, outs, binD, unD, argM, argV, argE, callM, apart, back, evT_nm, evT_tp, evTs_nil, evTs_cons, Fl.unl, lenD, items, someI, slD, isNone, tyD, evI, rangeD_1, eqD, mem_strs, lenOk_0, lenOk_of, eqOk_int, eqOk_str, eqOk_bool, eqv_int, eqv_str, eqv_bool, hp0, h3, h4, ho, hh, hd2, hpl, extF, hz], .inl ⟨_, _, .inl rfl, ?_, init ++ r.map (fun x => (x, d + 1)), _, _, rfl, ?_, rfl, rfl, ?_, rfl⟩⟩
                · rw [wtR_app, wtR_map]; omega
                · rw [wtR_app, wtR_map]; omega
                · rw [← hal, List.all_append, ← senAL_all, senA, show hp (h :: r) = true from q2]
                  have : (d != 10) = true := by simp [hd]
                  rw [this]
                  simp
            | _ => cases q2
  obtain ⟨v2, v3, v4, h3⟩ := h2
  exact ⟨fl, v2, v3, v4, h3, h1⟩
def SenS (G : Gm) : Prop := ∀ as x, wt x ≤ 100000 → G.call f_is_sentence_by [.val (tS as), .val x] = some (.ok (.val (.bool (senA as x 0))) [.no, .no])
theorem sen_ok {n : Nat} : SenS (gmOf dat.con (fdOf dat.glb 60 dat.defs) (n + 3)) := fun as x hx => by
  obtain ⟨fl, v2, v3, v4, h1, h2⟩ := by_loop (oneof_ok (n := n + 1)) (has_ok (n := n)) (as := as) hx
  have h2 : evS (gmOf dat.con (fdOf dat.glb 60 dat.defs) (n + 2)) byLoop [.val (tS as), .val x, .own [.tuple [x, .int 0]], .no, .no, .no, .no] = some fl := h2
  rw [gcall d_is_sentence_by rfl, by_code]
  rcases h1 with ⟨q, rfl⟩ | ⟨q, rfl⟩
  · rw [q]
    simp -implicitDefEqProofs [startE, evSs, evS, flow, evB, pk, lk, evE, peek, unl, M.bnd, M.ret, of_some, of_none, M.fail, En.g, unlock, EV.dat, Cn.d, ixD, cmpD, truth, evPs, evAs, evEs, evO, biD, kp, EV.keep, chk, chg, setF, appF, putV_v, putV_l, ly_no, ly_val, ly_fn, ly_clo, retV, getV, endF, outs, binD, unD, argM, argV, argE, callM, apart, back, evT_nm, evT_tp, evTs_nil, evTs_cons, Fl.unl, lenD, items, someI, slD, isNone, tyD, evI, rangeD_1, eqD, mem_strs, lenOk_0, lenOk_of, eqOk_int, eqOk_str, eqOk_bool, eqv_int, eqv_str, eqv_bool, h2]
  · rw [q]
    simp -implicitDefEqProofs [startE, evSs, evS, flow, evB, pk, lk, evE, peek, unl, M.bnd, M.ret, of_some, of_none, M.fail, En.g, unlock, EV.dat, Cn.d, ixD, cmpD, truth, evPs, evAs, evEs, evO, biD, kp, EV.keep, chk, chg, setF, appF, putV_v, putV_l, ly_no, ly_val, ly_fn, ly_clo, retV, getV, endF, outs, binD, unD, argM, argV, argE, callM, apart, back, evT_nm, evT_tp, evTs_nil, evTs_cons, Fl.unl, lenD, items, someI, slD, isNone, tyD, evI, rangeD_1, eqD, mem_strs, lenOk_0, lenOk_of, eqOk_int, eqOk_str, eqOk_bool, eqv_int, eqv_str, eqv_bool, h2]
end K01
end

section
set_option maxRecDepth 100000
set_option maxHeartbeats 2000000
namespace K01
open Mi PySem L2
def lawExt : CS := .asg (.nm 2) (.bin .add (.var 2) partsLc)
def depExt : CS := .asg (.nm 1) (.bin .add (.var 1) partsLc)
theorem lk_parts {m : M EV} : lk partsLc m = m.bnd fun v => M.ret (v, []) := rfl
theorem lawExt_run {G : Gm} {s0 s1 : Sl} {R xs : List D} {d : Nat} (hl : xs.length ≤ 16777216) (hz : R.length + xs.length ≤ 16777216) :
    evS G lawExt [s0, s1, .own R, .val (.tuple xs), .val (.int d), .no, .no] = some (.nx [s0, s1, .own (R ++ (xs.tail.map fun x => (x, d + 1)).map rw1), .val (.tuple xs), .val (.int d), .no, .no]) := by
  have h := parts_lc (G := G) (s0 := s0) (s1 := s1) (s2 := .lock R) (xs := xs) (d := d) hl
  have h2 : lenOk (R.length + ((xs.tail.map fun x => (x, d + 1)).map rw1).length) = true := lenOk_of (by simp only [List.length_map, List.length_tail]; omega)
  unfold lawExt
  simp -implicitDefEqProofs only [evS, evE, pk, lk_parts]
  simp -implicitDefEqProofs only [lk, peek, En.g, flow, M.bnd, List.getD_cons_succ, List.getD_cons_zero, List.set_cons_succ, List.set_cons_zero, h, M.ret, unl, EV.dat, binD, h2, if_true, of_some, unlock, List.foldl]
  rw [putV_ol rfl]
  rfl
theorem depExt_run {G : Gm} {s0 s1 : Sl} {R xs : List D} {d : Nat} (hl : xs.length ≤ 16777216) (hz : R.length + xs.length ≤ 16777216) :
    evS G depExt [s0, .own R, s1, .val (.tuple xs), .val (.int d), .no, .no] = some (.nx [s0, .own (R ++ (xs.tail.map fun x => (x, d + 1)).map rw1), s1, .val (.tuple xs), .val (.int d), .no, .no]) := by
  have h := parts_lc (G := G) (s0 := s0) (s1 := .lock R) (s2 := s1) (xs := xs) (d := d) hl
  have h2 : lenOk (R.length + ((xs.tail.map fun x => (x, d + 1)).map rw1).length) = true := lenOk_of (by simp only [List.length_map, List.length_tail]; omega)
  unfold depExt
  simp -implicitDefEqProofs only [evS, evE, pk, lk_parts]
  simp -implicitDefEqProofs only [lk, peek, En.g, flow, M.bnd, List.getD_cons_succ, List.getD_cons_zero, List.set_cons_succ, List.set_cons_zero, h, M.ret, unl, EV.dat, binD, h2, if_true, of_some, unlock, List.foldl]
  rw [putV_ol rfl]
  rfl
def lawLoop : CS := hd (tl c__law_is_sentence)
def lawBody : CSs := fb lawLoop
theorem law_code : c__law_is_sentence = .cons (.asg (.nm 2) (.lst (.cons false (.tup (.cons false (.var 1) (.cons false (.cst (.int (0))) .nil))) .nil))) (.cons lawLoop (.cons (.ret (.cst (.bl true))) .nil)) := rfl
theorem lawLoop_eq : lawLoop = .whil (.tv (.cmp .ne (.var 2) (.lst .nil))) lawBody := rfl
def retF : CSs := .cons (.ret (.cst (.bl false))) .nil
theorem lawBody_eq : lawBody = .cons (.asg (.tp (.cons (.nm 3) (.cons (.nm 4) .nil))) (.pop 2))
    (.cons (.iff (.tv (.isi (.var 3) .str)) (.cons (.iff (.or (.tv (.cmp .nmem (.var 3) (.var 0))) (.tv (.cmp .gt (.var 4) (.cst (.int (10)))))) retF .nil) .nil)
      (.cons (.iff (.and (.tv (.isi (.var 3) .tuple)) (.and (.tv (.cmp .ne (.var 3) (.tup .nil))) (.and (.tv (.isi (.ix (.var 3) (.cst (.int (0)))) .str)) (.and (.tv (.cmp .mem (.ix (.var 3) (.cst (.int (0)))) (.tup (.cons false (.cst (.str "not")) (.cons false (.cst (.str "and")) (.cons false (.cst (.str "or")) (.cons false (.cst (.str "if")) .nil))))))) (.tv (.cmp .lt (.var 4) (.cst (.int (12)))))))))
        (.cons (.iff (.tv (.cmp .ne (.bi .len (.cons false (.var 3) .nil)) (.ife (.tv (.cmp .eq (.ix (.var 3) (.cst (.int (0)))) (.cst (.str "not")))) (.cst (.int (2))) (.cst (.int (3)))))) retF .nil) (.cons lawExt .nil))
        retF) .nil)) .nil) := rfl
theorem rd_pop {init : List Row1} {y : D} {d : Nat} : popF (init.map rw1 ++ [.tuple [y, .int d]]) = some (init.map rw1, .tuple [y, .int d]) := pop_row
/-- one turn of the law's own look -/
theorem law_turn {G : Gm} {as : List Str} {x y : D} {d : Nat} {init : List Row1} {v3 v4 : Sl} (h3 : v3.ly = false) (h4 : v4.ly = false) (hw : wtR init + wt y ≤ 100000) :
    ∃ b, evSs G lawBody [.val (tS as), .val x, .own (init.map rw1 ++ [.tuple [y, .int d]]), v3, v4, .no, .no] = some b ∧
      ((senB as y d = false ∧ b = .rt (.val (.bool false)) [.val (tS as), .val x, .own (init.map rw1), .val y, .val (.int d), .no, .no]) ∨
       (∃ s, y = .str s ∧ senB as y d = true ∧ b = .nx [.val (tS as), .val x, .own (init.map rw1), .val y, .val (.int d), .no, .no]) ∨
       (∃ h r, y = .tuple (h :: r) ∧ senB as y d = senBL as r (d + 1) ∧ b = .nx [.val (tS as), .val x, .own ((init ++ r.map fun x => (x, d + 1)).map rw1), .val y, .val (.int d), .no, .no])) := by
  have hp0 := rd_pop (init := init) (y := y) (d := d)
  rw [lawBody_eq]
  unfold tS
  cases y with
  | str s =>
    by_cases hs : s ∈ as
    · by_cases hd : d ≤ 10
      · have hd2 : ¬ (10 : Int) < d := by omega
        refine ⟨_, by simp -implicitDefEqProofs [startE, evSs, evS, flow, evB, pk, lk, evE, peek, unl, M.bnd, M.ret, of_some, of_none, M.fail, En.g, unlock, EV.dat, Cn.d, ixD, cmpD, truth, evPs, evAs, evEs, evO, biD, kp, EV.keep, chk, chg, setF, appF, putV_v, putV_l, ly_no, ly_val, ly_fn, ly_clo, retV, getV, endF, outs, binD, unD, argM, argV, argE, callM, apart, back, evT_nm, evT_tp, evTs_nil, evTs_cons, Fl.unl, lenD, items, someI, slD, isNone, tyD, evI, rangeD_1, eqD, mem_strs, lenOk_0, lenOk_of, eqOk_int, eqOk_str, eqOk_bool, eqv_int, eqv_str, eqv_bool, hp0, h3, h4, hs, hd2], .inr (.inl ⟨s, rfl, by simp [senB, hs, hd], rfl⟩)⟩
      · have hd2 : (10 : Int) < d := by omega
        refine ⟨_, by simp -implicitDefEqProofs [startE, evSs, evS, flow, evB, pk, lk, evE, peek, unl, M.bnd, M.ret, of_some, of_none, M.fail, En.g, unlock, EV.dat, Cn.d, ixD, cmpD, truth, evPs, evAs, evEs, evO, biD, kp, EV.keep, chk, chg, setF, appF, putV_v, putV_l, ly_no, ly_val, ly_fn, ly_clo, retV, getV, endF, outs, binD, unD, argM, argV, argE, callM, apart, back, evT_nm, evT_tp, evTs_nil, evTs_cons, Fl.unl, lenD, items, someI, slD, isNone, tyD, evI, rangeD_1, eqD, mem_strs, lenOk_0, lenOk_of, eqOk_int, eqOk_str, eqOk_bool, eqv_int, eqv_str, eqv_bool, hp0, h3, h4, hs, hd2, retF], .inl ⟨by simp [senB, hs]; omega, rfl⟩⟩
    · refine ⟨_, by simp -implicitDefEqProofs [startE, evSs, evS, flow, evB, pk, lk, evE, peek, unl, M.bnd, M.ret, of_some, of_none, M.fail, En.g, unlock, EV.dat, Cn.d, ixD, cmpD, truth, evPs, evAs, evEs, evO, biD, kp, EV.keep, chk, chg, setF, appF, putV_v, putV_l, ly_no, ly_val, ly_fn, ly_clo, retV, getV, endF, outs, binD, unD, argM, argV, argE, callM, apart, back, evT_nm, evT_tp, evTs_nil, evTs_cons, Fl.unl, lenD, items, someI, slD, isNone, tyD, evI, rangeD_1, eqD, mem_strs, lenOk_0, lenOk_of, eqOk_int, eqOk_str, eqOk_bool, eqv_int, eqv_str, eqv_bool, hp0, h3, h4, hs, retF], .inl ⟨by simp [senB, hs], rfl⟩⟩
  | tuple xs =>
    cases xs with
    | nil => refine ⟨_, by simp -implicitDefEqProofs [startE, evSs, evS, flow, evB, pk, lk, evE, peek, unl, M.bnd, M.ret, of_some, of_none, M.fail, En.g, unlock, EV.dat, Cn.d, ixD, cmpD, truth, evPs, evAs, evEs, evO, biD, kp, EV.keep, chk, chg, setF, appF, putV_v, putV_l, ly_no, ly_val, ly_fn, ly_clo, retV, getV, endF, outs, binD, unD, argM, argV, argE, callM, apart, back, evT_nm, evT_tp, evTs_nil, evTs_cons, Fl.unl, lenD, items, someI, slD, isNone, tyD, evI, rangeD_1, eqD, mem_strs, lenOk_0, lenOk_of, eqOk_int, eqOk_str, eqOk_bool, eqv_int, eqv_str, eqv_bool, hp0, h3, h4, retF], .inl ⟨rfl, rfl⟩⟩
    | cons h r =>
      have hx : L2.atI (h :: r) 0 = some h := ix0
      cases q : isIn OPS h with
      | false =>
        have hn := hp_ops (r := r) q
        have hB : senB as (.tuple (h :: r)) d = false := by rw [senB, hn]; simp
        cases h with
        | str o =>
          have hm : memD (.str o) [.str "not", .str "and", .str "or", .str "if"] = some (decide (o ∈ OPS)) := mem_strs (ss := OPS)
          have ho : decide (o ∈ OPS) = false := q
          rw [ho] at hm
          exact ⟨_, by simp -implicitDefEqProofs [startE, evSs, evS, flow, evB, pk, lk, evE, peek, unl, M.bnd, M.ret, of_some, of_none, M.fail, En.g, unlock, EV.dat, Cn.d, ixD, cmpD, truth, evPs, evAs, evEs, evO, biD, kp, EV.keep, chk, chg, setF, appF, putV_v, putV_l, ly_no, ly_val, ly_fn, ly_clo, retV, getV, endF, outs, binD, unD, argM, argV, argE, callM, apart, back, evT_nm, evT_tp, evTs_nil, evTs_cons, Fl.unl, lenD, items, someI, slD, isNone, tyD, evI, rangeD_1, eqD, mem_strs, lenOk_0, lenOk_of, eqOk_int, eqOk_str, eqOk_bool, eqv_int, eqv_str, eqv_bool, hp0, h3, h4, retF, hx, hm], .inl ⟨hB, rfl⟩⟩
        | _ => exact ⟨_, by simp -implicitDefEqProofs [startE, evSs, evS, flow, evB, pk, lk, evE, peek, unl, M.bnd, M.ret, of_some, of_none, M.fail, En.g, unlock, EV.dat, Cn.d, ixD, cmpD, truth, evPs, evAs, evEs, evO, biD, kp, EV.keep, chk, chg, setF, appF, putV_v, putV_l, ly_no, ly_val, ly_fn, ly_clo, retV, getV, endF, outs, binD, unD, argM, argV, argE, callM, apart, back, evT_nm, evT_tp, evTs_nil, evTs_cons, Fl.unl, lenD, items, someI, slD, isNone, tyD, evI, rangeD_1, eqD, mem_strs, lenOk_0, lenOk_of, eqOk_int, eqOk_str, eqOk_bool, eqv_int, eqv_str, eqv_bool, hp0, h3, h4, retF, hx], .inl ⟨hB, rfl⟩⟩
      | true =>
        obtain ⟨o, rfl, ho⟩ := isIn_str q
        have hm : memD (.str o) [.str "not", .str "and", .str "or", .str "if"] = some (decide (o ∈ OPS)) := mem_strs (ss := OPS)
        rw [decide_eq_true ho] at hm
        by_cases hd : d < 12
        · have hd2 : (d : Int) < 12 := by omega
          have hk : ∃ (k : Int), (k = 2 ∧ (o == Str.ofString "not") = true ∨ k = 3 ∧ (o == Str.ofString "not") = false) ∧ ((r.length : Int) + 1 == k) = hp (.str o :: r) := by
            rcases ops_of q with e | e | e | e <;> cases e
            · exact ⟨2, .inl ⟨rfl, by decide⟩, hp_not.symm⟩
            · exact ⟨3, .inr ⟨rfl, by decide⟩, (hp_two (by simp)).symm⟩
            · exact ⟨3, .inr ⟨rfl, by decide⟩, (hp_two (by simp)).symm⟩
            · exact ⟨3, .inr ⟨rfl, by decide⟩, (hp_two (by simp)).symm⟩
          obtain ⟨k, hk1, hk2⟩ := hk
          cases hb : hp (.str o :: r) with
          | false =>
            rw [hb] at hk2
            have hB : senB as (.tuple (.str o :: r)) d = false := by rw [senB, hb]; simp
            rcases hk1 with ⟨rfl, hk1⟩ | ⟨rfl, hk1⟩
            · exact ⟨_, by simp -implicitDefEqProofs [startE, evSs, evS, flow, evB, pk, lk, evE, peek, unl, M.bnd, M.ret, of_some, of_none, M.fail, En.g, unlock, EV.dat, Cn.d, ixD, cmpD, truth, evPs, evAs, evEs, evO, biD, kp, EV.keep, chk, chg, setF, appF, putV_v, putV_l, ly_no, ly_val, ly_fn, ly_clo, retV, getV, endF, outs, binD, unD, argM, argV, argE, callM, apart, back, evT_nm, evT_tp, evTs_nil, evTs_cons, Fl.unl, lenD, items, someI, slD, isNone, tyD, evI, rangeD_1, eqD, mem_strs, lenOk_0, lenOk_of, eqOk_int, eqOk_str, eqOk_bool, eqv_int, eqv_str, eqv_bool, hp0, h3, h4, retF, hx, hm, hd2, hk1, hk2], .inl ⟨hB, rfl⟩⟩
            · exact ⟨_, by simp -implicitDefEqProofs [startE, evSs, evS, flow, evB, pk, lk, evE, peek, unl, M.bnd, M.ret, of_some, of_none, M.fail, En.g, unlock, EV.dat, Cn.d, ixD, cmpD, truth, evPs, evAs, evEs, evO, biD, kp, EV.keep, chk, chg, setF, appF, putV_v, putV_l, ly_no, ly_val, ly_fn, ly_clo, retV, getV, endF, outs, binD, unD, argM, argV, argE, callM, apart, back, evT_nm, evT_tp, evTs_nil, evTs_cons, Fl.unl, lenD, items, someI, slD, isNone, tyD, evI, rangeD_1, eqD, mem_strs, lenOk_0, lenOk_of, eqOk_int, eqOk_str, eqOk_bool, eqv_int, eqv_str, eqv_bool, hp0, h3, h4, retF, hx, hm, hd2, hk1, hk2], .inl ⟨hB, rfl⟩⟩
          | true =>
            rw [hb] at hk2
            have hB : senB as (.tuple (.str o :: r)) d = senBL as r (d + 1) := by rw [senB, hb, decide_eq_true hd]; simp
            have hl := wtL_len r
            have hr := wtR_len init
            simp only [wt, wtL] at hw
            have he := lawExt_run (G := G) (s0 := .val (.tuple (as.map PyData.str))) (s1 := .val x) (R := init.map rw1) (xs := .str o :: r) (d := d) (by rw [List.length_cons]; omega) (by rw [List.length_cons, List.length_map]; omega)
            rw [List.tail_cons] at he
            rcases hk1 with ⟨rfl, hk1⟩ | ⟨rfl, hk1⟩
            · exact ⟨_, by simp -implicitDefEqProofs [startE, evSs, evS, flow, evB, pk, lk, evE, peek, unl, M.bnd, M.ret, of_some, of_none, M.fail, En.g, unlock, EV.dat, Cn.d, ixD, cmpD, truth, evPs, evAs, evEs, evO, biD, kp, EV.keep, chk, chg, setF, appF, putV_v, putV_l, ly_no, ly_val, ly_fn, ly_clo, retV, getV, endF, outs, binD, unD, argM, argV, argE, callM, apart, back, evT_nm, evT_tp, evTs_nil, evTs_cons, Fl.unl, lenD, items, someI, slD, isNone, tyD, evI, rangeD_1, eqD, mem_strs, lenOk_0, lenOk_of, eqOk_int, eqOk_str, eqOk_bool, eqv_int, eqv_str, eqv_bool, hp0, h3, h4, retF, hx, hm, hd2, hk1, hk2, he]; rfl, .inr (.inr ⟨_, r, rfl, hB, by simp⟩)⟩
            · exact ⟨_, by simp -implicitDefEqProofs [startE, evSs, evS, flow, evB, pk, lk, evE, peek, unl, M.bnd, M.ret, of_some, of_none, M.fail, En.g, unlock, EV.dat, Cn.d, ixD, cmpD, truth, evPs, evAs, evEs, evO, biD, kp, EV.keep, chk, chg, setF, appF, putV_v, putV_l, ly_no, ly_val, ly_fn, ly_clo, retV, getV, endF, outs, binD, unD, argM, argV, argE, callM, apart, back, evT_nm, evT_tp, evTs_nil, evTs_cons, Fl.unl, lenD, items, someI, slD, isNone, tyD, evI, rangeD_1, eqD, mem_strs, lenOk_0, lenOk_of, eqOk_int, eqOk_str, eqOk_bool, eqv_int, eqv_str, eqv_bool, hp0, h3, h4, retF, hx, hm, hd2, hk1, hk2, he]; rfl, .inr (.inr ⟨_, r, rfl, hB, by simp⟩)⟩
        · have hd2 : ¬ (d : Int) < 12 := by omega
          have hB : senB as (.tuple (.str o :: r)) d = false := by rw [senB, decide_eq_false hd]; simp
          exact ⟨_, by simp -implicitDefEqProofs [startE, evSs, evS, flow, evB, pk, lk, evE, peek, unl, M.bnd, M.ret, of_some, of_none, M.fail, En.g, unlock, EV.dat, Cn.d, ixD, cmpD, truth, evPs, evAs, evEs, evO, biD, kp, EV.keep, chk, chg, setF, appF, putV_v, putV_l, ly_no, ly_val, ly_fn, ly_clo, retV, getV, endF, outs, binD, unD, argM, argV, argE, callM, apart, back, evT_nm, evT_tp, evTs_nil, evTs_cons, Fl.unl, lenD, items, someI, slD, isNone, tyD, evI, rangeD_1, eqD, mem_strs, lenOk_0, lenOk_of, eqOk_int, eqOk_str, eqOk_bool, eqv_int, eqv_str, eqv_bool, hp0, h3, h4, retF, hx, hm, hd2], .inl ⟨hB, rfl⟩⟩
  | _ => refine ⟨_, by simp -implicitDefEqProofs [startE, evSs, evS, flow, evB, pk, lk, evE, peek, unl, M.bnd, M.ret, of_some, of_none, M.fail, En.g, unlock, EV.dat, Cn.d, ixD, cmpD, truth, evPs, evAs, evEs, evO, biD, kp, EV.keep, chk, chg, setF, appF, putV_v, putV_l, ly_no, ly_val, ly_fn, ly_clo, retV, getV, endF, outs, binD, unD, argM, argV, argE, callM, apart, back, evT_nm, evT_tp, evTs_nil, evTs_cons, Fl.unl, lenD, items, someI, slD, isNone, tyD, evI, rangeD_1, eqD, mem_strs, lenOk_0, lenOk_of, eqOk_int, eqOk_str, eqOk_bool, eqv_int, eqv_str, eqv_bool, hp0, h3, h4, retF], .inl ⟨rfl, rfl⟩⟩
theorem law_loop {G : Gm} {as : List Str} {x : D} (hx : wt x ≤ 100000) : ∃ fl v2 v3 v4, ((senB as x 0 = true ∧ fl = .nx [.val (tS as), .val x, v2, v3, v4, .no, .no]) ∨ (senB as x 0 = false ∧ fl = .rt (.val (.bool false)) [.val (tS as), .val x, v2, v3, v4, .no, .no])) ∧
    evS G lawLoop [.val (tS as), .val x, .own [.tuple [x, .int 0]], .no, .no, .no, .no] = some fl := by
  rw [lawLoop_eq, evS]
  generalize ht : senB as x 0 = t
  obtain ⟨fl, h1, h2⟩ := while_inv (c := evB G (.tv (.cmp .ne (.var 2) (.lst .nil)))) (b := evSs G lawBody) (I := fun m e => ∃ (rows : List Row1) (v3 v4 : Sl), wtR rows = m ∧ m ≤ 100000 ∧ v3.ly = false ∧ v4.ly = false ∧ (rows.all fun p => senB as p.1 p.2) = t ∧ e = [.val (tS as), .val x, .own (rows.map rw1), v3, v4, .no, .no])
    (Z := fun fl => ∃ v2 v3 v4, ((t = true ∧ fl = .nx [.val (tS as), .val x, v2, v3, v4, .no, .no]) ∨ (t = false ∧ fl = .rt (.val (.bool false)) [.val (tS as), .val x, v2, v3, v4, .no, .no]))) (wt x) turns [.val (tS as), .val x, .own [.tuple [x, .int 0]], .no, .no, .no, .no] (turns_gt hx) ⟨[(x, 0)], .no, .no, rfl, hx, rfl, rfl, by simp [ht], rfl⟩ fun m e hI => by
    obtain ⟨rows, v3, v4, hm, hm2, h3, h4, hal, rfl⟩ := hI
    rcases List.eq_nil_or_concat rows with rfl | ⟨init, ⟨y, d⟩, rfl⟩
    · refine ⟨false, [.val (tS as), .val x, .own [], v3, v4, .no, .no], by simp -implicitDefEqProofs [startE, evSs, evS, flow, evB, pk, lk, evE, peek, unl, M.bnd, M.ret, of_some, of_none, M.fail, En.g, unlock, EV.dat, Cn.d, ixD, cmpD, truth, evPs, evAs, evEs, evO, biD, kp, EV.keep, chk, chg, setF, appF, putV_v, putV_l, ly_no, ly_val, ly_fn, ly_clo, retV, getV, endF, outs, binD, unD, argM, argV, argE, callM, apart, back, evT_nm, evT_tp, evTs_nil, evTs_cons, Fl.unl, lenD, items, someI, slD, isNone, tyD, evI, rangeD_1, eqD, mem_strs, lenOk_0, lenOk_of, eqOk_int, eqOk_str, eqOk_bool, eqv_int, eqv_str, eqv_bool], fun _ => ⟨_, _, _, .inl ⟨hal.symm, rfl⟩⟩, fun z => by cases z⟩
    · rw [List.concat_eq_append] at hm hal ⊢
      rw [wtR_app] at hm
      simp only [wtR] at hm
      have hy := wt_pos y
      rw [List.all_append] at hal
      simp only [List.all_cons, List.all_nil, Bool.and_true] at hal
      rw [List.map_append, List.map_singleton]
      have hne : (init.map rw1 ++ [rw1 (y, d)]).isEmpty = false := by cases init <;> rfl
      refine ⟨true, [.val (tS as), .val x, .own (init.map rw1 ++ [rw1 (y, d)]), v3, v4, .no, .no], by simp -implicitDefEqProofs [startE, evSs, evS, flow, evB, pk, lk, evE, peek, unl, M.bnd, M.ret, of_some, of_none, M.fail, En.g, unlock, EV.dat, Cn.d, ixD, cmpD, truth, evPs, evAs, evEs, evO, biD, kp, EV.keep, chk, chg, setF, appF, putV_v, putV_l, ly_no, ly_val, ly_fn, ly_clo, retV, getV, endF, outs, binD, unD, argM, argV, argE, callM, apart, back, evT_nm, evT_tp, evTs_nil, evTs_cons, Fl.unl, lenD, items, someI, slD, isNone, tyD, evI, rangeD_1, eqD, mem_strs, lenOk_0, lenOk_of, eqOk_int, eqOk_str, eqOk_bool, eqv_int, eqv_str, eqv_bool, hne], (fun z => by cases z), fun _ => ?_⟩
      obtain ⟨b, hb, hc⟩ := law_turn (G := G) (as := as) (x := x) (y := y) (d := d) (init := init) h3 h4 (by omega)
      refine ⟨b, hb, ?_⟩
      rcases hc with ⟨q, rfl⟩ | ⟨s, rfl, q, rfl⟩ | ⟨h, r, rfl, q, rfl⟩
      · exact .inr ⟨_, _, rfl, _, _, _, .inr ⟨by rw [← hal, q, Bool.and_false], rfl⟩⟩
      · exact .inl ⟨_, wtR init, .inl rfl, by omega, init, _, _, rfl, by omega, rfl, rfl, by rw [← hal, q, Bool.and_true], rfl⟩
      · simp only [wt, wtL] at hm
        have hh := wt_pos h
        refine .inl ⟨_, wtR (init ++ r.map fun x => (x, d + 1)), .inl rfl, ?_, _, _, _, rfl, ?_, rfl, rfl, ?_, rfl⟩
        · rw [wtR_app, wtR_map]; omega
        · rw [wtR_app, wtR_map]; omega
        · rw [← hal, List.all_append, ← senBL_all, q]
  obtain ⟨v2, v3, v4, h3⟩ := h2
  exact ⟨fl, v2, v3, v4, h3, h1⟩
def LawSenS (G : Gm) : Prop := ∀ as x, wt x ≤ 100000 → G.call f__law_is_sentence [.val (tS as), .val x] = some (.ok (.val (.bool (senA as x 0))) [.no, .no])
theorem lawsen_ok {n : Nat} : LawSenS (gmOf dat.con (fdOf dat.glb 60 dat.defs) (n + 1)) := fun as x hx => by
  obtain ⟨fl, v2, v3, v4, h1, h2⟩ := law_loop (G := gmOf dat.con (fdOf dat.glb 60 dat.defs) n) (as := as) hx
  rw [gcall d__law_is_sentence rfl, law_code, (sen_ab (wt x)).1 x 0 (Nat.le_refl _) (by decide)]
  rcases h1 with ⟨q, rfl⟩ | ⟨q, rfl⟩
  · rw [q]
    simp -implicitDefEqProofs [startE, evSs, evS, flow, evB, pk, lk, evE, peek, unl, M.bnd, M.ret, of_some, of_none, M.fail, En.g, unlock, EV.dat, Cn.d, ixD, cmpD, truth, evPs, evAs, evEs, evO, biD, kp, EV.keep, chk, chg, setF, appF, putV_v, putV_l, ly_no, ly_val, ly_fn, ly_clo, retV, getV, endF, outs, binD, unD, argM, argV, argE, callM, apart, back, evT_nm, evT_tp, evTs_nil, evTs_cons, Fl.unl, lenD, items, someI, slD, isNone, tyD, evI, rangeD_1, eqD, mem_strs, lenOk_0, lenOk_of, eqOk_int, eqOk_str, eqOk_bool, eqv_int, eqv_str, eqv_bool, h2]
  · rw [q]
    simp -implicitDefEqProofs [startE, evSs, evS, flow, evB, pk, lk, evE, peek, unl, M.bnd, M.ret, of_some, of_none, M.fail, En.g, unlock, EV.dat, Cn.d, ixD, cmpD, truth, evPs, evAs, evEs, evO, biD, kp, EV.keep, chk, chg, setF, appF, putV_v, putV_l, ly_no, ly_val, ly_fn, ly_clo, retV, getV, endF, outs, binD, unD, argM, argV, argE, callM, apart, back, evT_nm, evT_tp, evTs_nil, evTs_cons, Fl.unl, lenD, items, someI, slD, isNone, tyD, evI, rangeD_1, eqD, mem_strs, lenOk_0, lenOk_of, eqOk_int, eqOk_str, eqOk_bool, eqv_int, eqv_str, eqv_bool, h2]
/-! ### depth -/
def depLoop : CS := hd (tl c__law_depth)
def depBody : CSs := fb depLoop
theorem dep_code : c__law_depth = .cons (.par 1 2 (.lst (.cons false (.tup (.cons false (.var 0) (.cons false (.cst (.int (0))) .nil))) .nil)) (.cst (.int (0)))) (.cons depLoop (.cons (.ret (.var 2)) .nil)) := rfl
theorem depLoop_eq : depLoop = .whil (.tv (.cmp .ne (.var 1) (.lst .nil))) depBody := rfl
theorem depBody_eq : depBody = .cons (.asg (.tp (.cons (.nm 3) (.cons (.nm 4) .nil))) (.pop 1)) (.cons (.asg (.nm 2) (.bi .max (.cons false (.var 2) (.cons false (.var 4) .nil)))) (.cons (.iff (.tv (.isi (.var 3) .tuple)) (.cons depExt .nil) .nil) .nil)) := rfl
theorem dep_turn {G : Gm} {x y : D} {d : Nat} {b : Int} {init : List Row1} {v3 v4 : Sl} (h3 : v3.ly = false) (h4 : v4.ly = false) (hw : wtR init + wt y ≤ 100000) :
    ∃ rows b2, wtR rows < wtR init + wt y ∧ evSs G depBody [.val x, .own (init.map rw1 ++ [.tuple [y, .int d]]), .val (.int b), v3, v4, .no, .no] = some (.nx [.val x, .own (rows.map rw1), .val (.int b2), .val y, .val (.int d), .no, .no]) := by
  have hp0 := rd_pop (init := init) (y := y) (d := d)
  rw [depBody_eq]
  have hy := wt_pos y
  cases y with
  | tuple xs =>
    have hl := wtL_len xs
    have hr := wtR_len init
    simp only [wt] at hw
    have he : ∀ b : Int, _ := fun b => depExt_run (G := G) (s0 := .val x) (s1 := .val (.int b)) (R := init.map rw1) (xs := xs) (d := d) (by omega) (by rw [List.length_map]; omega)
    refine ⟨init ++ xs.tail.map fun x => (x, d + 1), _, ?_, by simp -implicitDefEqProofs [startE, evSs, evS, flow, evB, pk, lk, evE, peek, unl, M.bnd, M.ret, of_some, of_none, M.fail, En.g, unlock, EV.dat, Cn.d, ixD, cmpD, truth, evPs, evAs, evEs, evO, biD, kp, EV.keep, chk, chg, setF, appF, putV_v, putV_l, ly_no, ly_val, ly_fn, ly_clo, retV, getV, endF, outs, binD, unD, argM, argV, argE, callM, apart, back, evT_nm, evT_tp, evTs_nil, evTs_cons, Fl.unl, lenD, items, someI, slD, isNone, tyD, evI, rangeD_1, eqD, mem_strs, lenOk_0, lenOk_of, eqOk_int, eqOk_str, eqOk_bool, eqv_int, eqv_str, eqv_bool, hp0, h3, h4, he]; rfl⟩
    rw [wtR_app, wtR_map, wt]
    have : wtL xs.tail ≤ wtL xs := by cases xs <;> simp [wtL]
    omega
  | _ => exact ⟨init, _, by omega, by simp -implicitDefEqProofs [startE, evSs, evS, flow, evB, pk, lk, evE, peek, unl, M.bnd, M.ret, of_some, of_none, M.fail, En.g, unlock, EV.dat, Cn.d, ixD, cmpD, truth, evPs, evAs, evEs, evO, biD, kp, EV.keep, chk, chg, setF, appF, putV_v, putV_l, ly_no, ly_val, ly_fn, ly_clo, retV, getV, endF, outs, binD, unD, argM, argV, argE, callM, apart, back, evT_nm, evT_tp, evTs_nil, evTs_cons, Fl.unl, lenD, items, someI, slD, isNone, tyD, evI, rangeD_1, eqD, mem_strs, lenOk_0, lenOk_of, eqOk_int, eqOk_str, eqOk_bool, eqv_int, eqv_str, eqv_bool, hp0, h3, h4]; rfl⟩
end K01
end

section
set_option maxRecDepth 100000
set_option maxHeartbeats 2000000
namespace K01
open Mi PySem L2
theorem dep_loop {G : Gm} {x : D} (hx : wt x ≤ 100000) : ∃ (b : Int) (v3 v4 : Sl), evS G depLoop [.val x, .own [.tuple [x, .int 0]], .val (.int 0), .no, .no, .no, .no] = some (.nx [.val x, .own [], .val (.int b), v3, v4, .no, .no]) := by
  rw [depLoop_eq, evS]
  obtain ⟨fl, h1, h2⟩ := while_inv (c := evB G (.tv (.cmp .ne (.var 1) (.lst .nil)))) (b := evSs G depBody) (I := fun m e => ∃ (rows : List Row1) (b : Int) (v3 v4 : Sl), wtR rows = m ∧ m ≤ 100000 ∧ v3.ly = false ∧ v4.ly = false ∧ e = [.val x, .own (rows.map rw1), .val (.int b), v3, v4, .no, .no])
    (Z := fun fl => ∃ (b : Int) (v3 v4 : Sl), fl = .nx [.val x, .own [], .val (.int b), v3, v4, .no, .no]) (wt x) turns [.val x, .own [.tuple [x, .int 0]], .val (.int 0), .no, .no, .no, .no] (turns_gt hx) ⟨[(x, 0)], 0, .no, .no, rfl, hx, rfl, rfl, rfl⟩ fun m e hI => by
    obtain ⟨rows, b, v3, v4, hm, hm2, h3, h4, rfl⟩ := hI
    rcases List.eq_nil_or_concat rows with rfl | ⟨init, ⟨y, d⟩, rfl⟩
    · refine ⟨false, [.val x, .own [], .val (.int b), v3, v4, .no, .no], by simp -implicitDefEqProofs [startE, evSs, evS, flow, evB, pk, lk, evE, peek, unl, M.bnd, M.ret, of_some, of_none, M.fail, En.g, unlock, EV.dat, Cn.d, ixD, cmpD, truth, evPs, evAs, evEs, evO, biD, kp, EV.keep, chk, chg, setF, appF, putV_v, putV_l, ly_no, ly_val, ly_fn, ly_clo, retV, getV, endF, outs, binD, unD, argM, argV, argE, callM, apart, back, evT_nm, evT_tp, evTs_nil, evTs_cons, Fl.unl, lenD, items, someI, slD, isNone, tyD, evI, rangeD_1, eqD, mem_strs, lenOk_0, lenOk_of, eqOk_int, eqOk_str, eqOk_bool, eqv_int, eqv_str, eqv_bool], fun _ => ⟨_, _, _, rfl⟩, fun z => by cases z⟩
    · rw [List.concat_eq_append] at hm ⊢
      rw [wtR_app] at hm
      simp only [wtR] at hm
      rw [List.map_append, List.map_singleton]
      have hne : (init.map rw1 ++ [rw1 (y, d)]).isEmpty = false := by cases init <;> rfl
      refine ⟨true, [.val x, .own (init.map rw1 ++ [rw1 (y, d)]), .val (.int b), v3, v4, .no, .no], by simp -implicitDefEqProofs [startE, evSs, evS, flow, evB, pk, lk, evE, peek, unl, M.bnd, M.ret, of_some, of_none, M.fail, En.g, unlock, EV.dat, Cn.d, ixD, cmpD, truth, evPs, evAs, evEs, evO, biD, kp, EV.keep, chk, chg, setF, appF, putV_v, putV_l, ly_no, ly_val, ly_fn, ly_clo, retV, getV, endF, outs, binD, unD, argM, argV, argE, callM, apart, back, evT_nm, evT_tp, evTs_nil, evTs_cons, Fl.unl, lenD, items, someI, slD, isNone, tyD, evI, rangeD_1, eqD, mem_strs, lenOk_0, lenOk_of, eqOk_int, eqOk_str, eqOk_bool, eqv_int, eqv_str, eqv_bool, hne], (fun z => by cases z), fun _ => ?_⟩
      obtain ⟨rows, b2, q1, q2⟩ := dep_turn (G := G) (x := x) (y := y) (d := d) (b := b) (init := init) h3 h4 (by omega)
      exact ⟨_, q2, .inl ⟨_, wtR rows, .inl rfl, by omega, rows, b2, _, _, rfl, by omega, rfl, rfl, rfl⟩⟩
  obtain ⟨b, v3, v4, rfl⟩ := h2
  exact ⟨b, v3, v4, h1⟩
def DepthS (G : Gm) : Prop := ∀ x, wt x ≤ 100000 → ∃ b : Int, G.call f__law_depth [.val x] = some (.ok (.val (.int b)) [.no])
theorem depth_ok {n : Nat} : DepthS (gmOf dat.con (fdOf dat.glb 60 dat.defs) (n + 1)) := fun x hx => by
  obtain ⟨b, v3, v4, h⟩ := dep_loop (G := gmOf dat.con (fdOf dat.glb 60 dat.defs) n) hx
  refine ⟨b, ?_⟩
  rw [gcall d__law_depth rfl, dep_code]
  simp -implicitDefEqProofs [startE, evSs, evS, flow, evB, pk, lk, evE, peek, unl, M.bnd, M.ret, of_some, of_none, M.fail, En.g, unlock, EV.dat, Cn.d, ixD, cmpD, truth, evPs, evAs, evEs, evO, biD, kp, EV.keep, chk, chg, setF, appF, putV_v, putV_l, ly_no, ly_val, ly_fn, ly_clo, retV, getV, endF, outs, binD, unD, argM, argV, argE, callM, apart, back, evT_nm, evT_tp, evTs_nil, evTs_cons, Fl.unl, lenD, items, someI, slD, isNone, tyD, evI, rangeD_1, eqD, mem_strs, lenOk_0, lenOk_of, eqOk_int, eqOk_str, eqOk_bool, eqv_int, eqv_str, eqv_bool, h]
/-! ### sentences -/
def Bk : Nat → Nat
  | 0 => 1
  | k + 1 => 2 * Bk k + 2
theorem Bk_mono {k : Nat} : Bk k ≤ Bk (k + 1) := by show Bk k ≤ 2 * Bk k + 2; omega
theorem Bk_le {k : Nat} : ∀ {m : Nat}, k ≤ m → Bk k ≤ Bk m
  | 0, h => by have : k = 0 := by omega
               subst this; exact Nat.le_refl _
  | m + 1, h => by
    rcases Nat.lt_or_ge k (m + 1) with q | q
    · exact Nat.le_trans (Bk_le (by omega)) Bk_mono
    · have : k = m + 1 := by omega
      subst this; exact Nat.le_refl _
theorem Bk_pos {k : Nat} : 1 ≤ Bk k := Bk_le (k := 0) (by omega)
structure Good (k : Nat) (x : D) : Prop where
  pu : pur x = true
  de : dp x ≤ k
  we : wt x ≤ Bk k
theorem Good.up {k m : Nat} {x : D} (h : Good k x) (q : k ≤ m) : Good m x := ⟨h.pu, by have := h.de; omega, Nat.le_trans h.we (Bk_le q)⟩
theorem good_1 {k : Nat} {o : Str} {x : D} (h : Good k x) : Good (k + 1) (.tuple [.str o, x]) := by
  obtain ⟨h1, h2, h3⟩ := h
  refine ⟨by simp [pur, purL, h1], by simp [dp, dpL]; omega, ?_⟩
  have := Bk_pos (k := k)
  simp only [wt, wtL, Bk]
  omega
theorem good_2 {k : Nat} {o : Str} {x y : D} (h : Good k x) (h' : Good k y) : Good (k + 1) (.tuple [.str o, x, y]) := by
  obtain ⟨h1, h2, h3⟩ := h
  obtain ⟨k1, k2, k3⟩ := h'
  refine ⟨by simp [pur, purL, h1, k1], by simp [dp, dpL]; omega, ?_⟩
  simp only [wt, wtL, Bk]
  omega
def sentBody : CSs := fb (hd (tl c__law_sentence))
theorem sentBody_eq : sentBody = .cons (.par 5 6 (.call f__law_one (.cons false (.var 0) (.cons false (.var 3) .nil))) (.call f__law_one (.cons false (.var 0) (.cons false (.var 3) .nil))))
    (.cons (.asg (.nm 7) (.call f__law_one (.cons false (.var 0) (.cons false (.tup (.cons false (.tup (.cons false (.cst (.str "not")) (.cons false (.var 5) .nil))) (.cons false (.tup (.cons false (.cst (.str "and")) (.cons false (.var 5) (.cons false (.var 6) .nil)))) (.cons false (.tup (.cons false (.cst (.str "or")) (.cons false (.var 5) (.cons false (.var 6) .nil)))) (.cons false (.tup (.cons false (.cst (.str "if")) (.cons false (.var 5) (.cons false (.var 6) .nil)))) .nil))))) .nil))))
    (.cons (.iff (.tv (.cmp .le (.call f__law_depth (.cons false (.var 7) .nil)) (.cst (.int (10))))) (.cons (.expr (.app 3 (.var 7))) .nil) .nil) .nil)) := rfl
theorem sent_code : c__law_sentence = .cons (.asg (.nm 3) (.bi .list (.cons false (.var 1) .nil)))
  (.cons (.forr (.nm 4) (.rg 1 (.cons false (.call f__law_below (.cons false (.var 0) (.cons false (.bin .add (.var 2) (.cst (.int (1)))) .nil))) .nil)) sentBody)
  (.cons (.ret (.ife (.tv (.cmp .gt (.call f__law_below (.cons false (.var 0) (.cons false (.cst (.int (6))) .nil))) (.cst (.int (0))))) (.ix (.var 3) (.un .neg (.cst (.int (1))))) (.call f__law_one (.cons false (.var 0) (.cons false (.var 3) .nil))))) .nil)) := rfl
theorem sent_turn {G : Gm} (O : OneS G) (P : DepthS G) {l rows : List D} {s1 s2 v4 v5 v6 v7 : Sl} {k : Nat} (hp : PoolV l) (hk : k ≤ 6) (ne : rows ≠ []) (hl : rows.length ≤ 4 + k) (hg : ∀ x ∈ rows, Good k x) (h5 : v5.ly = false) (h6 : v6.ly = false) (h7 : v7.ly = false) :
    ∃ l' rows' w5 w6 w7, PoolV l' ∧ rows' ≠ [] ∧ rows'.length ≤ 4 + k + 1 ∧ (∀ x ∈ rows', Good (k + 1) x) ∧ w5.ly = false ∧ w6.ly = false ∧ w7.ly = false ∧
      evSs G sentBody [.lent l, s1, s2, .own rows, v4, v5, v6, v7] = some (.nx [.lent l', s1, s2, .own rows', v4, w5, w6, w7]) := by
  obtain ⟨x, l1, hx, hp1, ho1⟩ := O l rows (.lent rows) hp (.inr (.inr (.inr (.inl rfl)))) ne (by omega)
  obtain ⟨y, l2, hy, hp2, ho2⟩ := O l1 rows (.lent rows) hp1 (.inr (.inr (.inr (.inl rfl)))) ne (by omega)
  obtain ⟨z, l3, hz, hp3, ho3⟩ := O l2 [.tuple [.str "not", x], .tuple [.str "and", x, y], .tuple [.str "or", x, y], .tuple [.str "if", x, y]] (.val (.tuple [.tuple [.str "not", x], .tuple [.str "and", x, y], .tuple [.str "or", x, y], .tuple [.str "if", x, y]])) hp2 (.inl rfl) (by simp) (by simp)
  have gz : Good (k + 1) z := by
    simp only [List.mem_cons, List.not_mem_nil, or_false] at hz
    rcases hz with rfl | rfl | rfl | rfl
    · exact good_1 (hg x hx)
    · exact good_2 (hg x hx) (hg y hy)
    · exact good_2 (hg x hx) (hg y hy)
    · exact good_2 (hg x hx) (hg y hy)
  obtain ⟨b, hd⟩ := P z (Nat.le_trans gz.we (Nat.le_trans (Bk_le (show k + 1 ≤ 7 by omega)) (by decide)))
  have hn : lenOk (rows.length + 1) = true := lenOk_of (by omega)
  rw [sentBody_eq]
  by_cases hb : b ≤ 10
  · refine ⟨l3, rows ++ [z], .val x, .val y, .val z, hp3, by simp, by rw [List.length_append, List.length_singleton]; omega, fun w hw => ?_, rfl, rfl, rfl, ?_⟩
    · rcases List.mem_append.mp hw with hw | hw
      · exact (hg w hw).up (by omega)
      · rw [List.mem_singleton] at hw
        subst hw
        exact gz
    · simp -implicitDefEqProofs [startE, evSs, evS, flow, evB, pk, lk, evE, peek, unl, M.bnd, M.ret, of_some, of_none, M.fail, En.g, unlock, EV.dat, Cn.d, ixD, cmpD, truth, evPs, evAs, evEs, evO, biD, kp, EV.keep, chk, chg, setF, appF, putV_v, putV_l, ly_no, ly_val, ly_fn, ly_clo, retV, getV, endF, outs, binD, unD, argM, argV, argE, callM, apart, back, evT_nm, evT_tp, evTs_nil, evTs_cons, Fl.unl, lenD, items, someI, slD, isNone, tyD, evI, rangeD_1, eqD, mem_strs, lenOk_0, lenOk_of, eqOk_int, eqOk_str, eqOk_bool, eqv_int, eqv_str, eqv_bool, h5, h6, h7, ho1, ho2, ho3, outS, hd, hb, hn]
  · refine ⟨l3, rows, .val x, .val y, .val z, hp3, ne, by omega, fun w hw => (hg w hw).up (by omega), rfl, rfl, rfl, ?_⟩
    simp -implicitDefEqProofs [startE, evSs, evS, flow, evB, pk, lk, evE, peek, unl, M.bnd, M.ret, of_some, of_none, M.fail, En.g, unlock, EV.dat, Cn.d, ixD, cmpD, truth, evPs, evAs, evEs, evO, biD, kp, EV.keep, chk, chg, setF, appF, putV_v, putV_l, ly_no, ly_val, ly_fn, ly_clo, retV, getV, endF, outs, binD, unD, argM, argV, argE, callM, apart, back, evT_nm, evT_tp, evTs_nil, evTs_cons, Fl.unl, lenD, items, someI, slD, isNone, tyD, evI, rangeD_1, eqD, mem_strs, lenOk_0, lenOk_of, eqOk_int, eqOk_str, eqOk_bool, eqv_int, eqv_str, eqv_bool, h5, h6, h7, ho1, ho2, ho3, outS, hd, hb, hn]
def SentS (G : Gm) : Prop := ∀ l as, PoolV l → AtOk as → ∃ x l', Good 6 x ∧ PoolV l' ∧ G.call f__law_sentence [.lent l, .val (tS as), .val (.int 6)] = some (.ok (.val x) [.lent l', .no, .no])
theorem sent_run {G : Gm} (B : BelowS G) (O : OneS G) (P : DepthS G) {l : List D} {as : List Str} (hp : PoolV l) (ha : AtOk as) :
    ∃ x l', Good 6 x ∧ PoolV l' ∧ endF 3 (evSs G c__law_sentence (startE 8 [.lent l, .val (tS as), .val (.int 6)])) = some (.ok (.val x) [.lent l', .no, .no]) := by
  obtain ⟨r, l1, r0, r1, hp1, hb⟩ := B l 7 hp (by decide) (by decide)
  obtain ⟨n, rfl⟩ : ∃ n : Nat, r = (n : Int) := ⟨r.toNat, by omega⟩
  have hi := ha.hi
  have lo := ha.lo
  obtain ⟨fl, h1, h2⟩ := for_inv (tg := evT (.nm 4)) (b := evSs G sentBody) (I := fun k e => k ≤ n ∧ ∃ l rows v4 v5 v6 v7, PoolV l ∧ rows ≠ [] ∧ rows.length ≤ 4 + k ∧ (∀ x ∈ rows, Good k x) ∧ v4.ly = false ∧ v5.ly = false ∧ v6.ly = false ∧ v7.ly = false ∧ e = [.lent l, .val (tS as), .val (.int 6), .own rows, v4, v5, v6, v7])
    (R := fun _ _ => False) (rangeL 0 1 n) 0 [.lent l1, .val (tS as), .val (.int 6), .own (as.map PyData.str), .no, .no, .no, .no] ⟨by omega, l1, as.map PyData.str, .no, .no, .no, .no, hp1, by intro z; rw [List.map_eq_nil_iff] at z; subst z; simp at lo, by rw [List.length_map]; omega, fun x hx => by
      obtain ⟨s, _, rfl⟩ := List.mem_map.mp hx
      exact ⟨by simp [pur], by simp [dp], by simp [wt, Bk]⟩, rfl, rfl, rfl, rfl, rfl⟩ fun j x e hx hI => by
    obtain ⟨hk, l2, rows, v4, v5, v6, v7, hp2, ne, hl, hg, h4, h5, h6, h7, rfl⟩ := hI
    obtain ⟨k, rfl, hj⟩ := rangeL_nth n j x hx
    obtain ⟨l3, rows', w5, w6, w7, q1, q2, q3, q4, q5, q6, q7, q8⟩ := sent_turn O P (s1 := .val (tS as)) (s2 := .val (.int 6)) (v4 := .val (.int k)) hp2 (show 0 + j ≤ 6 by omega) ne hl hg h5 h6 h7
    exact ⟨[.lent l2, .val (tS as), .val (.int 6), .own rows, .val (.int k), v5, v6, v7], by simp -implicitDefEqProofs [startE, evSs, evS, flow, evB, pk, lk, evE, peek, unl, M.bnd, M.ret, of_some, of_none, M.fail, En.g, unlock, EV.dat, Cn.d, ixD, cmpD, truth, evPs, evAs, evEs, evO, biD, kp, EV.keep, chk, chg, setF, appF, putV_v, putV_l, ly_no, ly_val, ly_fn, ly_clo, retV, getV, endF, outs, binD, unD, argM, argV, argE, callM, apart, back, evT_nm, evT_tp, evTs_nil, evTs_cons, Fl.unl, lenD, items, someI, slD, isNone, tyD, evI, rangeD_1, eqD, mem_strs, lenOk_0, lenOk_of, eqOk_int, eqOk_str, eqOk_bool, eqv_int, eqv_str, eqv_bool, h4], _, q8, .inl ⟨_, .inl rfl, by omega, l3, rows', _, w5, w6, w7, q1, q2, by omega, q4, rfl, q5, q6, q7, rfl⟩⟩
  have hr : rgOk (n : Int) = true := rgOk_of (by omega) (by omega)
  rcases h2 with ⟨e', rfl, hk, l2, rows, v4, v5, v6, v7, q1, q2, q3, q4, h4, h5, h6, h7, rfl⟩ | ⟨v, e', rfl, z⟩
  · rw [rangeL_len, Nat.zero_add] at q3 q4
    obtain ⟨r, l3, r0, r1', hp3, hb2⟩ := B l2 6 q1 (by decide) (by decide)
    rw [sent_code]
    by_cases hz : 0 < r
    · rcases List.eq_nil_or_concat rows with rfl | ⟨init, y, rfl⟩
      · exact absurd rfl q2
      · rw [List.concat_eq_append] at *
        have hat : L2.atI (init ++ [y]) (-1) = some y := at_neg
        refine ⟨y, l3, (q4 y (by simp)).up (by omega), hp3, ?_⟩
        unfold tS at h1 ⊢
        simp -implicitDefEqProofs [startE, evSs, evS, flow, evB, pk, lk, evE, peek, unl, M.bnd, M.ret, of_some, of_none, M.fail, En.g, unlock, EV.dat, Cn.d, ixD, cmpD, truth, evPs, evAs, evEs, evO, biD, kp, EV.keep, chk, chg, setF, appF, putV_v, putV_l, ly_no, ly_val, ly_fn, ly_clo, retV, getV, endF, outs, binD, unD, argM, argV, argE, callM, apart, back, evT_nm, evT_tp, evTs_nil, evTs_cons, Fl.unl, lenD, items, someI, slD, isNone, tyD, evI, rangeD_1, eqD, mem_strs, lenOk_0, lenOk_of, eqOk_int, eqOk_str, eqOk_bool, eqv_int, eqv_str, eqv_bool, hb, hr, h1, hb2, hz, hat]
    · obtain ⟨y, l4, hy, hp4, ho⟩ := O l3 rows (.lent rows) hp3 (.inr (.inr (.inr (.inl rfl)))) q2 (by omega)
      refine ⟨y, l4, (q4 y hy).up (by omega), hp4, ?_⟩
      unfold tS at h1 ⊢
      simp -implicitDefEqProofs [startE, evSs, evS, flow, evB, pk, lk, evE, peek, unl, M.bnd, M.ret, of_some, of_none, M.fail, En.g, unlock, EV.dat, Cn.d, ixD, cmpD, truth, evPs, evAs, evEs, evO, biD, kp, EV.keep, chk, chg, setF, appF, putV_v, putV_l, ly_no, ly_val, ly_fn, ly_clo, retV, getV, endF, outs, binD, unD, argM, argV, argE, callM, apart, back, evT_nm, evT_tp, evTs_nil, evTs_cons, Fl.unl, lenD, items, someI, slD, isNone, tyD, evI, rangeD_1, eqD, mem_strs, lenOk_0, lenOk_of, eqOk_int, eqOk_str, eqOk_bool, eqv_int, eqv_str, eqv_bool, hb, hr, h1, hb2, hz, ho, outS]
  · exact z.elim
theorem sent_ok {n : Nat} : SentS (gmOf dat.con (fdOf dat.glb 60 dat.defs) (n + 3)) := fun l as hp ha => by
  obtain ⟨x, l', h1, h2, h3⟩ := sent_run (below_ok (n + 1)) (one_ok (n := n)) (depth_ok (n := n + 1)) hp ha
  exact ⟨x, l', h1, h2, by rw [gcall d__law_sentence rfl]; exact h3⟩
end K01
end

section
set_option maxRecDepth 100000
set_option maxHeartbeats 2000000
namespace K01
open Mi PySem L2
theorem cutL_takeA {α : Type} {xs : List α} {k : Nat} : cutL xs none (some (k : Int)) = xs.take k := by
  unfold cutL
  rw [HT.sIx_none, HT.sIx_nat, List.drop_zero, Nat.sub_zero]
  rcases Nat.lt_or_ge k xs.length with h | h
  · rw [Nat.min_eq_left (by omega)]
  · rw [Nat.min_eq_right h, List.take_length, List.take_of_length_le h]
theorem add_tt {G : Gm} {a b : CE} {xs ys : List D} {e : En} (la : ∀ m : M EV, lk a m = m.bnd fun v => M.ret (v, [])) (lb : ∀ m : M EV, lk b m = m.bnd fun v => M.ret (v, [])) (ha : evE G a e = some (.ok (.val (.tuple xs)) e)) (hb : evE G b e = some (.ok (.val (.tuple ys)) e)) (hz : xs.length + ys.length ≤ 16777216) : evE G (.bin .add a b) e = some (.ok (.val (.tuple (xs ++ ys))) e) := by
  simp -implicitDefEqProofs only [evE, pk, la, lb]
  simp -implicitDefEqProofs only [M.bnd, ha, hb, M.ret, unl, EV.dat, binD, lenOk_of hz, if_true, of_some, unlock, List.foldl]
theorem at_nat {α : Type} {xs : List α} {a : Nat} : L2.atI xs (a : Int) = xs[a]? := by
  unfold L2.atI L2.ixN
  rw [if_pos (by omega)]
  rcases Nat.lt_or_ge a xs.length with h | h
  · rw [if_pos (by omega)]
    rfl
  · rw [if_neg (by omega), List.getElem?_eq_none h]
    rfl
/-- the slices -/
def slA : CE := .sl (.var 1) .no (.yes (.var 2))
def slB : CE := .sl (.var 1) (.yes (.bin .add (.var 2) (.cst (.int (1))))) .no
def slC : CE := .sl (.var 1) .no (.yes (.cst (.int (1))))
def slD2 : CE := .sl (.var 1) (.yes (.var 2)) .no
theorem slA_run {G : Gm} {s0 s3 : Sl} {xs : List D} {a : Nat} : evE G slA [s0, .val (.tuple xs), .val (.int a), s3] = some (.ok (.val (.tuple (xs.take a))) [s0, .val (.tuple xs), .val (.int a), s3]) := by
  have h : cutL xs none (some (a : Int)) = xs.take a := cutL_takeA
  unfold slA
  simp -implicitDefEqProofs [startE, evSs, evS, flow, evB, pk, lk, evE, peek, unl, M.bnd, M.ret, of_some, of_none, M.fail, En.g, unlock, EV.dat, Cn.d, ixD, cmpD, truth, evPs, evAs, evEs, evO, biD, kp, EV.keep, chk, chg, setF, appF, putV_v, putV_l, ly_no, ly_val, ly_fn, ly_clo, retV, getV, endF, outs, binD, unD, argM, argV, argE, callM, apart, back, evT_nm, evT_tp, evTs_nil, evTs_cons, Fl.unl, lenD, items, someI, slD, isNone, tyD, evI, rangeD_1, eqD, mem_strs, lenOk_0, lenOk_of, eqOk_int, eqOk_str, eqOk_bool, eqv_int, eqv_str, eqv_bool, h]
theorem slB_run {G : Gm} {s0 s3 : Sl} {xs : List D} {a : Nat} : evE G slB [s0, .val (.tuple xs), .val (.int a), s3] = some (.ok (.val (.tuple (xs.drop (a + 1)))) [s0, .val (.tuple xs), .val (.int a), s3]) := by
  have h : cutL xs (some ((a : Int) + 1)) none = xs.drop (a + 1) := by
    have := cutL_drop (xs := xs) (k := a + 1)
    rwa [Int.natCast_add] at this
  unfold slB
  simp -implicitDefEqProofs [startE, evSs, evS, flow, evB, pk, lk, evE, peek, unl, M.bnd, M.ret, of_some, of_none, M.fail, En.g, unlock, EV.dat, Cn.d, ixD, cmpD, truth, evPs, evAs, evEs, evO, biD, kp, EV.keep, chk, chg, setF, appF, putV_v, putV_l, ly_no, ly_val, ly_fn, ly_clo, retV, getV, endF, outs, binD, unD, argM, argV, argE, callM, apart, back, evT_nm, evT_tp, evTs_nil, evTs_cons, Fl.unl, lenD, items, someI, slD, isNone, tyD, evI, rangeD_1, eqD, mem_strs, lenOk_0, lenOk_of, eqOk_int, eqOk_str, eqOk_bool, eqv_int, eqv_str, eqv_bool, h]
theorem slC_run {G : Gm} {s0 s3 : Sl} {xs : List D} {a : Nat} : evE G slC [s0, .val (.tuple xs), .val (.int a), s3] = some (.ok (.val (.tuple (xs.take 1))) [s0, .val (.tuple xs), .val (.int a), s3]) := by
  have h : cutL xs none (some 1) = xs.take 1 := cutL_takeA (k := 1)
  unfold slC
  simp -implicitDefEqProofs [startE, evSs, evS, flow, evB, pk, lk, evE, peek, unl, M.bnd, M.ret, of_some, of_none, M.fail, En.g, unlock, EV.dat, Cn.d, ixD, cmpD, truth, evPs, evAs, evEs, evO, biD, kp, EV.keep, chk, chg, setF, appF, putV_v, putV_l, ly_no, ly_val, ly_fn, ly_clo, retV, getV, endF, outs, binD, unD, argM, argV, argE, callM, apart, back, evT_nm, evT_tp, evTs_nil, evTs_cons, Fl.unl, lenD, items, someI, slD, isNone, tyD, evI, rangeD_1, eqD, mem_strs, lenOk_0, lenOk_of, eqOk_int, eqOk_str, eqOk_bool, eqv_int, eqv_str, eqv_bool, h]
theorem slD_run {G : Gm} {s0 s3 : Sl} {xs : List D} {a : Nat} : evE G slD2 [s0, .val (.tuple xs), .val (.int a), s3] = some (.ok (.val (.tuple (xs.drop a))) [s0, .val (.tuple xs), .val (.int a), s3]) := by
  have h : cutL xs (some (a : Int)) none = xs.drop a := cutL_drop
  unfold slD2
  simp -implicitDefEqProofs [startE, evSs, evS, flow, evB, pk, lk, evE, peek, unl, M.bnd, M.ret, of_some, of_none, M.fail, En.g, unlock, EV.dat, Cn.d, ixD, cmpD, truth, evPs, evAs, evEs, evO, biD, kp, EV.keep, chk, chg, setF, appF, putV_v, putV_l, ly_no, ly_val, ly_fn, ly_clo, retV, getV, endF, outs, binD, unD, argM, argV, argE, callM, apart, back, evT_nm, evT_tp, evTs_nil, evTs_cons, Fl.unl, lenD, items, someI, slD, isNone, tyD, evI, rangeD_1, eqD, mem_strs, lenOk_0, lenOk_of, eqOk_int, eqOk_str, eqOk_bool, eqv_int, eqv_str, eqv_bool, h]
def tupB : CE := .tup (.cons false (.call f__law_bent (.cons false (.var 0) (.cons false (.ix (.var 1) (.var 2)) .nil))) .nil)
def bentGo : CE := .bin .add (.bin .add slA tupB) slB
def bl1 : CE := .bin .add slA slB
def bl4 : CE := .bin .add (.bin .add slA slC) slD2
def bl5 : CE := .bin .add (.var 1) (.tup (.cons false (.cst (.int (0))) .nil))
def bl6 : CE := .bin .add (.var 1) (.tup (.cons false (.tup .nil) .nil))
def bentLst : CS := .asg (.nm 3) (.lst (.cons false bl1 (.cons false (.rev (.var 1)) (.cons false (.bi .list (.cons false (.var 1) .nil)) (.cons false bl4 (.cons false bl5 (.cons false bl6 .nil)))))))
def bentB2 : CSs := .cons (.asg (.nm 2) (.call f__law_below (.cons false (.var 0) (.cons false (.bin .add (.bi .len (.cons false (.var 1) .nil)) (.cst (.int (1)))) .nil)))) (.cons bentLst (.cons (.ret (.call f__law_one (.cons false (.var 0) (.cons false (.bin .add (.var 3) (.lst (.cons false (.cst .non) (.cons false (.cst (.int (0))) (.cons false (.cst (.str "a")) .nil))))) .nil)))) .nil))
theorem bent_code : c__law_bent = .cons (.iff (.and (.tv (.isi (.var 1) .tuple)) (.and (.tv (.cmp .ne (.var 1) (.tup .nil))) (.tv (.cmp .gt (.call f__law_below (.cons false (.var 0) (.cons false (.cst (.int (5))) .nil))) (.cst (.int (0))))))) (.cons (.asg (.nm 2) (.call f__law_below (.cons false (.var 0) (.cons false (.bi .len (.cons false (.var 1) .nil)) .nil)))) (.cons (.ret bentGo) .nil)) .nil)
  (.cons (.iff (.tv (.isi (.var 1) .tuple)) bentB2 .nil)
  (tl (tl c__law_bent))) := rfl
theorem bent_tl : tl (tl c__law_bent) = .cons (hd (tl (tl c__law_bent))) (.cons (.ret (.call f__law_one (.cons false (.var 0) (.cons false (.lst (.cons false (.cst .non) (.cons false (.cst (.int (0))) (.cons false (.cst (.str "")) (.cons false (.cst (.str "a")) (.cons false (.cst (.str "A")) (.cons false (.tup .nil) (.cons false (.lst .nil) (.cons false .emp (.cons false (.tup (.cons false (.var 1) .nil)) (.cons false (.lst (.cons false (.cst (.str "a")) .nil)) .nil))))))))))) .nil)))) .nil) := rfl
def bentL (xs : List D) (a : Nat) : List D := [.tuple (xs.take a ++ xs.drop (a + 1)), .tuple xs.reverse, .list xs, .tuple (xs.take a ++ xs.take 1 ++ xs.drop a), .tuple (xs ++ [.int 0]), .tuple (xs ++ [.tuple []])]
theorem bentLst_run {G : Gm} {s0 s3 : Sl} {xs : List D} {a : Nat} (hl : xs.length ≤ 100000) (h3 : s3.ly = false) : evS G bentLst [s0, .val (.tuple xs), .val (.int a), s3] = some (.nx [s0, .val (.tuple xs), .val (.int a), .own (bentL xs a)]) := by
  have q1 : evE G bl1 _ = _ := add_tt (fun _ => rfl) (fun _ => rfl) (slA_run (G := G) (s0 := s0) (s3 := s3) (xs := xs) (a := a)) slB_run (by rw [List.length_take, List.length_drop]; omega)
  have q4 : evE G bl4 _ = _ := add_tt (fun _ => rfl) (fun _ => rfl) (add_tt (fun _ => rfl) (fun _ => rfl) (slA_run (G := G) (s0 := s0) (s3 := s3) (xs := xs) (a := a)) slC_run (by rw [List.length_take, List.length_take]; omega)) slD_run (by rw [List.length_append, List.length_take, List.length_take, List.length_drop]; omega)
  have hz : lenOk (xs.length + 1) = true := lenOk_of (by omega)
  have q5 : evE G bl5 [s0, .val (.tuple xs), .val (.int a), s3] = some (.ok (.val (.tuple (xs ++ [.int 0]))) [s0, .val (.tuple xs), .val (.int a), s3]) := by
    unfold bl5
    simp -implicitDefEqProofs [startE, evSs, evS, flow, evB, pk, lk, evE, peek, unl, M.bnd, M.ret, of_some, of_none, M.fail, En.g, unlock, EV.dat, Cn.d, ixD, cmpD, truth, evPs, evAs, evEs, evO, biD, kp, EV.keep, chk, chg, setF, appF, putV_v, putV_l, ly_no, ly_val, ly_fn, ly_clo, retV, getV, endF, outs, binD, unD, argM, argV, argE, callM, apart, back, evT_nm, evT_tp, evTs_nil, evTs_cons, Fl.unl, lenD, items, someI, slD, isNone, tyD, evI, rangeD_1, eqD, mem_strs, lenOk_0, lenOk_of, eqOk_int, eqOk_str, eqOk_bool, eqv_int, eqv_str, eqv_bool, hz]
  have q6 : evE G bl6 [s0, .val (.tuple xs), .val (.int a), s3] = some (.ok (.val (.tuple (xs ++ [.tuple []]))) [s0, .val (.tuple xs), .val (.int a), s3]) := by
    unfold bl6
    simp -implicitDefEqProofs [startE, evSs, evS, flow, evB, pk, lk, evE, peek, unl, M.bnd, M.ret, of_some, of_none, M.fail, En.g, unlock, EV.dat, Cn.d, ixD, cmpD, truth, evPs, evAs, evEs, evO, biD, kp, EV.keep, chk, chg, setF, appF, putV_v, putV_l, ly_no, ly_val, ly_fn, ly_clo, retV, getV, endF, outs, binD, unD, argM, argV, argE, callM, apart, back, evT_nm, evT_tp, evTs_nil, evTs_cons, Fl.unl, lenD, items, someI, slD, isNone, tyD, evI, rangeD_1, eqD, mem_strs, lenOk_0, lenOk_of, eqOk_int, eqOk_str, eqOk_bool, eqv_int, eqv_str, eqv_bool, hz]
  unfold bentLst bentL
  simp -implicitDefEqProofs [startE, evSs, evS, flow, evB, pk, lk, evE, peek, unl, M.bnd, M.ret, of_some, of_none, M.fail, En.g, unlock, EV.dat, Cn.d, ixD, cmpD, truth, evPs, evAs, evEs, evO, biD, kp, EV.keep, chk, chg, setF, appF, putV_v, putV_l, ly_no, ly_val, ly_fn, ly_clo, retV, getV, endF, outs, binD, unD, argM, argV, argE, callM, apart, back, evT_nm, evT_tp, evTs_nil, evTs_cons, Fl.unl, lenD, items, someI, slD, isNone, tyD, evI, rangeD_1, eqD, mem_strs, lenOk_0, lenOk_of, eqOk_int, eqOk_str, eqOk_bool, eqv_int, eqv_str, eqv_bool, q1, q4, q5, q6, revD, h3]
theorem str_run {G : Gm} (O : OneS G) {l : List D} {s : Str} (hp : PoolV l) : ∃ y l', wt y ≤ 5 ∧ PoolV l' ∧ endF 2 (evSs G c__law_bent (startE 4 [.lent l, .val (.str s)])) = some (.ok (.val y) [.lent l', .no]) := by
  obtain ⟨y, l', hy, hp', ho⟩ := O l [.none, .int 0, .str "", .str "a", .str "A", .tuple [], .list [], .dict [], .tuple [.str s], .list [.str "a"]] (.own [.none, .int 0, .str "", .str "a", .str "A", .tuple [], .list [], .dict [], .tuple [.str s], .list [.str "a"]]) hp (.inr (.inr (.inl rfl))) (by simp) (by simp)
  refine ⟨y, l', ?_, hp', ?_⟩
  · simp only [List.mem_cons, List.not_mem_nil, or_false] at hy
    rcases hy with rfl | rfl | rfl | rfl | rfl | rfl | rfl | rfl | rfl | rfl <;> simp [wt, wtL]
  · rw [bent_code, bent_tl]
    have hi : (hd (tl (tl c__law_bent))) = .iff (.tv (.isi (.var 1) .int)) (fb (hd (tl (tl c__law_bent)))) .nil := rfl
    rw [hi]
    simp -implicitDefEqProofs [startE, evSs, evS, flow, evB, pk, lk, evE, peek, unl, M.bnd, M.ret, of_some, of_none, M.fail, En.g, unlock, EV.dat, Cn.d, ixD, cmpD, truth, evPs, evAs, evEs, evO, biD, kp, EV.keep, chk, chg, setF, appF, putV_v, putV_l, ly_no, ly_val, ly_fn, ly_clo, retV, getV, endF, outs, binD, unD, argM, argV, argE, callM, apart, back, evT_nm, evT_tp, evTs_nil, evTs_cons, Fl.unl, lenD, items, someI, slD, isNone, tyD, evI, rangeD_1, eqD, mem_strs, lenOk_0, lenOk_of, eqOk_int, eqOk_str, eqOk_bool, eqv_int, eqv_str, eqv_bool, ho, outS]
/-- a tuple bent itself -/
theorem b2_run {G : Gm} (B : BelowS G) (O : OneS G) {l1 xs : List D} (hp1 : PoolV l1) (hw : wtL xs ≤ 10000) : ∃ y l' v2 v3, wt y ≤ 2 * wtL xs + 4 ∧ PoolV l' ∧ evSs G bentB2 [.lent l1, .val (.tuple xs), .no, .no] = some (.rt (.val y) [.lent l', .val (.tuple xs), v2, v3]) := by
  have hl := wtL_len xs
  obtain ⟨r, l2, r0, r1, hp2, hb⟩ := B l1 (xs.length + 1) hp1 (by omega) (by omega)
  obtain ⟨a, rfl⟩ : ∃ a : Nat, r = (a : Int) := ⟨r.toNat, by omega⟩
  obtain ⟨y, l3, hy, hp3, ho⟩ := O l2 (bentL xs a ++ [.none, .int 0, .str "a"]) (.own (bentL xs a ++ [.none, .int 0, .str "a"])) hp2 (.inr (.inr (.inl rfl))) (by simp [bentL]) (by simp [bentL])
  have hL := bentLst_run (G := G) (s0 := .lent l2) (s3 := .no) (xs := xs) (a := a) (by omega) rfl
  have hn : lenOk ((bentL xs a).length + 3) = true := lenOk_of (by simp [bentL])
  refine ⟨y, l3, .val (.int a), .own (bentL xs a), ?_, hp3, ?_⟩
  · have t1 := wtL_take (xs := xs) (k := a)
    have t2 := wtL_take (xs := xs) (k := 1)
    have t3 : wtL (xs.drop (a + 1)) ≤ wtL (xs.drop a) := by
      rw [← List.drop_drop]
      have := wtL_take (xs := xs.drop a) (k := 1)
      omega
    simp only [bentL, List.mem_append, List.mem_cons, List.not_mem_nil, or_false] at hy
    rcases hy with (rfl | rfl | rfl | rfl | rfl | rfl) | (rfl | rfl | rfl)
    all_goals simp only [wt, wtL_app, wtL_rev, wtL]
    all_goals omega
  · unfold bentB2
    simp -implicitDefEqProofs [startE, evSs, evS, flow, evB, pk, lk, evE, peek, unl, M.bnd, M.ret, of_some, of_none, M.fail, En.g, unlock, EV.dat, Cn.d, ixD, cmpD, truth, evPs, evAs, evEs, evO, biD, kp, EV.keep, chk, chg, setF, appF, putV_v, putV_l, ly_no, ly_val, ly_fn, ly_clo, retV, getV, endF, outs, binD, unD, argM, argV, argE, callM, apart, back, evT_nm, evT_tp, evTs_nil, evTs_cons, Fl.unl, lenD, items, someI, slD, isNone, tyD, evI, rangeD_1, eqD, mem_strs, lenOk_0, lenOk_of, eqOk_int, eqOk_str, eqOk_bool, eqv_int, eqv_str, eqv_bool, hb, hL, hn, ho, outS]
theorem tup_run {G : Gm} (B : BelowS G) (O : OneS G) {l xs : List D} (hp : PoolV l) (hw : wtL xs ≤ 10000) (hc : xs = [] ∨ ∃ l1, PoolV l1 ∧ G.call f__law_below [.lent l, .val (.int 5)] = some (.ok (.val (.int 0)) [.lent l1, .no])) :
    ∃ y l', wt y ≤ 2 * wtL xs + 4 ∧ PoolV l' ∧ endF 2 (evSs G c__law_bent (startE 4 [.lent l, .val (.tuple xs)])) = some (.ok (.val y) [.lent l', .no]) := by
  rw [bent_code]
  rcases hc with rfl | ⟨l1, hp1, hb⟩
  · obtain ⟨y, l', v2, v3, h1, h2, h3⟩ := b2_run B O hp hw
    refine ⟨y, l', h1, h2, ?_⟩
    simp -implicitDefEqProofs [startE, evSs, evS, flow, evB, pk, lk, evE, peek, unl, M.bnd, M.ret, of_some, of_none, M.fail, En.g, unlock, EV.dat, Cn.d, ixD, cmpD, truth, evPs, evAs, evEs, evO, biD, kp, EV.keep, chk, chg, setF, appF, putV_v, putV_l, ly_no, ly_val, ly_fn, ly_clo, retV, getV, endF, outs, binD, unD, argM, argV, argE, callM, apart, back, evT_nm, evT_tp, evTs_nil, evTs_cons, Fl.unl, lenD, items, someI, slD, isNone, tyD, evI, rangeD_1, eqD, mem_strs, lenOk_0, lenOk_of, eqOk_int, eqOk_str, eqOk_bool, eqv_int, eqv_str, eqv_bool, h3]
  · obtain ⟨y, l', v2, v3, h1, h2, h3⟩ := b2_run B O hp1 hw
    cases xs with
    | nil =>
      obtain ⟨y, l', v2, v3, h1, h2, h3⟩ := b2_run B O hp hw
      refine ⟨y, l', h1, h2, ?_⟩
      simp -implicitDefEqProofs [startE, evSs, evS, flow, evB, pk, lk, evE, peek, unl, M.bnd, M.ret, of_some, of_none, M.fail, En.g, unlock, EV.dat, Cn.d, ixD, cmpD, truth, evPs, evAs, evEs, evO, biD, kp, EV.keep, chk, chg, setF, appF, putV_v, putV_l, ly_no, ly_val, ly_fn, ly_clo, retV, getV, endF, outs, binD, unD, argM, argV, argE, callM, apart, back, evT_nm, evT_tp, evTs_nil, evTs_cons, Fl.unl, lenD, items, someI, slD, isNone, tyD, evI, rangeD_1, eqD, mem_strs, lenOk_0, lenOk_of, eqOk_int, eqOk_str, eqOk_bool, eqv_int, eqv_str, eqv_bool, h3]
    | cons x r =>
      refine ⟨y, l', h1, h2, ?_⟩
      simp -implicitDefEqProofs [startE, evSs, evS, flow, evB, pk, lk, evE, peek, unl, M.bnd, M.ret, of_some, of_none, M.fail, En.g, unlock, EV.dat, Cn.d, ixD, cmpD, truth, evPs, evAs, evEs, evO, biD, kp, EV.keep, chk, chg, setF, appF, putV_v, putV_l, ly_no, ly_val, ly_fn, ly_clo, retV, getV, endF, outs, binD, unD, argM, argV, argE, callM, apart, back, evT_nm, evT_tp, evTs_nil, evTs_cons, Fl.unl, lenD, items, someI, slD, isNone, tyD, evI, rangeD_1, eqD, mem_strs, lenOk_0, lenOk_of, eqOk_int, eqOk_str, eqOk_bool, eqv_int, eqv_str, eqv_bool, hb, h3]
def BentS (G : Gm) (k : Nat) : Prop := ∀ l x, PoolV l → pur x = true → dp x ≤ k → wt x ≤ 10000 → ∃ y l', wt y ≤ 2 * wt x + 4 ∧ PoolV l' ∧ G.call f__law_bent [.lent l, .val x] = some (.ok (.val y) [.lent l', .no])
theorem bent_step {G : Gm} {k : Nat} (B : BelowS G) (O : OneS G) (R : ∀ k', k = k' + 1 → BentS G k') {l : List D} {x : D} (hp : PoolV l) (px : pur x = true) (dx : dp x ≤ k) (wx : wt x ≤ 10000) :
    ∃ y l', wt y ≤ 2 * wt x + 4 ∧ PoolV l' ∧ endF 2 (evSs G c__law_bent (startE 4 [.lent l, .val x])) = some (.ok (.val y) [.lent l', .no]) := by
  cases x with
  | str s =>
    obtain ⟨y, l', h1, h2, h3⟩ := str_run O (s := s) hp
    exact ⟨y, l', by have := wt_pos (.str s); omega, h2, h3⟩
  | tuple xs =>
    rw [wt] at wx
    cases xs with
    | nil =>
      obtain ⟨y, l', h1, h2, h3⟩ := tup_run B O (xs := []) hp (by omega) (.inl rfl)
      exact ⟨y, l', by rw [wt]; omega, h2, h3⟩
    | cons h t =>
      obtain ⟨r, l1, r0, r1, hp1, hb⟩ := B l 5 hp (by decide) (by decide)
      by_cases hr : 0 < r
      · have hl := wtL_len (h :: t)
        obtain ⟨r2, l2, q0, q1, hp2, hb2⟩ := B l1 (h :: t).length hp1 (by simp) (by omega)
        obtain ⟨a, rfl⟩ : ∃ a : Nat, r2 = (a : Int) := ⟨r2.toNat, by omega⟩
        have ha : a < (h :: t).length := by omega
        obtain ⟨z, hz, hat⟩ := at_some q0 q1
        rw [pur, purL_all] at px
        rw [dp] at dx
        obtain ⟨k', rfl⟩ : ∃ k', k = k' + 1 := ⟨k - 1, by omega⟩
        obtain ⟨y, l3, w1, hp3, hbt⟩ := R k' rfl l2 z hp2 (List.all_eq_true.mp px z hz) (by have := dpL_mem hz; omega) (by have := wtL_mem hz; omega)
        generalize hxs : h :: t = xs at *
        have hab : evE G tupB [.lent l2, .val (.tuple xs), .val (.int a), .no] = some (.ok (.val (.tuple [y])) [.lent l3, .val (.tuple xs), .val (.int a), .no]) := by
          unfold tupB
          simp -implicitDefEqProofs [startE, evSs, evS, flow, evB, pk, lk, evE, peek, unl, M.bnd, M.ret, of_some, of_none, M.fail, En.g, unlock, EV.dat, Cn.d, ixD, cmpD, truth, evPs, evAs, evEs, evO, biD, kp, EV.keep, chk, chg, setF, appF, putV_v, putV_l, ly_no, ly_val, ly_fn, ly_clo, retV, getV, endF, outs, binD, unD, argM, argV, argE, callM, apart, back, evT_nm, evT_tp, evTs_nil, evTs_cons, Fl.unl, lenD, items, someI, slD, isNone, tyD, evI, rangeD_1, eqD, mem_strs, lenOk_0, lenOk_of, eqOk_int, eqOk_str, eqOk_bool, eqv_int, eqv_str, eqv_bool, hat, hbt]
        have hgo : evE G bentGo [.lent l2, .val (.tuple xs), .val (.int a), .no] = some (.ok (.val (.tuple (xs.take a ++ [y] ++ xs.drop (a + 1)))) [.lent l3, .val (.tuple xs), .val (.int a), .no]) := by
          have lA : ∀ m : M EV, lk slA m = m.bnd fun v => M.ret (v, []) := fun _ => rfl
          have lB : ∀ m : M EV, lk slB m = m.bnd fun v => M.ret (v, []) := fun _ => rfl
          have lT : ∀ m : M EV, lk tupB m = m.bnd fun v => M.ret (v, []) := fun _ => rfl
          have lG : ∀ m : M EV, lk (.bin .add slA tupB) m = m.bnd fun v => M.ret (v, []) := fun _ => rfl
          have z1 : lenOk ((xs.take a).length + [y].length) = true := lenOk_of (by rw [List.length_take, List.length_singleton]; omega)
          have z2 : lenOk ((xs.take a ++ [y]).length + (xs.drop (a + 1)).length) = true := lenOk_of (by rw [List.length_append, List.length_take, List.length_singleton, List.length_drop]; omega)
          unfold bentGo
          simp -implicitDefEqProofs only [evE, pk, lA, lB, lT, lG]
          simp -implicitDefEqProofs only [M.bnd, slA_run, slB_run, hab, M.ret, unl, EV.dat, binD, z1, z2, if_true, of_some, unlock, List.foldl]
        have ht : evSs G (.cons (.ret bentGo) .nil) _ = _ := ret_ok (a := bentGo) rfl hgo
        have hne : xs.isEmpty = false := by rw [← hxs]; rfl
        refine ⟨.tuple (xs.take a ++ [y] ++ xs.drop (a + 1)), l3, ?_, hp3, ?_⟩
        rotate_left
        · rw [bent_code]
          generalize hq : CSs.cons (CS.ret bentGo) CSs.nil = tl3 at *
          simp -implicitDefEqProofs [startE, evSs, evS, flow, evB, pk, lk, evE, peek, unl, M.bnd, M.ret, of_some, of_none, M.fail, En.g, unlock, EV.dat, Cn.d, ixD, cmpD, truth, evPs, evAs, evEs, evO, biD, kp, EV.keep, chk, chg, setF, appF, putV_v, putV_l, ly_no, ly_val, ly_fn, ly_clo, retV, getV, endF, outs, binD, unD, argM, argV, argE, callM, apart, back, evT_nm, evT_tp, evTs_nil, evTs_cons, Fl.unl, lenD, items, someI, slD, isNone, tyD, evI, rangeD_1, eqD, mem_strs, lenOk_0, lenOk_of, eqOk_int, eqOk_str, eqOk_bool, eqv_int, eqv_str, eqv_bool, hb, hr, hb2, ht, hne]
        · rw [wt, wt, wtL_app, wtL_app, wtL, wtL]
          have t1 := wtL_take (xs := xs) (k := a)
          have t3 : wtL (xs.drop (a + 1)) + wt z = wtL (xs.drop a) := by
            have e := at_nat (xs := xs) (a := a)
            rw [hat, List.getElem?_eq_getElem ha] at e
            cases e
            rw [List.drop_eq_getElem_cons ha, wtL]
            omega
          omega
      · have : r = 0 := by omega
        subst this
        obtain ⟨y, l', h1, h2, h3⟩ := tup_run B O (xs := h :: t) hp (by omega) (.inr ⟨l1, hp1, hb⟩)
        exact ⟨y, l', by rw [wt]; omega, h2, h3⟩
  | _ => cases px
theorem bent_ok {n : Nat} : ∀ k, BentS (gmOf dat.con (fdOf dat.glb 60 dat.defs) (n + 3 + k)) k
  | 0 => fun l x hp px dx wx => by
    obtain ⟨y, l', h1, h2, h3⟩ := bent_step (k := 0) (below_ok (n + 1)) (one_ok (n := n)) (fun k' e => by omega) hp px dx wx
    exact ⟨y, l', h1, h2, by rw [gcall d__law_bent rfl]; exact h3⟩
  | k + 1 => fun l x hp px dx wx => by
    have hB : BelowS (gmOf dat.con (fdOf dat.glb 60 dat.defs) (n + 3 + k)) := by
      rw [show n + 3 + k = (n + 2 + k) + 1 by omega]
      exact below_ok _
    have hO : OneS (gmOf dat.con (fdOf dat.glb 60 dat.defs) (n + 3 + k)) := by
      rw [show n + 3 + k = (n + 1 + k) + 2 by omega]
      exact one_ok
    obtain ⟨y, l', h1, h2, h3⟩ := bent_step hB hO (fun k' e => by cases e; exact bent_ok k) hp px dx wx
    exact ⟨y, l', h1, h2, by rw [show n + 3 + (k + 1) = (n + 3 + k) + 1 by omega, gcall d__law_bent rfl]; exact h3⟩
end K01
end

section
set_option maxRecDepth 100000
set_option maxHeartbeats 2000000
namespace K01
open Mi PySem L2
def IsSenS (G : Gm) : Prop := ∀ as x, AtOk as → wt x ≤ 100000 → G.call f_is_sentence [.val (tS as), .val x] = some (.ok (.val (.bool (senA as x 0))) [.no, .no])
theorem issen_ok {n : Nat} : IsSenS (gmOf dat.con (fdOf dat.glb 60 dat.defs) (n + 7)) := fun as x ha hx => by
  have h1 := check_ok (n := n) as ha
  have h2 : (gmOf dat.con (fdOf dat.glb 60 dat.defs) (n + 6)).call f_is_sentence_by [.val (tS as), .val x] = _ := sen_ok (n := n + 3) as x hx
  rw [gcall d_is_sentence rfl]
  simp -implicitDefEqProofs [startE, evSs, evS, flow, evB, pk, lk, evE, peek, unl, M.bnd, M.ret, of_some, of_none, M.fail, En.g, unlock, EV.dat, Cn.d, ixD, cmpD, truth, evPs, evAs, evEs, evO, biD, kp, EV.keep, chk, chg, setF, appF, putV_v, putV_l, ly_no, ly_val, ly_fn, ly_clo, retV, getV, endF, outs, binD, unD, argM, argV, argE, callM, apart, back, evT_nm, evT_tp, evTs_nil, evTs_cons, Fl.unl, lenD, items, someI, slD, isNone, tyD, evI, rangeD_1, eqD, mem_strs, lenOk_0, lenOk_of, eqOk_int, eqOk_str, eqOk_bool, eqv_int, eqv_str, eqv_bool, c_is_sentence, h1, h2]
theorem perm1 {α : Type} {x : α} : permute [0] [x] = some [x] := rfl
theorem perm2 {α : Type} {x y : α} : permute [1, 0] [x, y] = some [y, x] := rfl
theorem cmp_e {G : Gm} {op : COp} {a b : CE} {x y : EV} {c : Bool} {e : En} (la : ∀ m : M EV, lk a m = m.bnd fun v => M.ret (v, [])) (lb : ∀ m : M EV, lk b m = m.bnd fun v => M.ret (v, [])) (ha : evE G a e = some (.ok x e)) (hb : evE G b e = some (.ok y e)) (hc : cmpD op x.dat y.dat = some c) : evE G (.cmp op a b) e = some (.ok (.val (.bool c)) e) := by
  simp -implicitDefEqProofs only [evE, pk, la, lb]
  simp -implicitDefEqProofs only [M.bnd, ha, hb, M.ret, unl, hc, Option.map_some, of_some, unlock, List.foldl]
def rS0 : CS := (.asg (.nm 1) (.call f__law_atoms (.cons false (.var 0) (.cons false (.cst (.int (4))) .nil))))
def rS1 : CS := (.asg (.nm 2) (.bi .tuple (.cons false (.call f__law_worlds (.cons false (.var 1) .nil)) .nil)))
def rS2 : CS := (.iff (.or (.not (.tv (.call f__law_same (.cons false (.lst (.cons false (.call f_worlds (.cons false (.var 1) .nil)) (.cons false (.callk f_worlds [0] .nil (.cons false (.var 1) .nil)) .nil))) (.cons false (.lst (.cons false (.var 2) (.cons false (.var 2) .nil))) .nil))))) (.tv (.cmp .ne (.bi .list (.cons false (.var 2) .nil)) (.bi .sorted (.cons false (.var 2) .nil))))) (.cons (.ret (.cst (.bl false))) .nil) .nil)
def rB0 : CS := (.par 4 5 (.call f__law_sentence (.cons false (.var 0) (.cons false (.var 1) (.cons false (.cst (.int (6))) .nil)))) (.ix (.var 1) (.cst (.int (0)))))
def rB1 : CS := (.asg (.nm 6) (.lst (.cons false (.var 4) (.cons false (.tup (.cons false (.cst (.str "not")) (.cons false (.var 4) .nil))) (.cons false (.tup (.cons false (.cst (.str "and")) (.cons false (.var 4) (.cons false (.var 5) .nil)))) (.cons false (.tup (.cons false (.cst (.str "not")) .nil)) (.cons false (.tup (.cons false (.cst (.str "not")) (.cons false (.var 4) (.cons false (.var 5) .nil)))) (.cons false (.tup (.cons false (.cst (.str "and")) (.cons false (.var 4) .nil))) (.cons false (.tup (.cons false (.cst (.str "or")) (.cons false (.var 4) (.cons false (.var 5) (.cons false (.var 5) .nil))))) (.cons false (.tup (.cons false (.cst (.str "if")) (.cons false (.var 5) .nil))) (.cons false (.tup (.cons false (.cst (.str "nor")) (.cons false (.var 5) (.cons false (.var 5) .nil)))) (.cons false (.tup (.cons false (.cst (.str "Not")) (.cons false (.var 5) .nil))) (.cons false (.tup (.cons false (.var 4) .nil)) .nil)))))))))))))
def rB2 : CS := (.asg (.nm 6) (.bin .add (.var 6) (.lst (.cons false (.tup (.cons false (.cst (.str "not")) (.cons false (.bin .mul (.cst (.str "q")) (.cst (.int (9)))) .nil))) (.cons false (.tup (.cons false (.cst (.str "and")) (.cons false (.var 5) (.cons false (.cst .non) .nil)))) (.cons false (.lst (.cons false (.cst (.str "not")) (.cons false (.var 5) .nil))) (.cons false (.tup (.cons false (.cst (.str "not")) (.cons false (.lst (.cons false (.var 5) .nil)) .nil))) (.cons false (.tup .nil) (.cons false (.cst .non) (.cons false (.cst (.int (0))) (.cons false (.cst (.str "")) (.cons false (.cst (.str "not")) (.cons false (.bin .mul (.cst (.str "q")) (.cst (.int (9)))) (.cons false (.tup (.cons false (.var 5) (.cons false (.var 5) .nil))) .nil))))))))))))))
def rB3 : CS := (.asg (.nm 6) (.bin .add (.var 6) (.lst (.cons false (.tup (.cons false (.cst (.str "not")) (.cons false (.tup (.cons false (.cst (.str "and")) (.cons false (.var 5) (.cons false (.tup .nil) .nil)))) .nil))) (.cons false (.tup (.cons false (.tup (.cons false (.cst (.str "not")) .nil)) (.cons false (.var 5) .nil))) (.cons false (.tup (.cons false (.cst .non) (.cons false (.var 5) .nil))) (.cons false (.tup (.cons false (.cst (.str "if")) (.cons false (.var 5) (.cons false (.cst (.int (0))) .nil)))) (.cons false (.cst (.bl true)) (.cons false (.tup (.cons false (.cst (.str "or")) (.cons false (.tup (.cons false (.var 5) .nil)) (.cons false (.var 5) .nil)))) (.cons false (.call f__law_bent (.cons false (.var 0) (.cons false (.var 4) .nil))) (.cons false (.call f__law_bent (.cons false (.var 0) (.cons false (.tup (.cons false (.cst (.str "if")) (.cons false (.var 4) (.cons false (.var 5) .nil)))) .nil))) .nil)))))))))))
def rB4 : CS := (.asg (.nm 6) (.bin .add (.var 6) (.lst (.cons false (.call f__law_bent (.cons false (.var 0) (.cons false (.tup (.cons false (.cst (.str "and")) (.cons false (.tup (.cons false (.cst (.str "not")) (.cons false (.var 5) .nil))) (.cons false (.var 4) .nil)))) .nil))) .nil))))
def rEach : CSs := (.cons (.asg (.nm 2) (.call f__law_is_sentence (.cons false (.var 1) (.cons false (.var 7) .nil)))) (.cons (.iff (.not (.tv (.call f__law_same (.cons false (.lst (.cons false (.call f_is_sentence (.cons false (.var 1) (.cons false (.var 7) .nil))) (.cons false (.callk f_is_sentence [1, 0] .nil (.cons false (.var 7) (.cons false (.var 1) .nil))) .nil))) (.cons false (.lst (.cons false (.var 2) (.cons false (.var 2) .nil))) .nil))))) (.cons (.ret (.cst (.bl false))) .nil) .nil) .nil))
def rB5 : CS := .forr (.nm 7) (.ex (.var 6)) rEach
def rBody : CSs := .cons rB0 (.cons rB1 (.cons rB2 (.cons rB3 (.cons rB4 (.cons rB5 .nil)))))
theorem right_code : c__law_right = .cons rS0 (.cons rS1 (.cons rS2 (.cons (.forr (.nm 3) (.rg 1 (.cons false (.cst (.int (4))) .nil)) rBody) (.cons (.ret (.cst (.bl true))) .nil)))) := rfl
/-- first part: the worlds -/
theorem r_first {G : Gm} (A : AtomsS G) (L : LwS G) (Wo : WorldsS G) (S : SameW G) {l : List D} (hp : PoolV l) : ∃ as l' v2, AtOk as ∧ PoolV l' ∧ evSs G (.cons rS0 (.cons rS1 (.cons rS2 .nil))) [.lent l, .no, .no, .no, .no, .no, .no, .no] = some (.nx [.lent l', .val (tS as), .val v2, .no, .no, .no, .no, .no]) := by
  obtain ⟨as, l', ha, hp', h1⟩ := A l hp
  have h2 := L as ha
  have h3 := Wo as ha
  have h4 := S as ha
  have h5 := sorted_ws ha
  have h6 := ne_ws ha
  have q0 : evS G rS0 [.lent l, .no, .no, .no, .no, .no, .no, .no] = some (.nx [.lent l', .val (tS as), .no, .no, .no, .no, .no, .no]) := by
    unfold rS0
    simp -implicitDefEqProofs [startE, evSs, evS, flow, evB, pk, lk, evE, peek, unl, M.bnd, M.ret, of_some, of_none, M.fail, En.g, unlock, EV.dat, Cn.d, ixD, cmpD, truth, evPs, evAs, evEs, evO, biD, kp, EV.keep, chk, chg, setF, appF, putV_v, putV_l, ly_no, ly_val, ly_fn, ly_clo, retV, getV, endF, outs, binD, unD, argM, argV, argE, callM, apart, back, evT_nm, evT_tp, evTs_nil, evTs_cons, Fl.unl, lenD, items, someI, slD, isNone, tyD, evI, rangeD_1, eqD, mem_strs, lenOk_0, lenOk_of, eqOk_int, eqOk_str, eqOk_bool, eqv_int, eqv_str, eqv_bool, h1]
  have q1 : evS G rS1 [.lent l', .val (tS as), .no, .no, .no, .no, .no, .no] = some (.nx [.lent l', .val (tS as), .val (.tuple (WS as.length)), .no, .no, .no, .no, .no]) := by
    unfold rS1
    simp -implicitDefEqProofs [startE, evSs, evS, flow, evB, pk, lk, evE, peek, unl, M.bnd, M.ret, of_some, of_none, M.fail, En.g, unlock, EV.dat, Cn.d, ixD, cmpD, truth, evPs, evAs, evEs, evO, biD, kp, EV.keep, chk, chg, setF, appF, putV_v, putV_l, ly_no, ly_val, ly_fn, ly_clo, retV, getV, endF, outs, binD, unD, argM, argV, argE, callM, apart, back, evT_nm, evT_tp, evTs_nil, evTs_cons, Fl.unl, lenD, items, someI, slD, isNone, tyD, evI, rangeD_1, eqD, mem_strs, lenOk_0, lenOk_of, eqOk_int, eqOk_str, eqOk_bool, eqv_int, eqv_str, eqv_bool, h2]
  have q2 : evS G rS2 [.lent l', .val (tS as), .val (.tuple (WS as.length)), .no, .no, .no, .no, .no] = some (.nx [.lent l', .val (tS as), .val (.tuple (WS as.length)), .no, .no, .no, .no, .no]) := by
    have s1 : evE G (.bi .sorted (.cons false (.var 2) .nil)) [.lent l', .val (tS as), .val (.tuple (WS as.length)), .no, .no, .no, .no, .no] = some (.ok (.fr (WS as.length)) [.lent l', .val (tS as), .val (.tuple (WS as.length)), .no, .no, .no, .no, .no]) := by
      rw [evE]
      simp -implicitDefEqProofs only [evPs, lk, peek, En.g, List.getD_cons_succ, List.getD_cons_zero, M.bnd, M.ret, List.append_nil, EV.dat, h5, of_some, unl, unlock, List.foldl]
    have s2 : evE G (.bi .list (.cons false (.var 2) .nil)) [.lent l', .val (tS as), .val (.tuple (WS as.length)), .no, .no, .no, .no, .no] = some (.ok (.fr (WS as.length)) [.lent l', .val (tS as), .val (.tuple (WS as.length)), .no, .no, .no, .no, .no]) := by
      simp -implicitDefEqProofs [startE, evSs, evS, flow, evB, pk, lk, evE, peek, unl, M.bnd, M.ret, of_some, of_none, M.fail, En.g, unlock, EV.dat, Cn.d, ixD, cmpD, truth, evPs, evAs, evEs, evO, biD, kp, EV.keep, chk, chg, setF, appF, putV_v, putV_l, ly_no, ly_val, ly_fn, ly_clo, retV, getV, endF, outs, binD, unD, argM, argV, argE, callM, apart, back, evT_nm, evT_tp, evTs_nil, evTs_cons, Fl.unl, lenD, items, someI, slD, isNone, tyD, evI, rangeD_1, eqD, mem_strs, lenOk_0, lenOk_of, eqOk_int, eqOk_str, eqOk_bool, eqv_int, eqv_str, eqv_bool]
    have s3 : evB G (.tv (.cmp .ne (.bi .list (.cons false (.var 2) .nil)) (.bi .sorted (.cons false (.var 2) .nil)))) [.lent l', .val (tS as), .val (.tuple (WS as.length)), .no, .no, .no, .no, .no] = some (.ok false [.lent l', .val (tS as), .val (.tuple (WS as.length)), .no, .no, .no, .no, .no]) := by
      have hc := cmp_e (op := .ne) (fun _ => rfl) (fun _ => rfl) s2 s1 h6
      simp -implicitDefEqProofs only [evB, pk]
      rw [show ∀ m : M EV, lk (.cmp .ne (.bi .list (.cons false (.var 2) .nil)) (.bi .sorted (.cons false (.var 2) .nil))) m = m.bnd fun v => M.ret (v, []) from fun _ => rfl]
      simp -implicitDefEqProofs only [M.bnd, hc, M.ret, unl, EV.dat, of_some, unlock, List.foldl, truth]
    have s4 : evB G (.not (.tv (.call f__law_same (.cons false (.lst (.cons false (.call f_worlds (.cons false (.var 1) .nil)) (.cons false (.callk f_worlds [0] .nil (.cons false (.var 1) .nil)) .nil))) (.cons false (.lst (.cons false (.var 2) (.cons false (.var 2) .nil))) .nil))))) [.lent l', .val (tS as), .val (.tuple (WS as.length)), .no, .no, .no, .no, .no] = some (.ok false [.lent l', .val (tS as), .val (.tuple (WS as.length)), .no, .no, .no, .no, .no]) := by
      simp -implicitDefEqProofs [startE, evSs, evS, flow, evB, pk, lk, evE, peek, unl, M.bnd, M.ret, of_some, of_none, M.fail, En.g, unlock, EV.dat, Cn.d, ixD, cmpD, truth, evPs, evAs, evEs, evO, biD, kp, EV.keep, chk, chg, setF, appF, putV_v, putV_l, ly_no, ly_val, ly_fn, ly_clo, retV, getV, endF, outs, binD, unD, argM, argV, argE, callM, apart, back, evT_nm, evT_tp, evTs_nil, evTs_cons, Fl.unl, lenD, items, someI, slD, isNone, tyD, evI, rangeD_1, eqD, mem_strs, lenOk_0, lenOk_of, eqOk_int, eqOk_str, eqOk_bool, eqv_int, eqv_str, eqv_bool, h3, h4, callK, perm1]
    unfold rS2
    simp -implicitDefEqProofs only [evS, flow]
    rw [evB]
    simp -implicitDefEqProofs only [M.bnd, s4, s3, M.ret, Bool.false_eq_true, if_false]
    simp only [evSs]
  refine ⟨as, l', .tuple (WS as.length), ha, hp', ?_⟩
  simp -implicitDefEqProofs only [evSs, q0, q1, q2]
end K01
end

section
set_option maxRecDepth 100000
set_option maxHeartbeats 2000000
namespace K01
open Mi PySem L2
def q9 : Str := repS "q" 9
def bL1 (x a : D) : List D := [x, .tuple [.str "not", x], .tuple [.str "and", x, a], .tuple [.str "not"], .tuple [.str "not", x, a], .tuple [.str "and", x], .tuple [.str "or", x, a, a], .tuple [.str "if", a], .tuple [.str "nor", a, a], .tuple [.str "Not", a], .tuple [x]]
def bL2 (a : D) : List D := [.tuple [.str "not", .str q9], .tuple [.str "and", a, .none], .list [.str "not", a], .tuple [.str "not", .list [a]], .tuple [], .none, .int 0, .str "", .str "not", .str q9, .tuple [a, a]]
def bL3 (a y z : D) : List D := [.tuple [.str "not", .tuple [.str "and", a, .tuple []]], .tuple [.tuple [.str "not"], a], .tuple [.none, a], .tuple [.str "if", a, .int 0], .bool true, .tuple [.str "or", .tuple [a], a], y, z]
theorem rB0_run {G : Gm} (S : SentS G) {l : List D} {as : List Str} {s2 s3 v4 v5 v6 v7 : Sl} (hp : PoolV l) (ha : AtOk as) (h4 : v4.ly = false) (h5 : v5.ly = false) : ∃ x s l', Good 6 x ∧ PoolV l' ∧ evS G rB0 [.lent l, .val (tS as), s2, s3, v4, v5, v6, v7] = some (.nx [.lent l', .val (tS as), s2, s3, .val x, .val (.str s), v6, v7]) := by
  obtain ⟨x, l', g, hp', h1⟩ := S l as hp ha
  have lo := ha.lo
  cases as with
  | nil => simp at lo
  | cons s r =>
    refine ⟨x, s, l', g, hp', ?_⟩
    unfold tS at h1 ⊢
    rw [List.map_cons] at h1 ⊢
    have hat : L2.atI (PyData.str s :: r.map PyData.str) 0 = some (.str s) := ix0
    unfold rB0
    simp -implicitDefEqProofs [startE, evSs, evS, flow, evB, pk, lk, evE, peek, unl, M.bnd, M.ret, of_some, of_none, M.fail, En.g, unlock, EV.dat, Cn.d, ixD, cmpD, truth, evPs, evAs, evEs, evO, biD, kp, EV.keep, chk, chg, setF, appF, putV_v, putV_l, ly_no, ly_val, ly_fn, ly_clo, retV, getV, endF, outs, binD, unD, argM, argV, argE, callM, apart, back, evT_nm, evT_tp, evTs_nil, evTs_cons, Fl.unl, lenD, items, someI, slD, isNone, tyD, evI, rangeD_1, eqD, mem_strs, lenOk_0, lenOk_of, eqOk_int, eqOk_str, eqOk_bool, eqv_int, eqv_str, eqv_bool, h1, h4, h5, hat]
theorem putV_any {i : Nat} {xs : List D} {e : En} (h : (e.g i).ly = false ∨ ∃ ys, e.g i = .own ys) : putV i (.fr xs) e = some (.ok () (e.set i (.own xs))) := by
  rcases h with h | ⟨ys, h⟩
  · exact putV_l h
  · exact putV_ol h
theorem rB1_run {G : Gm} {s0 s1 s2 s3 v6 v7 : Sl} {x a : D} (h6 : v6.ly = false ∨ ∃ ys, v6 = .own ys) : evS G rB1 [s0, s1, s2, s3, .val x, .val a, v6, v7] = some (.nx [s0, s1, s2, s3, .val x, .val a, .own (bL1 x a), v7]) := by
  unfold rB1 bL1
  rcases h6 with h6 | ⟨ys, rfl⟩
  · simp -implicitDefEqProofs [startE, evSs, evS, flow, evB, pk, lk, evE, peek, unl, M.bnd, M.ret, of_some, of_none, M.fail, En.g, unlock, EV.dat, Cn.d, ixD, cmpD, truth, evPs, evAs, evEs, evO, biD, kp, EV.keep, chk, chg, setF, appF, putV_v, putV_l, ly_no, ly_val, ly_fn, ly_clo, retV, getV, endF, outs, binD, unD, argM, argV, argE, callM, apart, back, evT_nm, evT_tp, evTs_nil, evTs_cons, Fl.unl, lenD, items, someI, slD, isNone, tyD, evI, rangeD_1, eqD, mem_strs, lenOk_0, lenOk_of, eqOk_int, eqOk_str, eqOk_bool, eqv_int, eqv_str, eqv_bool, h6]
  · simp -implicitDefEqProofs [startE, evSs, evS, flow, evB, pk, lk, evE, peek, unl, M.bnd, M.ret, of_some, of_none, M.fail, En.g, unlock, EV.dat, Cn.d, ixD, cmpD, truth, evPs, evAs, evEs, evO, biD, kp, EV.keep, chk, chg, setF, appF, putV_v, putV_l, ly_no, ly_val, ly_fn, ly_clo, retV, getV, endF, outs, binD, unD, argM, argV, argE, callM, apart, back, evT_nm, evT_tp, evTs_nil, evTs_cons, Fl.unl, lenD, items, someI, slD, isNone, tyD, evI, rangeD_1, eqD, mem_strs, lenOk_0, lenOk_of, eqOk_int, eqOk_str, eqOk_bool, eqv_int, eqv_str, eqv_bool, putV_ol]
theorem rB2_run {G : Gm} {s0 s1 s2 s3 v7 : Sl} {x a : D} {L : List D} (hl : L.length ≤ 1000) : evS G rB2 [s0, s1, s2, s3, .val x, .val a, .own L, v7] = some (.nx [s0, s1, s2, s3, .val x, .val a, .own (L ++ bL2 a), v7]) := by
  have hz : lenOk (L.length + 11) = true := lenOk_of (by omega)
  have hq : (Str.ofString "q").length = 1 := by decide
  unfold rB2 bL2 q9
  simp -implicitDefEqProofs [startE, evSs, evS, flow, evB, pk, lk, evE, peek, unl, M.bnd, M.ret, of_some, of_none, M.fail, En.g, unlock, EV.dat, Cn.d, ixD, cmpD, truth, evPs, evAs, evEs, evO, biD, kp, EV.keep, chk, chg, setF, appF, putV_v, putV_l, ly_no, ly_val, ly_fn, ly_clo, retV, getV, endF, outs, binD, unD, argM, argV, argE, callM, apart, back, evT_nm, evT_tp, evTs_nil, evTs_cons, Fl.unl, lenD, items, someI, slD, isNone, tyD, evI, rangeD_1, eqD, mem_strs, lenOk_0, lenOk_of, eqOk_int, eqOk_str, eqOk_bool, eqv_int, eqv_str, eqv_bool, hz, hq, putV_ol]
theorem rB3_run {G : Gm} {l l1 l2 : List D} {s1 s2 s3 v7 : Sl} {x a y z : D} {L : List D} (hl : L.length ≤ 1000) (h1 : G.call f__law_bent [.lent l, .val x] = some (.ok (.val y) [.lent l1, .no])) (h2 : G.call f__law_bent [.lent l1, .val (.tuple [.str "if", x, a])] = some (.ok (.val z) [.lent l2, .no])) :
    evS G rB3 [.lent l, s1, s2, s3, .val x, .val a, .own L, v7] = some (.nx [.lent l2, s1, s2, s3, .val x, .val a, .own (L ++ bL3 a y z), v7]) := by
  have hz : lenOk (L.length + 8) = true := lenOk_of (by omega)
  unfold rB3 bL3
  simp -implicitDefEqProofs [startE, evSs, evS, flow, evB, pk, lk, evE, peek, unl, M.bnd, M.ret, of_some, of_none, M.fail, En.g, unlock, EV.dat, Cn.d, ixD, cmpD, truth, evPs, evAs, evEs, evO, biD, kp, EV.keep, chk, chg, setF, appF, putV_v, putV_l, ly_no, ly_val, ly_fn, ly_clo, retV, getV, endF, outs, binD, unD, argM, argV, argE, callM, apart, back, evT_nm, evT_tp, evTs_nil, evTs_cons, Fl.unl, lenD, items, someI, slD, isNone, tyD, evI, rangeD_1, eqD, mem_strs, lenOk_0, lenOk_of, eqOk_int, eqOk_str, eqOk_bool, eqv_int, eqv_str, eqv_bool, hz, h1, h2, putV_ol]
theorem rB4_run {G : Gm} {l l1 : List D} {s1 s2 s3 v7 : Sl} {x a w : D} {L : List D} (hl : L.length ≤ 1000) (h1 : G.call f__law_bent [.lent l, .val (.tuple [.str "and", .tuple [.str "not", a], x])] = some (.ok (.val w) [.lent l1, .no])) :
    evS G rB4 [.lent l, s1, s2, s3, .val x, .val a, .own L, v7] = some (.nx [.lent l1, s1, s2, s3, .val x, .val a, .own (L ++ [w]), v7]) := by
  have hz : lenOk (L.length + 1) = true := lenOk_of (by omega)
  unfold rB4
  simp -implicitDefEqProofs [startE, evSs, evS, flow, evB, pk, lk, evE, peek, unl, M.bnd, M.ret, of_some, of_none, M.fail, En.g, unlock, EV.dat, Cn.d, ixD, cmpD, truth, evPs, evAs, evEs, evO, biD, kp, EV.keep, chk, chg, setF, appF, putV_v, putV_l, ly_no, ly_val, ly_fn, ly_clo, retV, getV, endF, outs, binD, unD, argM, argV, argE, callM, apart, back, evT_nm, evT_tp, evTs_nil, evTs_cons, Fl.unl, lenD, items, someI, slD, isNone, tyD, evI, rangeD_1, eqD, mem_strs, lenOk_0, lenOk_of, eqOk_int, eqOk_str, eqOk_bool, eqv_int, eqv_str, eqv_bool, hz, h1, putV_ol]
theorem rEach_run {G : Gm} (I : IsSenS G) (L : LawSenS G) (S : SameB G) {as : List Str} (ha : AtOk as) {s0 s3 s4 s5 s6 : Sl} {v y : D} (hy : wt y ≤ 100000) :
    ∃ v', evSs G rEach [s0, .val (tS as), .val v, s3, s4, s5, s6, .val y] = some (.nx [s0, .val (tS as), .val v', s3, s4, s5, s6, .val y]) := by
  have h1 := I as y ha hy
  have h2 := L as y hy
  have h3 := S (senA as y 0)
  refine ⟨.bool (senA as y 0), ?_⟩
  unfold rEach
  simp -implicitDefEqProofs [startE, evSs, evS, flow, evB, pk, lk, evE, peek, unl, M.bnd, M.ret, of_some, of_none, M.fail, En.g, unlock, EV.dat, Cn.d, ixD, cmpD, truth, evPs, evAs, evEs, evO, biD, kp, EV.keep, chk, chg, setF, appF, putV_v, putV_l, ly_no, ly_val, ly_fn, ly_clo, retV, getV, endF, outs, binD, unD, argM, argV, argE, callM, apart, back, evT_nm, evT_tp, evTs_nil, evTs_cons, Fl.unl, lenD, items, someI, slD, isNone, tyD, evI, rangeD_1, eqD, mem_strs, lenOk_0, lenOk_of, eqOk_int, eqOk_str, eqOk_bool, eqv_int, eqv_str, eqv_bool, h1, h2, h3, callK, perm2]
theorem rB5_run {G : Gm} (I : IsSenS G) (L : LawSenS G) (S : SameB G) {as : List Str} (ha : AtOk as) {s0 s3 s4 s5 v7 : Sl} {v : D} {xs : List D} (hx : ∀ y ∈ xs, wt y ≤ 100000) (h7 : v7.ly = false) :
    ∃ v' v7', v7'.ly = false ∧ evS G rB5 [s0, .val (tS as), .val v, s3, s4, s5, .own xs, v7] = some (.nx [s0, .val (tS as), .val v', s3, s4, s5, .own xs, v7']) := by
  obtain ⟨fl, h1, h2⟩ := for_inv (tg := evT (.nm 7)) (b := evSs G rEach) (I := fun k e => ∃ (v : D) (v7 : Sl), v7.ly = false ∧ e = [s0, .val (tS as), .val v, s3, s4, s5, .lock xs, v7])
    (R := fun _ _ => False) xs 0 [s0, .val (tS as), .val v, s3, s4, s5, .lock xs, v7] ⟨v, v7, h7, rfl⟩ fun j x e hj hI => by
    obtain ⟨w, w7, q7, rfl⟩ := hI
    obtain ⟨w', q⟩ := rEach_run I L S ha (s0 := s0) (s3 := s3) (s4 := s4) (s5 := s5) (s6 := .lock xs) (v := w) (hx x (List.mem_of_getElem? hj))
    exact ⟨[s0, .val (tS as), .val w, s3, s4, s5, .lock xs, .val x], by simp -implicitDefEqProofs [startE, evSs, evS, flow, evB, pk, lk, evE, peek, unl, M.bnd, M.ret, of_some, of_none, M.fail, En.g, unlock, EV.dat, Cn.d, ixD, cmpD, truth, evPs, evAs, evEs, evO, biD, kp, EV.keep, chk, chg, setF, appF, putV_v, putV_l, ly_no, ly_val, ly_fn, ly_clo, retV, getV, endF, outs, binD, unD, argM, argV, argE, callM, apart, back, evT_nm, evT_tp, evTs_nil, evTs_cons, Fl.unl, lenD, items, someI, slD, isNone, tyD, evI, rangeD_1, eqD, mem_strs, lenOk_0, lenOk_of, eqOk_int, eqOk_str, eqOk_bool, eqv_int, eqv_str, eqv_bool, q7], _, q, .inl ⟨_, .inl rfl, w', .val x, rfl, rfl⟩⟩
  rcases h2 with ⟨e', rfl, v', v7', q7, rfl⟩ | ⟨v, e', rfl, z⟩
  · refine ⟨v', v7', q7, ?_⟩
    unfold rB5
    simp -implicitDefEqProofs [startE, evSs, evS, flow, evB, pk, lk, evE, peek, unl, M.bnd, M.ret, of_some, of_none, M.fail, En.g, unlock, EV.dat, Cn.d, ixD, cmpD, truth, evPs, evAs, evEs, evO, biD, kp, EV.keep, chk, chg, setF, appF, putV_v, putV_l, ly_no, ly_val, ly_fn, ly_clo, retV, getV, endF, outs, binD, unD, argM, argV, argE, callM, apart, back, evT_nm, evT_tp, evTs_nil, evTs_cons, Fl.unl, lenD, items, someI, slD, isNone, tyD, evI, rangeD_1, eqD, mem_strs, lenOk_0, lenOk_of, eqOk_int, eqOk_str, eqOk_bool, eqv_int, eqv_str, eqv_bool, walkD, h1]
  · exact z.elim
theorem rBody_run {G : Gm} (S : SentS G) (Bt : BentS G 8) (I : IsSenS G) (Lw : LawSenS G) (Sb : SameB G) {l : List D} {as : List Str} {s3 v4 v5 v6 v7 : Sl} {v : D} (hp : PoolV l) (ha : AtOk as) (h4 : v4.ly = false) (h5 : v5.ly = false) (h6 : v6.ly = false ∨ ∃ ys, v6 = .own ys) (h7 : v7.ly = false) :
    ∃ l' v' w4 w5 w6 w7, PoolV l' ∧ w4.ly = false ∧ w5.ly = false ∧ (w6.ly = false ∨ ∃ ys, w6 = .own ys) ∧ w7.ly = false ∧
      evSs G rBody [.lent l, .val (tS as), .val v, s3, v4, v5, v6, v7] = some (.nx [.lent l', .val (tS as), .val v', s3, w4, w5, w6, w7]) := by
  obtain ⟨x, s, l1, g, hp1, q0⟩ := rB0_run S (s2 := .val v) (s3 := s3) (v6 := v6) (v7 := v7) hp ha h4 h5
  have q1 := rB1_run (G := G) (s0 := .lent l1) (s1 := .val (tS as)) (s2 := .val v) (s3 := s3) (v7 := v7) (x := x) (a := .str s) h6
  have q2 := rB2_run (G := G) (s0 := .lent l1) (s1 := .val (tS as)) (s2 := .val v) (s3 := s3) (v7 := v7) (x := x) (a := .str s) (L := bL1 x (.str s)) (by simp [bL1])
  have w6 : wt x ≤ 190 := Nat.le_trans g.we (by decide)
  have d6 := g.de
  have p6 := g.pu
  obtain ⟨y, l2, wy, hp2, b1⟩ := Bt l1 x hp1 p6 (by omega) (by omega)
  obtain ⟨z, l3, wz, hp3, b2⟩ := Bt l2 (.tuple [.str "if", x, .str s]) hp2 (by simp [pur, purL, p6]) (by simp [dp, dpL]; omega) (by simp only [wt, wtL]; omega)
  obtain ⟨u, l4, wu, hp4, b3⟩ := Bt l3 (.tuple [.str "and", .tuple [.str "not", .str s], x]) hp3 (by simp [pur, purL, p6]) (by simp [dp, dpL]; omega) (by simp only [wt, wtL]; omega)
  have q3 := rB3_run (G := G) (s1 := .val (tS as)) (s2 := .val v) (s3 := s3) (v7 := v7) (L := bL1 x (.str s) ++ bL2 (.str s)) (by simp [bL1, bL2]) b1 b2
  have q4 := rB4_run (G := G) (s1 := .val (tS as)) (s2 := .val v) (s3 := s3) (v7 := v7) (L := bL1 x (.str s) ++ bL2 (.str s) ++ bL3 (.str s) y z) (by simp [bL1, bL2, bL3]) b3
  simp only [wt, wtL] at wz wu
  obtain ⟨v', v7', h7', q5⟩ := rB5_run I Lw Sb ha (s0 := .lent l4) (s3 := s3) (s4 := .val x) (s5 := .val (.str s)) (v := v) (xs := bL1 x (.str s) ++ bL2 (.str s) ++ bL3 (.str s) y z ++ [u]) (fun t ht => by
    simp only [bL1, bL2, bL3, List.mem_append, List.mem_cons, List.not_mem_nil, or_false] at ht
    rcases ht with (((rfl | rfl | rfl | rfl | rfl | rfl | rfl | rfl | rfl | rfl | rfl) | (rfl | rfl | rfl | rfl | rfl | rfl | rfl | rfl | rfl | rfl | rfl)) | (rfl | rfl | rfl | rfl | rfl | rfl | rfl | rfl)) | rfl
    all_goals (try simp only [wt, wtL])
    all_goals omega) h7
  refine ⟨l4, v', .val x, .val (.str s), .own (bL1 x (.str s) ++ bL2 (.str s) ++ bL3 (.str s) y z ++ [u]), v7', hp4, rfl, rfl, .inr ⟨_, rfl⟩, h7', ?_⟩
  unfold rBody
  simp -implicitDefEqProofs only [evSs, q0, q1, q2, q3, q4, q5]
def RightS (G : Gm) : Prop := ∀ l, PoolV l → ∃ l', PoolV l' ∧ G.call f__law_right [.lent l] = some (.ok (.val (.bool true)) [.lent l'])
theorem right_run {G : Gm} (A : AtomsS G) (L : LwS G) (Wo : WorldsS G) (Sw : SameW G) (S : SentS G) (Bt : BentS G 8) (I : IsSenS G) (Lw : LawSenS G) (Sb : SameB G) {l : List D} (hp : PoolV l) :
    ∃ l', PoolV l' ∧ endF 1 (evSs G c__law_right (startE 8 [.lent l])) = some (.ok (.val (.bool true)) [.lent l']) := by
  obtain ⟨as, l1, v2, ha, hp1, q⟩ := r_first A L Wo Sw hp
  obtain ⟨fl, h1, h2⟩ := for_inv (tg := evT (.nm 3)) (b := evSs G rBody) (I := fun k e => ∃ (l : List D) (v : D) (v3 v4 v5 v6 v7 : Sl), PoolV l ∧ v3.ly = false ∧ v4.ly = false ∧ v5.ly = false ∧ (v6.ly = false ∨ ∃ ys, v6 = .own ys) ∧ v7.ly = false ∧ e = [.lent l, .val (tS as), .val v, v3, v4, v5, v6, v7])
    (R := fun _ _ => False) (rangeL 0 1 4) 0 [.lent l1, .val (tS as), .val v2, .no, .no, .no, .no, .no] ⟨l1, v2, .no, .no, .no, .no, .no, hp1, rfl, rfl, rfl, .inl rfl, rfl, rfl⟩ fun j x e hj hI => by
    obtain ⟨l2, v, v3, v4, v5, v6, v7, hp2, h3, h4, h5, h6, h7, rfl⟩ := hI
    obtain ⟨l3, v', w4, w5, w6, w7, z1, z2, z3, z4, z5, z6⟩ := rBody_run S Bt I Lw Sb (s3 := .val x) (v := v) hp2 ha h4 h5 h6 h7
    exact ⟨[.lent l2, .val (tS as), .val v, .val x, v4, v5, v6, v7], by simp -implicitDefEqProofs [startE, evSs, evS, flow, evB, pk, lk, evE, peek, unl, M.bnd, M.ret, of_some, of_none, M.fail, En.g, unlock, EV.dat, Cn.d, ixD, cmpD, truth, evPs, evAs, evEs, evO, biD, kp, EV.keep, chk, chg, setF, appF, putV_v, putV_l, ly_no, ly_val, ly_fn, ly_clo, retV, getV, endF, outs, binD, unD, argM, argV, argE, callM, apart, back, evT_nm, evT_tp, evTs_nil, evTs_cons, Fl.unl, lenD, items, someI, slD, isNone, tyD, evI, rangeD_1, eqD, mem_strs, lenOk_0, lenOk_of, eqOk_int, eqOk_str, eqOk_bool, eqv_int, eqv_str, eqv_bool, h3], _, z6, .inl ⟨_, .inl rfl, l3, v', .val x, w4, w5, w6, w7, z1, rfl, z2, z3, z4, z5, rfl⟩⟩
  have hr : rgOk 4 = true := rgOk_of (by decide) (by decide)
  rcases h2 with ⟨e', rfl, l2, v, v3, v4, v5, v6, v7, hp2, h3, h4, h5, h6, h7, rfl⟩ | ⟨v, e', rfl, z⟩
  · refine ⟨l2, hp2, ?_⟩
    rw [right_code]
    have hs : startE 8 [.lent l] = [.lent l, .no, .no, .no, .no, .no, .no, .no] := rfl
    rw [hs]
    cases a0 : evS G rS0 [.lent l, .no, .no, .no, .no, .no, .no, .no] with
    | none => simp [evSs, a0] at q
    | some f0 =>
      cases f0 with
      | nx e0 =>
        cases a1 : evS G rS1 e0 with
        | none => simp [evSs, a0, a1] at q
        | some f1 =>
          cases f1 with
          | nx e1 =>
            cases a2 : evS G rS2 e1 with
            | none => simp [evSs, a0, a1, a2] at q
            | some f2 =>
              simp [evSs, a0, a1, a2] at q
              cases f2 with
              | nx e2 =>
                simp at q
                subst q
                simp -implicitDefEqProofs [startE, evSs, evS, flow, evB, pk, lk, evE, peek, unl, M.bnd, M.ret, of_some, of_none, M.fail, En.g, unlock, EV.dat, Cn.d, ixD, cmpD, truth, evPs, evAs, evEs, evO, biD, kp, EV.keep, chk, chg, setF, appF, putV_v, putV_l, ly_no, ly_val, ly_fn, ly_clo, retV, getV, endF, outs, binD, unD, argM, argV, argE, callM, apart, back, evT_nm, evT_tp, evTs_nil, evTs_cons, Fl.unl, lenD, items, someI, slD, isNone, tyD, evI, rangeD_1, eqD, mem_strs, lenOk_0, lenOk_of, eqOk_int, eqOk_str, eqOk_bool, eqv_int, eqv_str, eqv_bool, a0, a1, a2, hr, h1]
              | _ => simp at q
          | _ => simp [evSs, a0, a1] at q
      | _ => simp [evSs, a0] at q
  · exact z.elim
end K01
end

section
set_option maxRecDepth 100000
set_option maxHeartbeats 2000000
namespace K01
open Mi PySem L2
theorem right_ok {n : Nat} : RightS (gmOf dat.con (fdOf dat.glb 60 dat.defs) (n + 12)) := fun l hp => by
  obtain ⟨l', h1, h2⟩ := right_run (atoms_ok (n := n + 7)) (lw_ok (n := n + 10)) (worlds_ok (n := n + 4)) (samew_ok (n := n + 7)) (sent_ok (n := n + 8)) (bent_ok (n := n) 8) (issen_ok (n := n + 4)) (lawsen_ok (n := n + 10)) (sameb_ok (n := n + 9)) hp
  exact ⟨l', h1, by rw [gcall d__law_right rfl]; exact h2⟩
def pS0 : CS := (.asg (.nm 2) (.ife (.tv (.cmp .lt (.var 1) (.bi .len (.cons false (.var 0) .nil)))) (.bi .int (.cons false (.ix (.var 0) (.var 1)) .nil)) (.bin .add (.bin .mul (.cst (.int (10273))) (.var 1)) (.cst (.int (1237))))))
def pS1 : CS := (.asg (.nm 3) (.bin .add (.cst (.int (100049))) (.bin .mul (.cst (.int (9013))) (.var 1))))
def pS3 : CS := (.asg (.nm 3) (.bin .mod (.bi .int (.cons false (.bin .add (.bin .add (.bin .mul (.var 3) (.cst (.int (97)))) (.bin .mul (.bin .mod (.bi .int (.cons false (.var 2) .nil)) (.cst (.int (2147483587)))) (.cst (.int (31013))))) (.cst (.int (7)))) .nil)) (.cst (.int (2147483629)))))
def pS4 : CS := (.ret (.lst (.cons false (.ife (.or (.tv (.cmp .lt (.var 2) (.cst (.int (0))))) (.tv (.cmp .ge (.var 2) (.bin .pow (.cst (.int (10))) (.cst (.int (15))))))) (.bi .abs (.cons false (.var 2) .nil)) (.cst (.int (0)))) (.cons false (.var 3) (.cons false (.cst (.int (0))) .nil)))))
def pIn : CSs := (.cons (.asg (.nm 3) (.bin .mod (.bi .int (.cons false (.bin .add (.bin .add (.bin .mul (.var 3) (.cst (.int (40699)))) (.bin .mod (.bi .int (.cons false (.var 4) .nil)) (.cst (.int (2147483587))))) (.cst (.int (23)))) .nil)) (.cst (.int (2147483629))))) .nil)
def pS2 : CS := .forr (.nm 4) (.ex (.sl (.var 0) .no (.yes (.cst (.int (63)))))) pIn
theorem pool_code : c__law_pool = .cons pS0 (.cons pS1 (.cons pS2 (.cons pS3 (.cons pS4 .nil)))) := rfl
def lawIn : CSs := (.cons (.asg (.nm 2) (.call f__law_pool (.cons false (.var 0) (.cons false (.var 1) .nil)))) (.cons (.iff (.not (.tv (.bi .all (.cons false (.lc (.call f__law_right (.cons false (.var 2) .nil)) (.nm 4) (.rg 1 (.cons false (.cst (.int (4))) .nil)) .no [3, 4]) .nil)))) (.cons (.ret (.cst (.bl false))) .nil) .nil) .nil))
def lB0 : CS := (.asg (.nm 2) (.call f__law_pool (.cons false (.var 0) (.cons false (.var 1) .nil))))
def lLc : CE := .lc (.call f__law_right (.cons false (.var 2) .nil)) (.nm 4) (.rg 1 (.cons false (.cst (.int (4))) .nil)) .no [3, 4]
def lAll : CE := .bi .all (.cons false lLc .nil)
theorem lawIn_eq : lawIn = .cons lB0 (.cons (.iff (.not (.tv lAll)) (.cons (.ret (.cst (.bl false))) .nil) .nil) .nil) := rfl
theorem lawC_code : c_law = .cons (.forr (.nm 1) (.rg 1 (.cons false (.bi .max (.cons false (.cst (.int (1))) (.cons false (.bi .min (.cons false (.bi .len (.cons false (.var 0) .nil)) (.cons false (.cst (.int (3))) .nil))) .nil))) .nil)) lawIn) (.cons (.ret (.cst (.bl true))) .nil) := rfl
theorem rangeL_nth1 : ∀ (n i : Nat) (lo : Int) (x : D), (rangeL lo 1 n)[i]? = some x → x = .int (lo + i) ∧ i < n
  | 0, i, lo, x, h => by simp [rangeL] at h
  | n + 1, 0, lo, x, h => by
    simp [rangeL] at h
    exact ⟨by rw [← h]; simp, by omega⟩
  | n + 1, i + 1, lo, x, h => by
    simp only [rangeL, List.getElem?_cons_succ] at h
    obtain ⟨h1, h2⟩ := rangeL_nth1 n i (lo + 1) x h
    refine ⟨by rw [h1]; congr 1; omega, by omega⟩
theorem rangeL_nth0 (n i : Nat) (x : D) (h : (rangeL 0 1 n)[i]? = some x) : x = .int i ∧ i < n := by
  obtain ⟨h1, h2⟩ := rangeL_nth1 n i 0 x h
  exact ⟨by rw [h1]; congr 1; omega, h2⟩
def iL (ns : List Int) : D := .list (ns.map PyData.int)
def PoolS (G : Gm) : Prop := ∀ (ns : List Int) (k : Nat), k < 100 → ∃ l, PoolV l ∧ G.call f__law_pool [.val (iL ns), .val (.int k)] = some (.ok (.fr l) [.no, .no])
theorem pool_in {G : Gm} {s0 s1 s2 v4 : Sl} {ns : List Int} {st : Int} (h4 : v4.ly = false) : ∃ (st' : Int) (w4 : Sl), w4.ly = false ∧ forM (evT (.nm 4)) (evSs G pIn) (ns.map PyData.int) [s0, s1, s2, .val (.int st), v4] = some (.nx [s0, s1, s2, .val (.int st'), w4]) := by
  obtain ⟨fl, h1, h2⟩ := for_inv (tg := evT (.nm 4)) (b := evSs G pIn) (I := fun k e => ∃ (st : Int) (v4 : Sl), v4.ly = false ∧ e = [s0, s1, s2, .val (.int st), v4])
    (R := fun _ _ => False) (ns.map PyData.int) 0 [s0, s1, s2, .val (.int st), v4] ⟨st, v4, h4, rfl⟩ fun j x e hj hI => by
    obtain ⟨st, v4, h4, rfl⟩ := hI
    obtain ⟨i, _, rfl⟩ := List.mem_map.mp (List.mem_of_getElem? hj)
    have m1 : smallI 40699 = true := smallI_lit (by decide)
    refine ⟨[s0, s1, s2, .val (.int st), .val (.int i)], by simp -implicitDefEqProofs [startE, evSs, evS, flow, evB, pk, lk, evE, peek, unl, M.bnd, M.ret, of_some, of_none, M.fail, En.g, unlock, EV.dat, Cn.d, ixD, cmpD, truth, evPs, evAs, evEs, evO, biD, kp, EV.keep, chk, chg, setF, appF, putV_v, putV_l, ly_no, ly_val, ly_fn, ly_clo, retV, getV, endF, outs, binD, unD, argM, argV, argE, callM, apart, back, evT_nm, evT_tp, evTs_nil, evTs_cons, Fl.unl, lenD, items, someI, slD, isNone, tyD, evI, rangeD_1, eqD, mem_strs, lenOk_0, lenOk_of, eqOk_int, eqOk_str, eqOk_bool, eqv_int, eqv_str, eqv_bool, h4], .nx [s0, s1, s2, .val (.int ((st * 40699 + i.fmod 2147483587 + 23).fmod 2147483629)), .val (.int i)], ?_, .inl ⟨_, .inl rfl, _, _, rfl, rfl⟩⟩
    unfold pIn
    simp -implicitDefEqProofs [startE, evSs, evS, flow, evB, pk, lk, evE, peek, unl, M.bnd, M.ret, of_some, of_none, M.fail, En.g, unlock, EV.dat, Cn.d, ixD, cmpD, truth, evPs, evAs, evEs, evO, biD, kp, EV.keep, chk, chg, setF, appF, putV_v, putV_l, ly_no, ly_val, ly_fn, ly_clo, retV, getV, endF, outs, binD, unD, argM, argV, argE, callM, apart, back, evT_nm, evT_tp, evTs_nil, evTs_cons, Fl.unl, lenD, items, someI, slD, isNone, tyD, evI, rangeD_1, eqD, mem_strs, lenOk_0, lenOk_of, eqOk_int, eqOk_str, eqOk_bool, eqv_int, eqv_str, eqv_bool, m1]
  rcases h2 with ⟨e', rfl, st', v4', h, rfl⟩ | ⟨v, e', rfl, z⟩
  · exact ⟨st', v4', h, h1⟩
  · exact z.elim
theorem pool_ok {n : Nat} : PoolS (gmOf dat.con (fdOf dat.glb 60 dat.defs) (n + 1)) := fun ns k hk => by
  rw [gcall d__law_pool rfl, pool_code]
  generalize gmOf dat.con (fdOf dat.glb 60 dat.defs) n = G
  have hs : startE 5 [.val (iL ns), .val (.int k)] = [.val (iL ns), .val (.int k), .no, .no, .no] := rfl
  rw [hs]
  have m1 : smallI 10273 = true := smallI_lit (by decide)
  have m2 : smallI 9013 = true := smallI_lit (by decide)
  have m3 : smallI 97 = true := smallI_lit (by decide)
  have m4 : smallI 31013 = true := smallI_lit (by decide)
  have q0 : ∃ c : Int, evS G pS0 [.val (iL ns), .val (.int k), .no, .no, .no] = some (.nx [.val (iL ns), .val (.int k), .val (.int c), .no, .no]) := by
    unfold pS0 iL
    by_cases h : k < ns.length
    · have h2 : (k : Int) < ns.length := by omega
      obtain ⟨x, hx, hat⟩ := at_some (xs := ns.map PyData.int) (r := (k : Int)) (by omega) (by rw [List.length_map]; omega)
      obtain ⟨i, _, rfl⟩ := List.mem_map.mp hx
      exact ⟨i, by simp -implicitDefEqProofs [startE, evSs, evS, flow, evB, pk, lk, evE, peek, unl, M.bnd, M.ret, of_some, of_none, M.fail, En.g, unlock, EV.dat, Cn.d, ixD, cmpD, truth, evPs, evAs, evEs, evO, biD, kp, EV.keep, chk, chg, setF, appF, putV_v, putV_l, ly_no, ly_val, ly_fn, ly_clo, retV, getV, endF, outs, binD, unD, argM, argV, argE, callM, apart, back, evT_nm, evT_tp, evTs_nil, evTs_cons, Fl.unl, lenD, items, someI, slD, isNone, tyD, evI, rangeD_1, eqD, mem_strs, lenOk_0, lenOk_of, eqOk_int, eqOk_str, eqOk_bool, eqv_int, eqv_str, eqv_bool, h2, hat, h]⟩
    · have h2 : ¬ (k : Int) < ns.length := by omega
      exact ⟨10273 * k + 1237, by simp -implicitDefEqProofs [startE, evSs, evS, flow, evB, pk, lk, evE, peek, unl, M.bnd, M.ret, of_some, of_none, M.fail, En.g, unlock, EV.dat, Cn.d, ixD, cmpD, truth, evPs, evAs, evEs, evO, biD, kp, EV.keep, chk, chg, setF, appF, putV_v, putV_l, ly_no, ly_val, ly_fn, ly_clo, retV, getV, endF, outs, binD, unD, argM, argV, argE, callM, apart, back, evT_nm, evT_tp, evTs_nil, evTs_cons, Fl.unl, lenD, items, someI, slD, isNone, tyD, evI, rangeD_1, eqD, mem_strs, lenOk_0, lenOk_of, eqOk_int, eqOk_str, eqOk_bool, eqv_int, eqv_str, eqv_bool, h2, h, m1]⟩
  obtain ⟨c, q0⟩ := q0
  have q1 : evS G pS1 [.val (iL ns), .val (.int k), .val (.int c), .no, .no] = some (.nx [.val (iL ns), .val (.int k), .val (.int c), .val (.int (100049 + 9013 * k)), .no]) := by
    unfold pS1
    simp -implicitDefEqProofs [startE, evSs, evS, flow, evB, pk, lk, evE, peek, unl, M.bnd, M.ret, of_some, of_none, M.fail, En.g, unlock, EV.dat, Cn.d, ixD, cmpD, truth, evPs, evAs, evEs, evO, biD, kp, EV.keep, chk, chg, setF, appF, putV_v, putV_l, ly_no, ly_val, ly_fn, ly_clo, retV, getV, endF, outs, binD, unD, argM, argV, argE, callM, apart, back, evT_nm, evT_tp, evTs_nil, evTs_cons, Fl.unl, lenD, items, someI, slD, isNone, tyD, evI, rangeD_1, eqD, mem_strs, lenOk_0, lenOk_of, eqOk_int, eqOk_str, eqOk_bool, eqv_int, eqv_str, eqv_bool, m2]
  have hcut : cutL (ns.map PyData.int) none (some 63) = (ns.take 63).map PyData.int := by
    rw [List.map_take]
    exact cutL_takeA (k := 63)
  obtain ⟨st, v4, h4, q⟩ := pool_in (G := G) (s0 := .val (iL ns)) (s1 := .val (.int k)) (s2 := .val (.int c)) (v4 := .no) (ns := ns.take 63) (st := 100049 + 9013 * k) rfl
  rw [← hcut] at q
  have q2 : evS G pS2 [.val (iL ns), .val (.int k), .val (.int c), .val (.int (100049 + 9013 * k)), .no] = some (.nx [.val (iL ns), .val (.int k), .val (.int c), .val (.int st), v4]) := by
    unfold pS2
    unfold iL at q ⊢
    simp -implicitDefEqProofs [startE, evSs, evS, flow, evB, pk, lk, evE, peek, unl, M.bnd, M.ret, of_some, of_none, M.fail, En.g, unlock, EV.dat, Cn.d, ixD, cmpD, truth, evPs, evAs, evEs, evO, biD, kp, EV.keep, chk, chg, setF, appF, putV_v, putV_l, ly_no, ly_val, ly_fn, ly_clo, retV, getV, endF, outs, binD, unD, argM, argV, argE, callM, apart, back, evT_nm, evT_tp, evTs_nil, evTs_cons, Fl.unl, lenD, items, someI, slD, isNone, tyD, evI, rangeD_1, eqD, mem_strs, lenOk_0, lenOk_of, eqOk_int, eqOk_str, eqOk_bool, eqv_int, eqv_str, eqv_bool, walkD, q]
  have q3 : evS G pS3 [.val (iL ns), .val (.int k), .val (.int c), .val (.int st), v4] = some (.nx [.val (iL ns), .val (.int k), .val (.int c), .val (.int ((st * 97 + c.fmod 2147483587 * 31013 + 7).fmod 2147483629)), v4]) := by
    unfold pS3
    simp -implicitDefEqProofs [startE, evSs, evS, flow, evB, pk, lk, evE, peek, unl, M.bnd, M.ret, of_some, of_none, M.fail, En.g, unlock, EV.dat, Cn.d, ixD, cmpD, truth, evPs, evAs, evEs, evO, biD, kp, EV.keep, chk, chg, setF, appF, putV_v, putV_l, ly_no, ly_val, ly_fn, ly_clo, retV, getV, endF, outs, binD, unD, argM, argV, argE, callM, apart, back, evT_nm, evT_tp, evTs_nil, evTs_cons, Fl.unl, lenD, items, someI, slD, isNone, tyD, evI, rangeD_1, eqD, mem_strs, lenOk_0, lenOk_of, eqOk_int, eqOk_str, eqOk_bool, eqv_int, eqv_str, eqv_bool, m3, m4]
  generalize (st * 97 + c.fmod 2147483587 * 31013 + 7).fmod 2147483629 = st2 at q3
  have q4 : ∃ a : Int, evS G pS4 [.val (iL ns), .val (.int k), .val (.int c), .val (.int st2), v4] = some (.rt (.fr [.int a, .int st2, .int 0]) [.val (iL ns), .val (.int k), .val (.int c), .val (.int st2), v4]) := by
    unfold pS4
    by_cases h1 : c < 0
    · exact ⟨-c, by simp -implicitDefEqProofs [startE, evSs, evS, flow, evB, pk, lk, evE, peek, unl, M.bnd, M.ret, of_some, of_none, M.fail, En.g, unlock, EV.dat, Cn.d, ixD, cmpD, truth, evPs, evAs, evEs, evO, biD, kp, EV.keep, chk, chg, setF, appF, putV_v, putV_l, ly_no, ly_val, ly_fn, ly_clo, retV, getV, endF, outs, binD, unD, argM, argV, argE, callM, apart, back, evT_nm, evT_tp, evTs_nil, evTs_cons, Fl.unl, lenD, items, someI, slD, isNone, tyD, evI, rangeD_1, eqD, mem_strs, lenOk_0, lenOk_of, eqOk_int, eqOk_str, eqOk_bool, eqv_int, eqv_str, eqv_bool, h1]⟩
    · by_cases h2 : (1000000000000000 : Int) ≤ c
      · exact ⟨c, by simp -implicitDefEqProofs [startE, evSs, evS, flow, evB, pk, lk, evE, peek, unl, M.bnd, M.ret, of_some, of_none, M.fail, En.g, unlock, EV.dat, Cn.d, ixD, cmpD, truth, evPs, evAs, evEs, evO, biD, kp, EV.keep, chk, chg, setF, appF, putV_v, putV_l, ly_no, ly_val, ly_fn, ly_clo, retV, getV, endF, outs, binD, unD, argM, argV, argE, callM, apart, back, evT_nm, evT_tp, evTs_nil, evTs_cons, Fl.unl, lenD, items, someI, slD, isNone, tyD, evI, rangeD_1, eqD, mem_strs, lenOk_0, lenOk_of, eqOk_int, eqOk_str, eqOk_bool, eqv_int, eqv_str, eqv_bool, h1, h2]⟩
      · exact ⟨0, by simp -implicitDefEqProofs [startE, evSs, evS, flow, evB, pk, lk, evE, peek, unl, M.bnd, M.ret, of_some, of_none, M.fail, En.g, unlock, EV.dat, Cn.d, ixD, cmpD, truth, evPs, evAs, evEs, evO, biD, kp, EV.keep, chk, chg, setF, appF, putV_v, putV_l, ly_no, ly_val, ly_fn, ly_clo, retV, getV, endF, outs, binD, unD, argM, argV, argE, callM, apart, back, evT_nm, evT_tp, evTs_nil, evTs_cons, Fl.unl, lenD, items, someI, slD, isNone, tyD, evI, rangeD_1, eqD, mem_strs, lenOk_0, lenOk_of, eqOk_int, eqOk_str, eqOk_bool, eqv_int, eqv_str, eqv_bool, h1, h2]⟩
  obtain ⟨a, q4⟩ := q4
  refine ⟨[.int a, .int st2, .int 0], ⟨_, _, _, rfl⟩, ?_⟩
  simp -implicitDefEqProofs only [evSs, q0, q1, q2, q3, q4]
  rfl
theorem law_all {G : Gm} (R : RightS G) {s0 s1 : Sl} {l : List D} (hp : PoolV l) : ∃ l', PoolV l' ∧ evE G lAll [s0, s1, .own l, .no, .no] = some (.ok (.val (.bool true)) [s0, s1, .own l', .no, .no]) := by
  have hr : rgOk 4 = true := rgOk_of (by decide) (by decide)
  obtain ⟨e', acc, h1, h2⟩ := loop_inv (own := [3, 4]) (tg := evT (.nm 4)) (te := kp (evE G (.call f__law_right (.cons false (.var 2) .nil)))) (I := fun k acc e => (∃ n, acc = List.replicate n (PyData.bool true)) ∧ ∃ l, PoolV l ∧ e = [s0, s1, .own l, .no, .no]) (rangeL 0 1 4) 0 [] [s0, s1, .own l, .no, .no] ⟨⟨0, rfl⟩, l, hp, rfl⟩ (by rw [rangeL_len]; decide) fun k acc x e hx hI => by
    obtain ⟨⟨n, rfl⟩, l1, hp1, rfl⟩ := hI
    obtain ⟨l2, hp2, hc⟩ := R l1 hp1
    refine ⟨[s0, s1, .own l1, .no, .val x], [s0, s1, .own l2, .no, .val x], .bool true, by simp -implicitDefEqProofs [startE, evSs, evS, flow, evB, pk, lk, evE, peek, unl, M.bnd, M.ret, of_some, of_none, M.fail, En.g, unlock, EV.dat, Cn.d, ixD, cmpD, truth, evPs, evAs, evEs, evO, biD, kp, EV.keep, chk, chg, setF, appF, putV_v, putV_l, ly_no, ly_val, ly_fn, ly_clo, retV, getV, endF, outs, binD, unD, argM, argV, argE, callM, apart, back, evT_nm, evT_tp, evTs_nil, evTs_cons, Fl.unl, lenD, items, someI, slD, isNone, tyD, evI, rangeD_1, eqD, mem_strs, lenOk_0, lenOk_of, eqOk_int, eqOk_str, eqOk_bool, eqv_int, eqv_str, eqv_bool], by simp -implicitDefEqProofs [startE, evSs, evS, flow, evB, pk, lk, evE, peek, unl, M.bnd, M.ret, of_some, of_none, M.fail, En.g, unlock, EV.dat, Cn.d, ixD, cmpD, truth, evPs, evAs, evEs, evO, biD, kp, EV.keep, chk, chg, setF, appF, putV_v, putV_l, ly_no, ly_val, ly_fn, ly_clo, retV, getV, endF, outs, binD, unD, argM, argV, argE, callM, apart, back, evT_nm, evT_tp, evTs_nil, evTs_cons, Fl.unl, lenD, items, someI, slD, isNone, tyD, evI, rangeD_1, eqD, mem_strs, lenOk_0, lenOk_of, eqOk_int, eqOk_str, eqOk_bool, eqv_int, eqv_str, eqv_bool, hc], ⟨n + 1, ?_⟩, l2, hp2, rfl⟩
    rw [List.replicate_succ', ]
  obtain ⟨⟨n, rfl⟩, l', hp', he⟩ := h2
  refine ⟨l', hp', ?_⟩
  have hi : evI G (.rg 1 (.cons false (.cst (.int (4))) .nil)) [s0, s1, .own l, .no, .no] = some (.ok (rangeL 0 1 4, []) [s0, s1, .own l, .no, .no]) := by simp -implicitDefEqProofs [startE, evSs, evS, flow, evB, pk, lk, evE, peek, unl, M.bnd, M.ret, of_some, of_none, M.fail, En.g, unlock, EV.dat, Cn.d, ixD, cmpD, truth, evPs, evAs, evEs, evO, biD, kp, EV.keep, chk, chg, setF, appF, putV_v, putV_l, ly_no, ly_val, ly_fn, ly_clo, retV, getV, endF, outs, binD, unD, argM, argV, argE, callM, apart, back, evT_nm, evT_tp, evTs_nil, evTs_cons, Fl.unl, lenD, items, someI, slD, isNone, tyD, evI, rangeD_1, eqD, mem_strs, lenOk_0, lenOk_of, eqOk_int, eqOk_str, eqOk_bool, eqv_int, eqv_str, eqv_bool, hr]
  have hc : comp [3, 4] (loopM [3, 4] (evT (.nm 4)) (evF G .no) (kp (evE G (.call f__law_right (.cons false (.var 2) .nil)))) (rangeL 0 1 4) []) [s0, s1, .own l, .no, .no] = some (.ok (.fr (List.replicate n (PyData.bool true))) [s0, s1, .own l', .no, .no]) := by
    have hw : Mi.wipe [3, 4] [s0, s1, .own l, .no, .no] = [s0, s1, .own l, .no, .no] := rfl
    have hf : evF G .no = M.ret true := by unfold evF; rfl
    unfold comp
    rw [if_pos (show ([3, 4].all fun i => !(En.g [s0, s1, Sl.own l, Sl.no, Sl.no] i).ly) = true from rfl), hw, hf, h1]
    simp only [he]
  have hlc : evE G lLc [s0, s1, .own l, .no, .no] = _ := lc_e hi hc
  refine bi_e (a := lLc) (fun _ => rfl) hlc ?_
  show (boolsL (List.replicate n (PyData.bool true))).map _ = _
  have : ∀ n, boolsL (List.replicate n (PyData.bool true)) = some (List.replicate n true) := by
    intro n
    induction n with
    | zero => rfl
    | succ n ih => rw [List.replicate_succ]; unfold boolsL; rw [ih]; rfl
  rw [this]
  simp
theorem plain : ∀ ns : List Int, ns.length ≤ 63 → (∀ z ∈ ns, Builtin.Int.intBits z ≤ 1048576) → ∃ os, (gmOf dat.con (fdOf dat.glb 60 dat.defs) (59 + 1)).call 25 [.val (.list (ns.map PyData.int))] = some (.ok (.val (.bool true)) os) := by
  intro ns hn _
  have P : PoolS (gmOf dat.con (fdOf dat.glb 60 dat.defs) 59) := pool_ok (n := 58)
  have R : RightS (gmOf dat.con (fdOf dat.glb 60 dat.defs) 59) := right_ok (n := 47)
  rw [gcall d_law rfl, lawC_code]
  generalize gmOf dat.con (fdOf dat.glb 60 dat.defs) 59 = G at P R
  obtain ⟨n, hn3, hmn⟩ : ∃ n : Nat, n ≤ 3 ∧ biD .max [.int 1, .int (if (3 : Int) < ns.length then 3 else ns.length)] = some (.val (.int n)) := by
    by_cases h : (3 : Int) < ns.length
    · rw [if_pos h]; exact ⟨3, by omega, rfl⟩
    · rw [if_neg h]
      by_cases h2 : (1 : Int) < ns.length
      · exact ⟨ns.length, by omega, by show some (EV.val (.int (if (ns.length : Int) > 1 then _ else _))) = _; rw [if_pos h2]⟩
      · exact ⟨1, by omega, by show some (EV.val (.int (if (ns.length : Int) > 1 then _ else _))) = _; rw [if_neg h2]; rfl⟩
  obtain ⟨fl, h1, h2⟩ := for_inv (tg := evT (.nm 1)) (b := evSs G lawIn) (I := fun k e => ∃ v1 v2, v1.ly = false ∧ (v2.ly = false ∨ ∃ ys, v2 = .own ys) ∧ e = [.val (iL ns), v1, v2, .no, .no])
    (R := fun _ _ => False) (rangeL 0 1 n) 0 [.val (iL ns), .no, .no, .no, .no] ⟨.no, .no, rfl, .inl rfl, rfl⟩ fun j x e hj hI => by
    obtain ⟨v1, v2, q1, q2, rfl⟩ := hI
    obtain ⟨rfl, hk⟩ := rangeL_nth0 n j x hj
    obtain ⟨l, hp, hc⟩ := P ns j (by omega)
    obtain ⟨l', hp', ha⟩ := law_all R (s0 := .val (iL ns)) (s1 := .val (.int j)) hp
    have b0 : evS G lB0 [.val (iL ns), .val (.int j), v2, .no, .no] = some (.nx [.val (iL ns), .val (.int j), .own l, .no, .no]) := by
      unfold lB0
      rcases q2 with q2 | ⟨ys, rfl⟩
      · simp -implicitDefEqProofs [startE, evSs, evS, flow, evB, pk, lk, evE, peek, unl, M.bnd, M.ret, of_some, of_none, M.fail, En.g, unlock, EV.dat, Cn.d, ixD, cmpD, truth, evPs, evAs, evEs, evO, biD, kp, EV.keep, chk, chg, setF, appF, putV_v, putV_l, ly_no, ly_val, ly_fn, ly_clo, retV, getV, endF, outs, binD, unD, argM, argV, argE, callM, apart, back, evT_nm, evT_tp, evTs_nil, evTs_cons, Fl.unl, lenD, items, someI, slD, isNone, tyD, evI, rangeD_1, eqD, mem_strs, lenOk_0, lenOk_of, eqOk_int, eqOk_str, eqOk_bool, eqv_int, eqv_str, eqv_bool, hc, q2]
      · simp -implicitDefEqProofs [startE, evSs, evS, flow, evB, pk, lk, evE, peek, unl, M.bnd, M.ret, of_some, of_none, M.fail, En.g, unlock, EV.dat, Cn.d, ixD, cmpD, truth, evPs, evAs, evEs, evO, biD, kp, EV.keep, chk, chg, setF, appF, putV_v, putV_l, ly_no, ly_val, ly_fn, ly_clo, retV, getV, endF, outs, binD, unD, argM, argV, argE, callM, apart, back, evT_nm, evT_tp, evTs_nil, evTs_cons, Fl.unl, lenD, items, someI, slD, isNone, tyD, evI, rangeD_1, eqD, mem_strs, lenOk_0, lenOk_of, eqOk_int, eqOk_str, eqOk_bool, eqv_int, eqv_str, eqv_bool, hc, putV_ol]
    have b1 : evS G (.iff (.not (.tv lAll)) (.cons (.ret (.cst (.bl false))) .nil) .nil) [.val (iL ns), .val (.int j), .own l, .no, .no] = some (.nx [.val (iL ns), .val (.int j), .own l', .no, .no]) := by
      have lkA : ∀ m : M EV, lk lAll m = m.bnd fun v => M.ret (v, []) := fun _ => rfl
      simp -implicitDefEqProofs only [evS, evB, pk, lkA]
      simp -implicitDefEqProofs only [flow, M.bnd, ha, M.ret, unl, EV.dat, of_some, unlock, List.foldl, truth, Bool.not_true, Bool.false_eq_true, if_false, evSs]
    refine ⟨[.val (iL ns), .val (.int j), v2, .no, .no], by simp -implicitDefEqProofs [startE, evSs, evS, flow, evB, pk, lk, evE, peek, unl, M.bnd, M.ret, of_some, of_none, M.fail, En.g, unlock, EV.dat, Cn.d, ixD, cmpD, truth, evPs, evAs, evEs, evO, biD, kp, EV.keep, chk, chg, setF, appF, putV_v, putV_l, ly_no, ly_val, ly_fn, ly_clo, retV, getV, endF, outs, binD, unD, argM, argV, argE, callM, apart, back, evT_nm, evT_tp, evTs_nil, evTs_cons, Fl.unl, lenD, items, someI, slD, isNone, tyD, evI, rangeD_1, eqD, mem_strs, lenOk_0, lenOk_of, eqOk_int, eqOk_str, eqOk_bool, eqv_int, eqv_str, eqv_bool, q1], .nx [.val (iL ns), .val (.int j), .own l', .no, .no], ?_, .inl ⟨_, .inl rfl, .val (.int j), .own l', rfl, .inr ⟨_, rfl⟩, rfl⟩⟩
    rw [lawIn_eq]
    simp -implicitDefEqProofs only [evSs, b0, b1]
  have hr : rgOk (n : Int) = true := rgOk_of (by omega) (by omega)
  rcases h2 with ⟨e', rfl, v1, v2, _, _, rfl⟩ | ⟨v, e', rfl, z⟩
  · refine ⟨[.no], ?_⟩
    have hI : evI G (.rg 1 (.cons false (.bi .max (.cons false (.cst (.int (1))) (.cons false (.bi .min (.cons false (.bi .len (.cons false (.var 0) .nil)) (.cons false (.cst (.int (3))) .nil))) .nil))) .nil)) [.val (iL ns), .no, .no, .no, .no] = some (.ok (rangeL 0 1 n, []) [.val (iL ns), .no, .no, .no, .no]) := by
      have e1 : evE G (.bi .min (.cons false (.bi .len (.cons false (.var 0) .nil)) (.cons false (.cst (.int (3))) .nil))) [.val (iL ns), .no, .no, .no, .no] = some (.ok (.val (.int (if (3 : Int) < ns.length then 3 else ns.length))) [.val (iL ns), .no, .no, .no, .no]) := by
        unfold iL
        simp -implicitDefEqProofs [startE, evSs, evS, flow, evB, pk, lk, evE, peek, unl, M.bnd, M.ret, of_some, of_none, M.fail, En.g, unlock, EV.dat, Cn.d, ixD, cmpD, truth, evPs, evAs, evEs, evO, biD, kp, EV.keep, chk, chg, setF, appF, putV_v, putV_l, ly_no, ly_val, ly_fn, ly_clo, retV, getV, endF, outs, binD, unD, argM, argV, argE, callM, apart, back, evT_nm, evT_tp, evTs_nil, evTs_cons, Fl.unl, lenD, items, someI, slD, isNone, tyD, evI, rangeD_1, eqD, mem_strs, lenOk_0, lenOk_of, eqOk_int, eqOk_str, eqOk_bool, eqv_int, eqv_str, eqv_bool]
      have e2 : evE G (.bi .max (.cons false (.cst (.int (1))) (.cons false (.bi .min (.cons false (.bi .len (.cons false (.var 0) .nil)) (.cons false (.cst (.int (3))) .nil))) .nil))) [.val (iL ns), .no, .no, .no, .no] = some (.ok (.val (.int n)) [.val (iL ns), .no, .no, .no, .no]) := by
        rw [evE]
        simp -implicitDefEqProofs only [evPs, lk]
        simp -implicitDefEqProofs only [M.bnd, e1, M.ret]
        rw [evE]
        simp -implicitDefEqProofs only [M.bnd, e1, M.ret, EV.dat, Cn.d, List.append_nil, hmn, of_some, unl, unlock, List.foldl]
      simp -implicitDefEqProofs only [evI, evEs, kp]
      simp -implicitDefEqProofs only [M.bnd, e2, EV.keep, of_some, M.ret]
      simp -implicitDefEqProofs [startE, evSs, evS, flow, evB, pk, lk, evE, peek, unl, M.bnd, M.ret, of_some, of_none, M.fail, En.g, unlock, EV.dat, Cn.d, ixD, cmpD, truth, evPs, evAs, evEs, evO, biD, kp, EV.keep, chk, chg, setF, appF, putV_v, putV_l, ly_no, ly_val, ly_fn, ly_clo, retV, getV, endF, outs, binD, unD, argM, argV, argE, callM, apart, back, evT_nm, evT_tp, evTs_nil, evTs_cons, Fl.unl, lenD, items, someI, slD, isNone, tyD, evI, rangeD_1, eqD, mem_strs, lenOk_0, lenOk_of, eqOk_int, eqOk_str, eqOk_bool, eqv_int, eqv_str, eqv_bool, hr]
    have hw : startE 5 [.val (.list (ns.map PyData.int))] = [.val (iL ns), .no, .no, .no, .no] := rfl
    rw [hw]
    simp -implicitDefEqProofs only [evSs, evS, flow, hI, h1, Option.map_some, Fl.unl, unlock, List.foldl]
    simp -implicitDefEqProofs [startE, evSs, evS, flow, evB, pk, lk, evE, peek, unl, M.bnd, M.ret, of_some, of_none, M.fail, En.g, unlock, EV.dat, Cn.d, ixD, cmpD, truth, evPs, evAs, evEs, evO, biD, kp, EV.keep, chk, chg, setF, appF, putV_v, putV_l, ly_no, ly_val, ly_fn, ly_clo, retV, getV, endF, outs, binD, unD, argM, argV, argE, callM, apart, back, evT_nm, evT_tp, evTs_nil, evTs_cons, Fl.unl, lenD, items, someI, slD, isNone, tyD, evI, rangeD_1, eqD, mem_strs, lenOk_0, lenOk_of, eqOk_int, eqOk_str, eqOk_bool, eqv_int, eqv_str, eqv_bool]
  · exact z.elim
end K01
end

section
set_option maxRecDepth 100000
set_option maxHeartbeats 0
open PySem PySem.W PySem.Calls PyProof.Rows
theorem PySem.Challenge.cw_toldanew_k01_whole_worlds_and_sentences_holds : PySem.Challenge.rw_toldanew_k01_whole_worlds_and_sentences.Holds := by
  w_on; o_law
  refine HandSHeadRun.head_any (r := OpenLaw.row PySem.Challenge.rw_toldanew_k01_whole_worlds_and_sentences) (q := view (OpenLaw.row PySem.Challenge.rw_toldanew_k01_whole_worlds_and_sentences).prog [42]) (H := K01.hk) (ob := K01.ob) (M := 4000) (loose := K01.loose) (d := HandSHeadRun.topDef (OpenLaw.row PySem.Challenge.rw_toldanew_k01_whole_worlds_and_sentences).prog 42) (kwd := []) K01.ob_eq
    (by kernel_rfl) (fun s => by kernel_rfl) K01.run (by kernel_rfl) (by kernel_rfl) (by kernel_rfl) (by rfl) (by first | assumption | decide +kernel) (by decide +kernel) ⟨rfl, rfl, rfl, rfl, rfl, by decide +kernel⟩ ?hw ?hc
  case hw => w_witness2
  case hc =>
    refine LamX.walk_ofTsE (l := PySem.Challenge.rw_toldanew_k01_whole_worlds_and_sentences) (n := 63) (k := 59 + 1) (x := "script") (CX := fun _ => L2.CX0) rfl (by decide) (by kernel_rfl) ⟨rfl, by decide, by decide⟩ ?F (fun _ _ _ _ _ z => z)
    intro w mg fa h Y G hmg0
    obtain ⟨K, KX, c⟩ := Y
    have hmg : mg ("law" : PySem.Str) = some (.ref fa) := by
      have e : (HandSHeadRun.topDef (OpenLaw.row PySem.Challenge.rw_toldanew_k01_whole_worlds_and_sentences).prog 42).name = ("law" : PySem.Str) := by kernel_rfl
      rw [← e]
      exact hmg0
    exact ⟨K, KX, Mi.law_at (L := K01.dat) K01.dat_ok KX G c (g := 25) (fuel := 60) rfl rfl hmg K01.plain⟩
end
