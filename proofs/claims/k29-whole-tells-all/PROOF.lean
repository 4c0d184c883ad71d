import PyProof.Rows.All
import Wide.All
import OpenK.AllK
import Wide.FinOn
import HandS.ForSpec
import HandS.Comp
import HandS.Deep
import HandS.TupAny
import KE.SortData
import KE.DataMinMax
import HandS.TupSets
import KE.LtSeq
import KE.KSortAsk
import KE.KSortTup
import HandS.Style
import KE.KRevSl
import HandS.ReHeld
import HandS.IsInst
import HandS.Conv
import HandS.TupMul
import HandS.Dict
import KE.KDictPairs
import KE.KDictKeyed
import HandS.Zip
import HandS.ForMost
import HandS.Flow
import HandS.SetKeys
import HandS.HotCalls
import HandS.ExcIs
import HandS.WordsExc
import HandS.More
import HandS.TryOnly
import PySem.Challenge.RW_noticed_k29_whole_tells_all
set_option Elab.async false
set_option linter.all false
/-! Nv1: a small language of values, its evaluator. -/
namespace Nv
open PySem

abbrev D := PyData
/-- a slot: nothing known, known data, an owned object that may change -/
inductive Sl where
  | no
  | im (d : D)
  | mu (d : D)
abbrev En := List Sl

/-- the primitive operations -/
inductive Op where
  | add | sub | mul | mod | fdiv | pow | neg
  | eq | ne | lt | le | gt | ge | isN | notN | inn | nin
  | idx | slT | slH | slB | rev
  | len | tuple | list | srt | srtSet | lenSet | allB | anyB | minL | maxL | min2 | max2 | intOf | strOf | absI
  | isInt | isBool | isTup | isStr | isList
  | index | tindex | count | split | join | strip
  | dget | din | dnin
  | lrg | lrg2 | trg | lenSetP
  deriving DecidableEq

mutual
inductive E where
  | var (i : Nat)
  | move (i : Nat)
  | cst (d : D)
  | glob (n : Nat)
  | op (k : Op) (as : List A)
  | and (a b : E)
  | or (a b : E)
  | not (a : E)
  | ite (c a b : E)
  | leLe (a b c : E)
  | tup (as : List A)
  | lst (as : List A)
  | call (f : Nat) (as : List A)
  | sel (fs : List Nat) (ix : E) (as : List A)
  | pop (i : Nat) (e : E)
  | slB (a : A) (lo hi : E)
  | mth (k : Op) (a : A) (as : List A)
  | lc (elt : E) (tg : List Nat) (one : Bool) (it : It) (cond : Option E)
  | dget (a : A) (k : E)
  | din (neg : Bool) (k : E) (a : A)
  | callN (t : Bool) (f : Nat) (as : List A)
  | vals (i t : Nat)
  | callF (f : Nat) (as : List A)
  | lcO (elt : E) (tg : List Nat) (one en : Bool) (i : Nat) (cond : Option E)
  | orT (a b : E)
inductive A where
  | imm (e : E)
  | own (i : Nat)
inductive It where
  | seq (a : A)
  | rng (a : A)
  | rng2 (a b : A)
  | zip (a b : A)
  | enum (a : A)
  | dk (i : Nat)
end

inductive S where
  | asg (i : Nat) (e : E)
  | asgM (i : Nat) (e : E)
  | unp (is : List Nat) (e : E)
  | par (i j : Nat) (a b : E)
  | app (i : Nat) (e : E)
  | ext (i : Nat) (e : E)
  | setI (i : Nat) (k v : E)
  | newD (i : Nat) (t : Bool)
  | setD (i : Nat) (k v : E)
  | asgD (i : Nat) (e : E)
  | drop (e : E)
  | ite (c : E) (a b : List S)
  | for_ (tg : List Nat) (one : Bool) (it : It) (kill : List Nat) (body : List S)
  | while_ (fuel : Nat) (c : E) (kill : List Nat) (body : List S)
  | ret (e : E)
  | raise (c : Nat)
  | tryO (i : Nat) (body : List S)
  | grp (t : Nat) (it : It) (i : Nat) (k : E)
  | forO (tg : List Nat) (one en : Bool) (i : Nat) (kill : List Nat) (body : List S)
  | unpF (i j f : Nat) (as : List A)
  | junk
  | brk
  | cnt
  | pass

/-- an expression's end -/
inductive R (α : Type) where
  | ok (a : α) (env : En)
  | exc (c : Nat) (env : En)
  | stuck
/-- a statement's end -/
inductive Fl where
  | nx (env : En)
  | ret (d : D) (env : En)
  | brk (env : En)
  | cnt (env : En)
  | exc (c : Nat) (env : En)
  | stuck
/-- a def's end: its value, what its owned parameters hold -/
inductive Fr where
  | ok (d : D) (outs : List D)
  | exc (c : Nat) (outs : List D)
  | stuck
abbrev Fn := List D → Fr

def R.bind {α β : Type} (r : R α) (f : α → En → R β) : R β := match r with
  | .ok a env => f a env
  | .exc c env => .exc c env
  | .stuck => .stuck
@[simp] theorem R.bind_ok {α β : Type} (a : α) (env : En) (f : α → En → R β) : (R.ok a env).bind f = f a env := rfl
@[simp] theorem R.bind_exc {α β : Type} (c : Nat) (env : En) (f : α → En → R β) : (R.exc c env : R α).bind f = .exc c env := rfl
@[simp] theorem R.bind_stuck {α β : Type} (f : α → En → R β) : (R.stuck : R α).bind f = .stuck := rfl
def R.of {α : Type} (o : Option α) (env : En) : R α := match o with
  | some a => .ok a env
  | none => .stuck
@[simp] theorem R.of_some {α : Type} (a : α) (env : En) : R.of (some a) env = .ok a env := rfl
@[simp] theorem R.of_none {α : Type} (env : En) : R.of (none : Option α) env = .stuck := rfl

def R.noexc {α : Type} (r : R α) : R α := match r with
  | .ok a env => .ok a env
  | _ => .stuck
@[simp] theorem R.noexc_ok {α : Type} (a : α) (env : En) : (R.ok a env).noexc = .ok a env := rfl

/-- known data of a slot -/
def getE (env : En) (i : Nat) : Option D := match env[i]? with
  | some (.im d) => some d
  | _ => none
/-- what an owned object holds -/
def getM (env : En) (i : Nat) : Option D := match env[i]? with
  | some (.mu d) => some d
  | _ => none
def getA (env : En) (i : Nat) : Option D := match env[i]? with
  | some (.im d) => some d
  | some (.mu d) => some d
  | _ => none
def setE (env : En) (i : Nat) (d : D) : En := env.set i (.im d)
def setM (env : En) (i : Nat) (d : D) : En := env.set i (.mu d)
def killE (env : En) (is : List Nat) : En := is.foldl (fun e i => e.set i .no) env
/-- the slots of is as they were -/
def keepIm : Sl → Sl
  | .im d => .im d
  | _ => .no
def backE (is : List Nat) (env0 env : En) : En := is.foldl (fun e i => e.set i (keepIm (env0.getD i .no))) env
/-- i, (j, k, ..): the first of tg is a mark -/
def tgN (tg : List Nat) (d : D) (env : En) : Option En := match tg, d with
  | _ :: i :: is, .tuple [x, .tuple ds] => if ds.length = is.length then some ((is.zip ds).foldl (fun e p => setE e p.1 p.2) (setE env i x)) else none
  | _, _ => none
/-- a tuple's items stored -/
def tgE (tg : List Nat) (one : Bool) (d : D) (env : En) : Option En :=
  if one then (match tg with | [i] => some (setE env i d) | _ => none)
  else if tg.head? = some 1000000 then tgN tg d env
  else match d with
    | .tuple ds => if ds.length = tg.length then some ((tg.zip ds).foldl (fun e p => setE e p.1 p.2) env) else none
    | _ => none

def tgL (tg : List Nat) (d : D) (env : En) : Option En := match d with
  | .tuple ds => if ds.length = tg.length then some ((tg.zip ds).foldl (fun e p => setE e p.1 p.2) env) else none
  | .list ds => if ds.length = tg.length then some ((tg.zip ds).foldl (fun e p => setE e p.1 p.2) env) else none
  | _ => none
def isDictM (env : En) (i : Nat) : Bool := match env[i]? with
  | some (.mu (.dict _)) => true
  | _ => false
def isListM (env : En) (i : Nat) : Bool := match env[i]? with
  | some (.mu (.list _)) => true
  | _ => false

/-! ### the primitives -/
def intsD : List D → Option (List Int)
  | [] => some []
  | .int i :: r => (intsD r).map (i :: ·)
  | _ => none
def boolsD : List D → Option (List Bool)
  | [] => some []
  | .bool i :: r => (boolsD r).map (i :: ·)
  | _ => none
def okEq (a b : D) : Bool := SeqAt.shaped a && SeqAt.shaped b
def seqOf : D → Option (List D)
  | .list xs => some xs
  | .tuple xs => some xs
  | _ => none
/-- the scripts' own form -/
def scr (ns : List Int) : D := .dict [(.list (ns.map .int), .none)]

def cutD (xs : List D) (lo hi : Option Int) : List D := (xs.drop (HT.sIx xs.length 0 lo)).take (HT.sIx xs.length xs.length hi - HT.sIx xs.length 0 lo)

def pAdd : List D → Option D
  | [.int i, .int j] => some (.int (i + j))
  | [.str x, .str y] => if x.length + y.length ≤ sizeLine then some (.str (x ++ y)) else none
  | [.list x, .list y] => if x.length + y.length ≤ sizeLine then some (.list (x ++ y)) else none
  | [.tuple x, .tuple y] => if x.length + y.length ≤ sizeLine then some (.tuple (x ++ y)) else none
  | _ => none
def pSub : List D → Option D
  | [.int i, .int j] => some (.int (i - j))
  | _ => none
def pMul : List D → Option D
  | [.int i, .int j] => if (-(2 ^ 64) < i ∧ i < 2 ^ 64) ∨ (-(2 ^ 64) < j ∧ j < 2 ^ 64) then some (.int (i * j)) else none
  | [.list x, .int k] => if -(2 ^ 63) ≤ k ∧ k < 2 ^ 63 ∧ x.length * k.toNat ≤ sizeLine then some (.list (List.replicate k.toNat x).flatten) else none
  | [.tuple (a :: x), .int k] => if 2 ≤ k ∧ k ≤ 1000 ∧ (a :: x).length ≤ 1000 then some (.tuple (List.replicate k.toNat (a :: x)).flatten) else none
  | _ => none
def pMod : List D → Option D
  | [.int i, .int j] => if 0 < j then some (.int (i % j)) else none
  | _ => none
def pFdiv : List D → Option D
  | [.int i, .int j] => if 0 < j ∧ j < 1073741824 then some (.int (i / j)) else none
  | _ => none
def pPow : List D → Option D
  | [.int i, .int j] => if 0 ≤ j ∧ j ≤ 1000000 ∧ i.natAbs < 2 ^ 64 then some (.int (i ^ j.toNat)) else none
  | _ => none
def pNeg : List D → Option D
  | [.int i] => some (.int (-i))
  | _ => none
def pEq : List D → Option D
  | [.dict [(.list b, .none)], .list []] => some (.bool b.isEmpty)
  | [a, b] => if okEq a b then some (.bool (PyData.eqv a b)) else none
  | _ => none
def pNe : List D → Option D
  | [a, b] => if okEq a b then some (.bool (!PyData.eqv a b)) else none
  | _ => none
def pCmp (f : Int → Int → Bool) : List D → Option D
  | [.int i, .int j] => some (.bool (f i j))
  | _ => none
/-- two data of one form -/
def ltOk (a b : D) : Bool := PySem.W.alike a b && SeqAt.shaped a && SeqAt.shaped b && (match a with | .none => false | _ => true)
def pLt : List D → Option D
  | [.int i, .int j] => some (.bool (decide (i < j)))
  | [a, b] => if ltOk a b then some (.bool (PySem.W.dataLt a b)) else none
  | _ => none
def isNone : D → Bool
  | .none => true
  | _ => false
def pIsN (neg : Bool) : List D → Option D
  | [a] => some (.bool (if neg then !isNone a else isNone a))
  | _ => none
def pIn : List D → Option D
  | [a, .list b] => if okEq a (.list b) then some (.bool (b.any fun z => PyData.eqv z a)) else none
  | [a, .tuple b] => if okEq a (.tuple b) then some (.bool (b.any fun z => PyData.eqv z a)) else none
  | _ => none
def pNin : List D → Option D
  | [a, .list b] => if okEq a (.list b) then some (.bool (!b.any fun z => PyData.eqv z a)) else none
  | [a, .tuple b] => if okEq a (.tuple b) then some (.bool (!b.any fun z => PyData.eqv z a)) else none
  | _ => none
def pIdx : List D → Option D
  | [.dict [(.list b, .none)], .int i] => L2.atI b i
  | [.list b, .int i] => L2.atI b i
  | [.tuple b, .int i] => L2.atI b i
  | _ => none
def pSlT : List D → Option D
  | [.list b, .int i] => some (.list (cutD b (some i) none))
  | [.tuple b, .int i] => some (.tuple (cutD b (some i) none))
  | _ => none
def pSlH : List D → Option D
  | [.list b, .int i] => some (.list (cutD b none (some i)))
  | [.tuple b, .int i] => some (.tuple (cutD b none (some i)))
  | _ => none
def pSlB : List D → Option D
  | [.list b, .int i, .int j] => some (.list (cutD b (some i) (some j)))
  | [.tuple b, .int i, .int j] => some (.tuple (cutD b (some i) (some j)))
  | _ => none
/-- the first place of an equal one -/
def idxOfD (d : D) : List D → Option Nat
  | [] => none
  | x :: xs => if PyData.eqv x d then some 0 else (idxOfD d xs).map (· + 1)
def pIndex : List D → Option D
  | [.list b, d] => if SeqAt.shaped (.list b) && SeqAt.shaped d then (idxOfD d b).map fun j => .int (j : Nat) else none
  | _ => none
/-- the place of a whole number in a tuple of such -/
def pTIndex : List D → Option D
  | [.tuple b, .int k] => (match intsD b with
    | some ns => if k ∈ ns then some (.int (ns.idxOf k : Nat)) else none
    | none => none)
  | _ => none
def pLen : List D → Option D
  | [.dict [(.list b, .none)]] => some (.int b.length)
  | [.list b] => some (.int b.length)
  | [.tuple b] => some (.int b.length)
  | [.str b] => if b.length ≤ sizeLine then some (.int b.length) else none
  | _ => none
def pTuple : List D → Option D
  | [.list b] => some (.tuple b)
  | [.tuple b] => some (.tuple b)
  | _ => none
/-- a dict's keys, where they are numbers -/
def keysD : List (D × D) → Option (List D)
  | [] => some []
  | (.int i, _) :: r => (keysD r).map (.int i :: ·)
  | _ => none
def pList : List D → Option D
  | [.list b] => some (.list b)
  | [.tuple b] => some (.list b)
  | [.dict es] => if es.length ≤ sizeLine then (keysD es).map .list else none
  | _ => none
def pAll : List D → Option D
  | [.list b] => (boolsD b).map fun bs => .bool (bs.all id)
  | _ => none
def pAny : List D → Option D
  | [.list b] => (boolsD b).map fun bs => .bool (bs.any id)
  | _ => none
def pMin2 : List D → Option D
  | [.int i, .int j] => some (.int (if j < i then j else i))
  | _ => none
def pMax2 : List D → Option D
  | [.int i, .int j] => some (.int (if j > i then j else i))
  | _ => none
def pInt : List D → Option D
  | [.int i] => some (.int i)
  | [.bool b] => some (.int (if b then 1 else 0))
  | _ => none
def nubI : List Int → List Int
  | [] => []
  | x :: xs => if x ∈ nubI xs then nubI xs else x :: nubI xs
/-- len(set(..)) -/
def pLenSet : List D → Option D
  | [.list ds] => (match intsD ds with
    | some ns => if ns.length ≤ 4000 then some (.int ((nubI ns).length : Nat)) else none
    | none => none)
  | _ => none
def pRev : List D → Option D
  | [.list b] => some (.list b.reverse)
  | [.tuple b] => some (.tuple b.reverse)
  | _ => none
def pAbs : List D → Option D
  | [.int i] => some (.int (if i < 0 then -i else i))
  | _ => none
/-- a value's type's name -/
def tyD : D → String
  | .none => "NoneType"
  | .bool _ => "bool"
  | .int _ => "int"
  | .str _ => "str"
  | .list _ => "list"
  | .tuple _ => "tuple"
  | .dict _ => "dict"
def isA : Op → D → Option Bool
  | _, .dict _ => none
  | .isInt, .int _ => some true
  | .isInt, .bool _ => some true
  | .isBool, .bool _ => some true
  | .isTup, .tuple _ => some true
  | .isStr, .str _ => some true
  | .isList, .list _ => some true
  | _, _ => some false
def pIsA (k : Op) : List D → Option D
  | [a] => (isA k a).map .bool
  | _ => none
/-! sorted -/
/-- two data can be compared, all of one form -/
def srtOk (ds : List D) : Bool := ds.all (fun d => SeqAt.shaped d && decide (d.depth ≤ 32) && ds.all fun e => PySem.W.alike d e) &&
  (ds.all (fun d => match d with | .tuple (_ :: _) => true | _ => false) || ds.all (fun d => match d with | .tuple _ => false | .none => false | _ => true))
def isTupD : D → Bool
  | .tuple _ => true
  | _ => false
def isNilD : D → Bool
  | .tuple [] => true
  | _ => false
/-- tuples, the first one empty -/
def srtOk3 (ds : List D) : Bool := (ds.all (fun d => SeqAt.shaped d && decide (d.depth ≤ 32) && ds.all fun e => PySem.W.alike d e) && ds.all isTupD) && (match ds with | d :: _ => isNilD d | [] => false)
def leD : D → D → Bool := PySem.W.dataLe false id
def srtD (ds : List D) : List D := ds.mergeSort leD
/-- pairs of small numbers -/
def pairsD : List D → Option (List (Int × Int))
  | [] => some []
  | .tuple [.int i, .int j] :: r => if 0 ≤ i ∧ i < 64 ∧ 0 ≤ j ∧ j < 64 then (pairsD r).map ((i, j) :: ·) else none
  | _ :: _ => none
def pairLe (p q : Int × Int) : Bool := decide (p.1 * 64 + p.2 ≤ q.1 * 64 + q.2)
def pairD (p : Int × Int) : D := .tuple [.int p.1, .int p.2]
def nubP : List (Int × Int) → List (Int × Int)
  | [] => []
  | x :: xs => if x ∈ nubP xs then nubP xs else x :: nubP xs
theorem nubP_mem {p : Int × Int} : ∀ {ps : List (Int × Int)}, p ∈ nubP ps ↔ p ∈ ps
  | [] => Iff.rfl
  | x :: xs => by
    unfold nubP
    have ih := nubP_mem (p := p) (ps := xs)
    split
    · rename_i h
      rw [ih, List.mem_cons]
      exact ⟨.inr, fun z => z.elim (fun e => by rw [e]; exact nubP_mem.mp h) id⟩
    · rw [List.mem_cons, List.mem_cons, ih]
theorem nubP_nodup : ∀ ps : List (Int × Int), (nubP ps).Nodup
  | [] => List.nodup_nil
  | x :: xs => by
    unfold nubP
    split
    · exact nubP_nodup xs
    · rename_i h
      exact List.nodup_cons.mpr ⟨h, nubP_nodup xs⟩
def srtP (ps : List (Int × Int)) : List (Int × Int) := (nubP ps).mergeSort pairLe

def pSrt : List D → Option D
  | [.list ds] => if srtOk ds then some (.list (srtD ds)) else if srtOk3 ds then some (.list (srtD ds)) else none
  | [.tuple ds] => if srtOk ds then some (.list (srtD ds)) else if srtOk3 ds then some (.list (srtD ds)) else none
  | _ => none
def mmOk (ds : List D) : Bool := ds.all fun d => SeqAt.shaped d && decide (d.depth ≤ 32) && !(match d with | .none => true | _ => false) && ds.all fun e => PySem.W.alike d e
def pMM (pick : D → List D → D) : List D → Option D
  | [.list (d :: ds)] => if mmOk (d :: ds) then some (pick d ds) else none
  | [.tuple (d :: ds)] => if mmOk (d :: ds) then some (pick d ds) else none
  | _ => none
def rgD (i j : Int) : List D := (List.range (j - i).toNat).map fun (k : Nat) => .int (i + k)
def pLrg : List D → Option D
  | [.int j] => if -1000000 ≤ j ∧ j ≤ 1000000 then some (.list (rgD 0 j)) else none
  | _ => none
def pTrg : List D → Option D
  | [.int j] => if -1000000 ≤ j ∧ j ≤ 1000000 then some (.tuple (rgD 0 j)) else none
  | _ => none
def pLrg2 : List D → Option D
  | [.int i, .int j] => if -1000000 ≤ i ∧ i ≤ 1000000 ∧ -1000000 ≤ j ∧ j ≤ 1000000 then some (.list (rgD i j)) else none
  | _ => none
def pLenSetP : List D → Option D
  | [.list ds] => (match pairsD ds with
    | some ps => if ps.length < 64 then some (.int ((nubP ps).length : Nat)) else none
    | none => none)
  | _ => none
def pSrtSet : List D → Option D
  | [.tuple ds] => (match pairsD ds with
    | some ps => if ps.length < 64 then some (.list ((srtP ps).map pairD)) else if (nubP ps).length < 63 then some (.list ((srtP ps).map pairD)) else none
    | none => none)
  | _ => none
def prim : Op → List D → Option D
  | .add => pAdd
  | .sub => pSub
  | .mul => pMul
  | .mod => pMod
  | .fdiv => pFdiv
  | .pow => pPow
  | .neg => pNeg
  | .eq => pEq
  | .ne => pNe
  | .lt => pLt
  | .le => pCmp fun i j => decide (i ≤ j)
  | .gt => pCmp fun i j => decide (j < i)
  | .ge => pCmp fun i j => decide (j ≤ i)
  | .isN => pIsN false
  | .notN => pIsN true
  | .inn => pIn
  | .nin => pNin
  | .idx => pIdx
  | .slT => pSlT
  | .slH => pSlH
  | .slB => pSlB
  | .rev => pRev
  | .lenSet => pLenSet
  | .lenSetP => pLenSetP
  | .index => pIndex
  | .tindex => pTIndex
  | .len => pLen
  | .tuple => pTuple
  | .list => pList
  | .allB => pAll
  | .anyB => pAny
  | .min2 => pMin2
  | .max2 => pMax2
  | .intOf => pInt
  | .absI => pAbs
  | .srt => pSrt
  | .minL => pMM PySem.W.minD
  | .maxL => pMM PySem.W.maxD
  | .lrg => pLrg
  | .lrg2 => pLrg2
  | .trg => pTrg
  | .srtSet => pSrtSet
  | .isInt => pIsA .isInt
  | .isBool => pIsA .isBool
  | .isTup => pIsA .isTup
  | .isStr => pIsA .isStr
  | .isList => pIsA .isList
  | _ => fun _ => none

/-- a list without its place j, what stood there -/
def popAt (xs : List D) (j : Int) : Option (D × List D) := if 0 ≤ j ∧ j < xs.length ∧ j < 2 ^ 62 then (xs[j.toNat]?).map fun y => (y, xs.eraseIdx j.toNat) else none

/-- whose method it is -/
def recvOk : Op → D → Bool
  | .index, .list _ => true
  | .split, .str _ => true
  | .join, .str _ => true
  | .strip, .str _ => true
  | _, _ => false

/-! ### dicts: keys that are ints; or tuples of ints (then the first entry is a mark) -/
def keyOf : D → Option (Sum Int (List Int))
  | .int i => some (.inl i)
  | .tuple ds => (intsD ds).map .inr
  | _ => none
def valD (k : Sum Int (List Int)) : List (D × D) → Option D
  | [] => none
  | (c, v) :: r => if keyOf c = some k then some v else valD k r
def putD (kd v : D) (es : List (D × D)) : List (D × D) :=
  if es.any (fun p => decide (keyOf p.1 = keyOf kd)) then es.map (fun p => if keyOf p.1 = keyOf kd then (p.1, v) else p) else es ++ [(kd, v)]
def markD : D × D := (.none, .none)
def emptyD (t : Bool) : D := .dict (if t then [markD] else [])
def dictOf : D → Option (Bool × List (D × D))
  | .dict ((.none, .none) :: es) => some (true, es)
  | .dict ((.list _, _) :: _) => none
  | .dict es => some (false, es)
  | _ => none
def mkDict (t : Bool) (es : List (D × D)) : D := .dict (if t then markD :: es else es)
def keyOk (t : Bool) (k : D) : Option (Sum Int (List Int)) := match t, keyOf k with
  | false, some (.inl i) => some (.inl i)
  | true, some (.inr i) => some (.inr i)
  | _, _ => none
def pGet (d k : D) : Option D := (dictOf d).bind fun p => (keyOk p.1 k).bind fun q => valD q p.2
def pHas (neg : Bool) (d k : D) : Option D := (dictOf d).bind fun p => (keyOk p.1 k).map fun q => .bool (if neg then !(valD q p.2).isSome else (valD q p.2).isSome)
def pPut (d k v : D) : Option D := (dictOf d).bind fun p => (keyOk p.1 k).bind fun _ => if p.2.length < sizeLine then some (mkDict p.1 (putD k v p.2)) else none

/-- pairs (a tuple of numbers, a value) -/
def pairsKV : List D → Option (List (D × D))
  | [] => some []
  | .tuple [k, v] :: r => (match keyOf k with
    | some (.inr _) => (pairsKV r).map ((k, v) :: ·)
    | _ => none)
  | _ => none
def mergeD (kvs : List (D × D)) : List (D × D) := kvs.foldl (fun m p => putD p.1 p.2 m) []
def pDict : D → Option D
  | .list ds => (pairsKV ds).map fun kvs => mkDict true (mergeD kvs)
  | _ => none

/-- the values of a dict's keys, in order -/
def valsD (all : List (D × D)) : List (D × D) → Option (List D)
  | [] => some []
  | (.int i, _) :: r => (valD (.inl i) all).bind fun d => (valsD all r).map (d :: ·)
  | _ => none
/-- one more in its group -/
def addG (r : Int) (x : D) : List (Int × List D) → List (Int × List D)
  | [] => [(r, [x])]
  | (c, ds) :: gs => if c = r then (c, ds ++ [x]) :: gs else (c, ds) :: addG r x gs
def grpD (gs : List (Int × List D)) : D := .dict (gs.map fun g => (.int g.1, .list g.2))

/-! ### the evaluator -/
/-- what is known of the defs: by number, which parameters are owned, what it does; what the module's constants are -/
structure Gam where
  fn : Nat → Option (List Bool × Fn)
  gl : Nat → Option D
  /-- what the handler tells of an own exception -/
  wh : Nat → Option D

def resolve (env : En) : List (Sum D Nat) → Option (List D)
  | [] => some []
  | .inl d :: r => (resolve env r).map (d :: ·)
  | .inr i :: r => (getA env i).bind fun d => (resolve env r).map (d :: ·)
/-- for a call: an owned argument is an owned object -/
def resolveM (env : En) : List (Sum D Nat) → Option (List D)
  | [] => some []
  | .inl d :: r => (resolveM env r).map (d :: ·)
  | .inr i :: r => (getM env i).bind fun d => (resolveM env r).map (d :: ·)
def modesOf : List (Sum D Nat) → List Bool
  | [] => []
  | .inl _ :: r => false :: modesOf r
  | .inr _ :: r => true :: modesOf r
def ownsOf : List (Sum D Nat) → List Nat
  | [] => []
  | .inl _ :: r => ownsOf r
  | .inr i :: r => i :: ownsOf r
/-- what the owned arguments hold behind a call -/
def putOuts : List Nat → List D → En → Option En
  | [], [], env => some env
  | i :: is, d :: ds, env => putOuts is ds (setM env i d)
  | _, _, _ => none
def nodupB : List Nat → Bool
  | [] => true
  | x :: xs => !xs.contains x && nodupB xs

def callF (ms : List Bool) (fn : Fn) (vs : List (Sum D Nat)) (env : En) : R D :=
  if ms = modesOf vs ∧ nodupB (ownsOf vs) = true then
    match resolveM env vs with
    | none => .stuck
    | some ds => match fn ds with
      | .ok d outs => (match putOuts (ownsOf vs) outs env with
        | some env' => .ok d env'
        | none => .stuck)
      | .exc c outs => (match putOuts (ownsOf vs) outs env with
        | some env' => .exc c env'
        | none => .stuck)
      | .stuck => .stuck
  else .stuck

/-- a call whose last argument is a new dict -/
def callFN (t : Bool) (ms : List Bool) (fn : Fn) (vs : List (Sum D Nat)) (env : En) : R D :=
  if ms = modesOf vs ++ [true] ∧ nodupB (ownsOf vs) = true then
    match resolveM env vs with
    | none => .stuck
    | some ds => match fn (ds ++ [emptyD t]) with
      | .ok d outs => (match putOuts (ownsOf vs) outs.dropLast env with
        | some env' => .ok d env'
        | none => .stuck)
      | .exc c outs => (match putOuts (ownsOf vs) outs.dropLast env with
        | some env' => .exc c env'
        | none => .stuck)
      | .stuck => .stuck
  else .stuck

/-- the items of an owned list, or with their places -/
def ownIt (en : Bool) (ds : List D) : List D := if en then ((List.range ds.length).zip ds).map fun p => .tuple [.int p.1, p.2] else ds
/-- behind a loop over an owned list it is there again -/
def backM (i : Nat) (d : D) (r : Fl) : Fl := match r with
  | .nx env => .nx (setM env i d)
  | r => r
mutual
/-- data without a list or a dict -/
def noL : D → Bool
  | .list _ => false
  | .dict _ => false
  | .tuple ds => noLs ds
  | _ => true
def noLs : List D → Bool
  | [] => true
  | d :: ds => noL d && noLs ds
end
def isIntD : D → Bool
  | .int _ => true
  | _ => false
/-- what may lie in a list that a call hands to its caller to change -/
def itemOk : D → Bool
  | .list ds => ds.all isIntD
  | d => noL d
def itemsOk : D → Bool
  | .list es => es.all itemOk
  | _ => false
/-- the script -/
def isScr : D → Bool
  | .dict [(.list _, .none)] => true
  | _ => false
/-- a list of data without a list -/
def outOk : D → Bool
  | .list es => noLs es
  | _ => false
def argF (d : D) : Bool := noL d || isScr d || outOk d
/-- the arguments of a call whose list is the caller's own -/
def argsF : List Bool → List D → Bool
  | [], [] => true
  | false :: ms, d :: ds => argF d && argsF ms ds
  | true :: ms, d :: ds => outOk d && argsF ms ds
  | _, _ => false
def noStrD : D → Bool
  | .str _ => false
  | _ => true
def kindN : D → Nat
  | .none => 0
  | .bool _ => 1
  | .int _ => 2
  | .str _ => 3
  | .list _ => 4
  | .tuple _ => 5
  | .dict _ => 6
mutual
/-- no value bears both -/
def apart : D → D → Bool
  | .list xs, .list ys => apartL xs ys
  | .tuple xs, .tuple ys => xs.all noStrD && ys.all noStrD && apartL xs ys
  | .list _, .tuple ys => ys.all noStrD
  | .tuple xs, .list _ => xs.all noStrD
  | .int i, .int j => i != j
  | .dict _, _ => false
  | x, .dict _ => false
  | x, y => kindN x != kindN y
def apartL : List D → List D → Bool
  | [], [] => false
  | [], _ :: _ => true
  | _ :: _, [] => true
  | x :: xs, y :: ys => apart x y || apartL xs ys
end
/-- the known lists that go in are not what comes back -/
def apartA : List Bool → List D → D → Bool
  | false :: ms, .list es :: ds, d => apart (.list es) d && apartA ms ds d
  | _ :: ms, _ :: ds, d => apartA ms ds d
  | _, _, _ => true
/-- a call whose list is the caller's own -/
def callFF (ms : List Bool) (fn : Fn) (vs : List (Sum D Nat)) (env : En) : R D :=
  if ms = modesOf vs ∧ nodupB (ownsOf vs) = true then
    match resolveM env vs with
    | none => .stuck
    | some ds => if argsF ms ds then (match fn ds with
      | .ok d outs => if itemsOk d && (apartA ms ds d && outs.all outOk) then (match putOuts (ownsOf vs) outs env with
        | some env' => .ok d env'
        | none => .stuck) else .stuck
      | _ => .stuck) else .stuck
  else .stuck
/-- no known list goes in -/
def noLstA : List Bool → List D → Bool
  | false :: _, .list _ :: _ => false
  | _ :: ms, _ :: ds => noLstA ms ds
  | _, _ => true
/-- two lists -/
def pairF (d : D) : Option (List D × List D) := match d with
  | .tuple [.list a, .list b] => if noLs a && noLs b && apart (.list a) (.list b) then some (a, b) else none
  | _ => none
/-- a call that tells two lists, the second one the caller's own -/
def callFP (ms : List Bool) (fn : Fn) (vs : List (Sum D Nat)) (env : En) : R (List D × List D) :=
  if ms = modesOf vs ∧ nodupB (ownsOf vs) = true then
    match resolveM env vs with
    | none => .stuck
    | some ds => if argsF ms ds && noLstA ms ds then (match fn ds with
      | .ok d outs => (match pairF d with
        | some p => if outs.all outOk then (match putOuts (ownsOf vs) outs env with
          | some env' => .ok p env'
          | none => .stuck) else .stuck
        | none => .stuck)
      | _ => .stuck) else .stuck
  else .stuck
/-- whether it holds -/
def truthD : D → Option Bool
  | .none => some false
  | .list ds => some (!ds.isEmpty)
  | _ => none

/-- a comprehension's turns: body gives none (the item is left out) or the new item -/
def compR (body : D → En → R (Option D)) : List D → List D → En → R (List D)
  | [], acc, env => .ok acc env
  | x :: xs, acc, env => (body x env).bind fun o env' => match o with
    | some d => compR body xs (acc ++ [d]) env'
    | none => compR body xs acc env'
def forR (body : D → En → Fl) (kill : List Nat) : List D → En → Fl
  | [], env => .nx env
  | x :: xs, env => match body x env with
    | .nx env' => forR body kill xs (killE env' kill)
    | .cnt env' => forR body kill xs (killE env' kill)
    | .brk env' => .nx (killE env' kill)
    | .ret d env' => .ret d env'
    | .exc c env' => .exc c env'
    | .stuck => .stuck
def whileR (c : En → R D) (body : En → Fl) (kill : List Nat) : Nat → En → Fl
  | 0, _ => .stuck
  | n + 1, env => match c env with
    | .ok (.bool true) env' => (match body env' with
      | .nx env2 => whileR c body kill n (killE env2 kill)
      | .cnt env2 => whileR c body kill n (killE env2 kill)
      | .brk env2 => .nx (killE env2 kill)
      | .ret d env2 => .ret d env2
      | .exc c env2 => .exc c env2
      | .stuck => .stuck)
    | .ok (.bool false) env' => .nx (killE env' kill)
    | .exc c env' => .exc c env'
    | _ => .stuck

def itSeq : List D → Option (List D)
  | [.list xs] => some xs
  | [.tuple xs] => some xs
  | _ => none
def itRng : List D → Option (List D)
  | [.int j] => if -1000000 ≤ j ∧ j ≤ 1000000 then some ((List.range j.toNat).map fun (i : Nat) => .int i) else none
  | _ => none
def itRng2 : List D → Option (List D)
  | [.int i, .int j] => if -1000000 ≤ i ∧ i ≤ 1000000 ∧ -1000000 ≤ j ∧ j ≤ 1000000 then some ((List.range (j - i).toNat).map fun (k : Nat) => .int (i + k)) else none
  | _ => none
def itZip : List D → Option (List D)
  | [.list xs, .list ys] => some ((xs.zip ys).map fun p => .tuple [p.1, p.2])
  | [.tuple xs, .tuple ys] => some ((xs.zip ys).map fun p => .tuple [p.1, p.2])
  | [.list xs, .tuple ys] => some ((xs.zip ys).map fun p => .tuple [p.1, p.2])
  | _ => none
def itEnum : List D → Option (List D)
  | [.list xs] => some (((List.range xs.length).zip xs).map fun p => .tuple [.int p.1, p.2])
  | _ => none

mutual
def ev (G : Gam) : E → En → R D
  | .var i, env => R.of (getE env i) env
  | .move i, env => (match getA env i with
    | some d => .ok d (setE env i d)
    | none => .stuck)
  | .cst d, env => .ok d env
  | .glob n, env => R.of (G.gl n) env
  | .op k as, env => (evAs G as env).bind fun vs env' => R.of ((resolve env' vs).bind (prim k)) env'
  | .and a b, env => (ev G a env).bind fun x env' => (match x with
    | .bool true => ev G b env'
    | .bool false => .ok (.bool false) env'
    | _ => .stuck)
  | .or a b, env => (ev G a env).bind fun x env' => (match x with
    | .bool true => .ok (.bool true) env'
    | .bool false => ev G b env'
    | _ => .stuck)
  | .not a, env => (ev G a env).bind fun x env' => (match x with
    | .bool b => .ok (.bool (!b)) env'
    | _ => .stuck)
  | .ite c a b, env => (ev G c env).bind fun x env' => (match x with
    | .bool true => ev G a env'
    | .bool false => ev G b env'
    | _ => .stuck)
  | .leLe a b c, env => (ev G a env).bind fun x env1 => (ev G b env1).bind fun y env2 => (match x, y with
    | .int i, .int j => if i ≤ j then ((ev G c env2).bind fun z env3 => (match z with
        | .int k => .ok (.bool (decide (j ≤ k))) env3
        | _ => .stuck)) else .ok (.bool false) env2
    | _, _ => .stuck)
  | .tup as, env => (evAs G as env).bind fun vs env' => R.of (((resolve env' vs).bind fun ds => if (ownsOf vs).isEmpty && decide (ds.length ≤ sizeLine) then some (.tuple ds) else none)) env'
  | .lst as, env => (evAs G as env).bind fun vs env' => R.of (((resolve env' vs).bind fun ds => if (ownsOf vs).isEmpty && decide (ds.length ≤ sizeLine) then some (.list ds) else none)) env'
  | .call f as, env => (match G.fn f with
    | none => .stuck
    | some mf => (evAs G as env).bind fun vs env' => callF mf.1 mf.2 vs env')
  | .sel fs ix as, env => (ev G ix env).bind fun x env1 => (match x with
    | .int j => (match (L2.atI fs j).bind G.fn with
      | some mf => (evAs G as env1).bind fun vs env' => callF mf.1 mf.2 vs env'
      | none => .stuck)
    | _ => .stuck)
  | .pop i e, env => if isListM env i then (ev G e env).bind fun x env' => (match getM env' i, x with
      | some (.list xs), .int j => (match popAt xs j with
        | some (y, ys) => .ok y (setM env' i (.list ys))
        | none => .stuck)
      | _, _ => .stuck) else .stuck
  | .slB a lo hi, env => (evA G a env).bind fun v env1 => (ev G lo env1).bind fun x env2 => (match x with
    | .int i => (ev G hi env2).bind fun y env3 => (match y with
      | .int j => R.of ((resolve env3 [v]).bind fun ds => pSlB (ds ++ [.int i, .int j])) env3
      | _ => .stuck)
    | _ => .stuck)
  | .dget a k, env => (evA G a env).bind fun v env1 => (ev G k env1).bind fun x env2 => R.of ((resolve env2 [v]).bind fun ds => match ds with | [d] => pGet d x | _ => none) env2
  | .din neg k a, env => (ev G k env).bind fun x env1 => (evA G a env1).bind fun v env2 => R.of ((resolve env2 [v]).bind fun ds => match ds with | [d] => pHas neg d x | _ => none) env2
  | .callN t f as, env => (match G.fn f with
    | none => .stuck
    | some mf => (evAs G as env).bind fun vs env' => callFN t mf.1 mf.2 vs env')
  | .callF f as, env => (match G.fn f with
    | none => .stuck
    | some mf => (evAs G as env).bind fun vs env' => callFF mf.1 mf.2 vs env')
  | .orT a b, env => (ev G a env).bind fun x env' => (match truthD x with
    | some true => .ok x env'
    | some false => ev G b env'
    | none => .stuck)
  | .vals i t, env => (match getM env i with
    | some (.dict es) => (match valsD es es with
      | some vs => if i ≠ t ∧ t < env.length ∧ vs.length < sizeLine then .ok (.list vs) env else .stuck
      | none => .stuck)
    | _ => .stuck)
  | .mth k a as, env => (evA G a env).bind fun v env1 => (match resolve env1 [v] with
    | some [d] => if recvOk k d then (evAs G as env1).bind fun vs env' => R.of ((resolve env' (v :: vs)).bind (prim k)) env' else .stuck
    | _ => .stuck)
  | .lc elt tg one it cond, env => (evIt G it env).bind fun items env1 =>
      (compR (fun x e => match tgE tg one x e with
        | none => .stuck
        | some e1 => (match cond with
          | none => (ev G elt e1).bind fun d e2 => .ok (some d) (killE e2 tg)
          | some c => (ev G c e1).bind fun b e2 => (match b with
            | .bool true => (ev G elt e2).bind fun d e3 => .ok (some d) (killE e3 tg)
            | .bool false => .ok none (killE e2 tg)
            | _ => .stuck))) items [] (killE env1 tg)).noexc.bind fun ds env2 => .ok (.list ds) (backE tg env1 env2)
  | .lcO elt tg one en i cond, env => (match getM env i with
    | some (.list ds) => if i ∈ tg then .stuck else
      (compR (fun x e => match tgE tg one x e with
        | none => .stuck
        | some e1 => (match cond with
          | none => (ev G elt e1).bind fun d e2 => .ok (some d) (killE e2 tg)
          | some c => (ev G c e1).bind fun b e2 => (match b with
            | .bool true => (ev G elt e2).bind fun d e3 => .ok (some d) (killE e3 tg)
            | .bool false => .ok none (killE e2 tg)
            | _ => .stuck))) (ownIt en ds) [] (killE (killE env [i]) tg)).noexc.bind fun xs env2 => .ok (.list xs) (setM (backE tg (killE env [i]) env2) i (.list ds))
    | _ => .stuck)
def evA (G : Gam) : A → En → R (Sum D Nat)
  | .imm e, env => (ev G e env).bind fun d env' => .ok (.inl d) env'
  | .own i, env => (match getA env i with
    | some _ => .ok (.inr i) env
    | none => .stuck)
def evAs (G : Gam) : List A → En → R (List (Sum D Nat))
  | [], env => .ok [] env
  | a :: as, env => (evA G a env).bind fun v env1 => (evAs G as env1).bind fun vs env2 => .ok (v :: vs) env2
def evIt (G : Gam) : It → En → R (List D)
  | .seq a, env => (evA G a env).bind fun v env' => R.of ((resolve env' [v]).bind itSeq) env'
  | .rng a, env => (evA G a env).bind fun v env' => R.of ((resolve env' [v]).bind itRng) env'
  | .rng2 a b, env => (evA G a env).bind fun v env1 => (evA G b env1).bind fun u env' => R.of ((resolve env' [v, u]).bind itRng2) env'
  | .zip a b, env => (evA G a env).bind fun v env1 => (evA G b env1).bind fun u env' => R.of ((resolve env' [v, u]).bind itZip) env'
  | .enum a, env => (evA G a env).bind fun v env' => R.of ((resolve env' [v]).bind itEnum) env'
  | .dk _, _ => .stuck
end

/-- things put into groups by a key -/
def grpR (ek : En → R D) (t : Nat) : List D → List (Int × List D) → En → R (List (Int × List D))
  | [], gs, env => .ok gs env
  | x :: xs, gs, env => (ek (setE env t x)).bind fun d env' => match d with
    | .int r => grpR ek t xs (addG r x gs) (killE env' [t])
    | _ => .stuck
def flOf (r : R Fl) : Fl := match r with
  | .ok f _ => f
  | .exc c env => .exc c env
  | .stuck => .stuck
def Fl.seq (f : Fl) (k : En → Fl) : Fl := match f with
  | .nx env => k env
  | f => f
@[simp] theorem Fl.seq_nx (env : En) (k : En → Fl) : (Fl.nx env).seq k = k env := rfl
@[simp] theorem Fl.seq_ret (d : D) (env : En) (k : En → Fl) : (Fl.ret d env).seq k = .ret d env := rfl
@[simp] theorem Fl.seq_brk (env : En) (k : En → Fl) : (Fl.brk env).seq k = .brk env := rfl
@[simp] theorem Fl.seq_cnt (env : En) (k : En → Fl) : (Fl.cnt env).seq k = .cnt env := rfl
@[simp] theorem Fl.seq_exc (c : Nat) (env : En) (k : En → Fl) : (Fl.exc c env).seq k = .exc c env := rfl
@[simp] theorem Fl.seq_stuck (k : En → Fl) : Fl.stuck.seq k = .stuck := rfl
@[simp] theorem flOf_ok (f : Fl) (env : En) : flOf (.ok f env) = f := rfl
@[simp] theorem flOf_exc (c : Nat) (env : En) : flOf (.exc c env) = .exc c env := rfl
@[simp] theorem flOf_stuck : flOf .stuck = .stuck := rfl

mutual
def ex (G : Gam) : S → En → Fl
  | .asg i e, env => flOf ((ev G e env).bind fun d env' => .ok (.nx (setE env' i d)) [])
  | .asgM i e, env => flOf ((ev G e env).bind fun d env' => .ok (match d with
      | .list _ => .nx (setM env' i d)
      | _ => .stuck) [])
  | .unp is e, env => flOf ((ev G e env).bind fun d env' => .ok (match tgL is d env' with
      | some env2 => .nx env2
      | none => .stuck) [])
  | .par i j a b, env => flOf ((ev G a env).bind fun x env1 => (ev G b env1).bind fun y env2 => .ok (.nx (setE (setE env2 i x) j y)) [])
  | .app i a, env => flOf (.bind (if isListM env i then ev G a env else .stuck) fun d env' => .ok (match getM env' i with
      | some (.list xs) => if xs.length < sizeLine then .nx (setM env' i (.list (xs ++ [d]))) else .stuck
      | _ => .stuck) [])
  | .ext i a, env => flOf (.bind (if isListM env i then ev G a env else .stuck) fun d env' => .ok (match getM env' i, d with
      | some (.list xs), .list ys => if xs.length + ys.length ≤ sizeLine then .nx (setM env' i (.list (xs ++ ys))) else .stuck
      | some (.list xs), .tuple ys => if xs.length + ys.length ≤ sizeLine then .nx (setM env' i (.list (xs ++ ys))) else .stuck
      | _, _ => .stuck) [])
  | .setI i k v, env => flOf ((ev G v env).bind fun d env1 => (if isListM env1 i then ev G k env1 else .stuck).bind fun kd env2 => .ok (match getM env2 i, kd with
      | some (.list xs), .int j => (match L2.ixN xs.length j with
        | some n => .nx (setM env2 i (.list (xs.set n d)))
        | none => .stuck)
      | _, _ => .stuck) [])
  | .newD i t, env => .nx (setM env i (emptyD t))
  | .setD i k v, env => flOf ((ev G v env).bind fun d env1 => (if isDictM env1 i then ev G k env1 else .stuck).bind fun kd env2 => .ok (match (getM env2 i).bind fun c => pPut c kd d with
      | some c => .nx (setM env2 i c)
      | none => .stuck) [])
  | .asgD i e, env => flOf ((ev G e env).bind fun d env' => .ok (match pDict d with
      | some c => .nx (setM env' i c)
      | none => .stuck) [])
  | .drop e, env => flOf ((ev G e env).bind fun _ env' => .ok (.nx env') [])
  | .ite c a b, env => flOf ((ev G c env).bind fun x env' => .ok (match x with
      | .bool true => exs G a env'
      | .bool false => exs G b env'
      | _ => .stuck) [])
  | .for_ tg one it kill body, env => flOf ((evIt G it env).bind fun items env' => .ok (forR (fun x e => match tgE tg one x e with
      | none => .stuck
      | some e1 => exs G body e1) kill items (killE env' kill)) [])
  | .while_ fuel c kill body, env => whileR (fun e => ev G c e) (fun e => exs G body e) kill fuel (killE env kill)
  | .ret e, env => flOf ((ev G e env).bind fun d env' => .ok (.ret d env') [])
  | .raise c, env => .exc c env
  | .tryO _ body, env => (match exs G body env with
    | .exc c env' => (match G.wh c with
      | some d => .ret d env'
      | none => .stuck)
    | f => f)
  | .forO tg one en i kill body, env => (match getM env i with
    | some (.list ds) => backM i (.list ds) (forR (fun x e => match tgE tg one x e with
      | none => .stuck
      | some e1 => exs G body e1) kill (ownIt en ds) (killE (killE env [i]) kill))
    | _ => .stuck)
  | .grp t it i k, env => flOf ((evIt G it env).bind fun items env1 => .ok (match getM env1 i with
      | some (.dict []) => if i ≠ t ∧ t < env1.length ∧ items.length ≤ 1000 then flOf ((grpR (fun e => ev G k e) t items [] (killE env1 [t, i])).bind fun gs env2 => .ok (.nx (setM env2 i (grpD gs))) []) else .stuck
      | _ => .stuck) [])
  | .unpF i j f as, env => (match G.fn f with
    | none => .stuck
    | some mf => flOf ((evAs G as env).bind fun vs env' => (callFP mf.1 mf.2 vs env').bind fun p env' => .ok (if i ≠ j then .nx (setM (setE env' i (.list p.1)) j (.list p.2)) else .stuck) []))
  | .junk, _ => .stuck
  | .brk, env => .brk env
  | .cnt, env => .cnt env
  | .pass, env => .nx env
def exs (G : Gam) : List S → En → Fl
  | [], env => .nx env
  | s :: ss, env => (ex G s env).seq fun env' => exs G ss env'
end

structure Def where
  /-- how many slots -/
  n : Nat
  /-- the parameters: is it owned -/
  ps : List Bool
  body : List S

def outsOf (env : En) : List Bool → Nat → Option (List D)
  | [], _ => some []
  | false :: r, i => outsOf env r (i + 1)
  | true :: r, i => (getM env i).bind fun d => (outsOf env r (i + 1)).map (d :: ·)
def slots : List Bool → List D → En
  | false :: ps, d :: ds => .im d :: slots ps ds
  | true :: ps, d :: ds => .mu d :: slots ps ds
  | _, _ => []
def startE (n : Nat) (ps : List Bool) (ds : List D) : En := slots ps ds ++ List.replicate (n - ds.length) .no
def evDef (G : Gam) (f : Def) : Fn := fun ds =>
  if ds.length = f.ps.length then
    match exs G f.body (startE f.n f.ps ds) with
    | .ret d env => (match outsOf env f.ps 0 with | some outs => .ok d outs | none => .stuck)
    | .nx env => (match outsOf env f.ps 0 with | some outs => .ok .none outs | none => .stuck)
    | .exc c env => (match outsOf env f.ps 0 with | some outs => .exc c outs | none => .stuck)
    | _ => .stuck
  else .stuck

end Nv

set_option Elab.async false
set_option linter.all false
set_option maxRecDepth 100000
/-! Nv2: how the values lie in the heap. -/
namespace Nv
open PySem L2

/-- all that is known stays -/
def Ex (H H' : Hp) : Prop := ∀ a o, H a = some o → H' a = some o
theorem Ex.refl (H : Hp) : Ex H H := fun _ _ h => h
theorem Ex.trans {H H1 H2 : Hp} (a : Ex H H1) (b : Ex H1 H2) : Ex H H2 := fun x o h => b x o (a x o h)
theorem Ex.new {H : Hp} {p : Addr} {o : HO} (h : H p = none) : Ex H (upd H p o) := fun a u e => by
  rw [upd_ne (ne_of_none e h)]
  exact e
theorem ex_rd {H H' : Hp} {a : Addr} {u : HO} (e : Ex H H') (h : Rd H a u) : Rd H' a u := by
  rcases h with h | ⟨o, h⟩
  · exact Or.inl (e a _ h)
  · exact Or.inr ⟨o, e a _ h⟩
theorem ex_l {K : PySem.W.Frag} {H H' : Hp} {a : Addr} {xs : List V} (e : Ex H H') (h : SqL K H a xs) : SqL K H' a xs := by
  rcases h with h | h
  · exact Or.inl (ex_rd e h)
  · exact Or.inr h
theorem ex_t {K : PySem.W.Frag} {H H' : Hp} {a : Addr} {xs : List V} (e : Ex H H') (h : SqT K H a xs) : SqT K H' a xs := by
  rcases h with h | h
  · exact Or.inl (ex_rd e h)
  · exact Or.inr h

def noStrV : V → Bool
  | .str _ => false
  | _ => true
/-- a tuple; one without a text stands in the heap -/
def SqU (K : PySem.W.Frag) (H : Hp) (a : Addr) (xs : List V) : Prop := SqT K H a xs ∧ (xs.all noStrV = true → H a = some (.tup xs))
theorem SqU.of {K : PySem.W.Frag} {H : Hp} {a : Addr} {xs : List V} (h : H a = some (.tup xs)) : SqU K H a xs := ⟨SqT.of h, fun _ => h⟩
theorem ex_u {K : PySem.W.Frag} {H H' : Hp} {a : Addr} {xs : List V} (e : Ex H H') (h : SqU K H a xs) : SqU K H' a xs := ⟨ex_t e h.1, fun z => e _ _ (h.2 z)⟩
theorem noStr_ints (ns : List Int) : (ns.map V.int).all noStrV = true := by
  rw [List.all_map]
  exact List.all_eq_true.mpr fun _ _ => rfl
/-- the script: known to the object -/
def SqF (K : PySem.W.Frag) (H : Hp) (a : Addr) (xs : List V) : Prop := (∃ o, H a = some (.frz o (.lst xs))) ∨
  ∃ (o : Obj) (its : Array Value) (n : Nat), K.lookup a = some o ∧ o.cls = .type "list" ∧ o.dict = none ∧ o.data = .seq its n ∧ its.size ≤ sizeLine ∧ Vals xs its.toList
theorem SqF.l {K : PySem.W.Frag} {H : Hp} {a : Addr} {xs : List V} (h : SqF K H a xs) : SqL K H a xs := by
  rcases h with ⟨o, h⟩ | h
  · exact .inl (.inr ⟨o, h⟩)
  · exact .inr h
theorem ex_f {K : PySem.W.Frag} {H H' : Hp} {a : Addr} {xs : List V} (e : Ex H H') (h : SqF K H a xs) : SqF K H' a xs := by
  rcases h with ⟨o, h⟩ | h
  · exact .inl ⟨o, e _ _ h⟩
  · exact .inr h
mutual
/-- v bears the value d, all of it within F -/
inductive Rp (K : PySem.W.Frag) (F : Hp) : V → D → Prop
  | non : Rp K F .non .none
  | bl (b : Bool) : Rp K F (.bl b) (.bool b)
  | int (i : Int) : Rp K F (.int i) (.int i)
  | str (x : Str) : Rp K F (.str x) (.str x)
  | lst {a : Addr} {vs : List V} {ds : List D} : F a = some (.lst vs) → vs.length ≤ sizeLine → RpA K F vs ds → Rp K F (.ref a) (.list ds)
  | tup {a : Addr} {vs : List V} {ds : List D} : SqU K F a vs → vs.length ≤ sizeLine → RpA K F vs ds → Rp K F (.ref a) (.tuple ds)
  | dk {a : Addr} {kvs : List (Key × V)} {es : List (D × D)} : F a = some (.dK kvs) → RpD K F kvs es → Rp K F (.ref a) (.dict es)
  | dt {a : Addr} {kvs : List (List Key × V)} {es : List (D × D)} : F a = some (.dT kvs) → RpT K F kvs es → Rp K F (.ref a) (.dict (markD :: es))
  | scr {a : Addr} (ns : List Int) : SqF K F a (ns.map V.int) → Rp K F (.ref a) (scr ns)
inductive RpA (K : PySem.W.Frag) (F : Hp) : List V → List D → Prop
  | nil : RpA K F [] []
  | cons {v : V} {vs : List V} {d : D} {ds : List D} : Rp K F v d → RpA K F vs ds → RpA K F (v :: vs) (d :: ds)
inductive RpD (K : PySem.W.Frag) (F : Hp) : List (Key × V) → List (D × D) → Prop
  | nil : RpD K F [] []
  | cons {i : Int} {v : V} {kvs : List (Key × V)} {d : D} {es : List (D × D)} : Rp K F v d → RpD K F kvs es → RpD K F ((Sum.inl i, v) :: kvs) ((.int i, d) :: es)
inductive RpT (K : PySem.W.Frag) (F : Hp) : List (List Key × V) → List (D × D) → Prop
  | nil : RpT K F [] []
  | cons {ks : List Int} {v : V} {kvs : List (List Key × V)} {d : D} {es : List (D × D)} : Rp K F v d → RpT K F kvs es → RpT K F ((ks.map Sum.inl, v) :: kvs) ((.tuple (ks.map .int), d) :: es)
end
/-- what an owned object holds -/
inductive Cont (K : PySem.W.Frag) (F : Hp) : HO → D → Prop
  | lst {vs : List V} {ds : List D} : vs.length ≤ sizeLine → RpA K F vs ds → Cont K F (.lst vs) (.list ds)
  | dk {kvs : List (Key × V)} {es : List (D × D)} : RpD K F kvs es → Cont K F (.dK kvs) (.dict es)
  | dt {kvs : List (List Key × V)} {es : List (D × D)} : RpT K F kvs es → Cont K F (.dT kvs) (.dict (markD :: es))

section
variable {K : PySem.W.Frag} {F F' H H' : Hp}
mutual
theorem Rp.mono0 (e : Ex F F') {d : D} {v : V} : Rp K F v d → Rp K F' v d
  | .non => .non
  | .bl b => .bl b
  | .int i => .int i
  | .str x => .str x
  | .lst h1 h2 h3 => .lst (e _ _ h1) h2 (RpA.mono0 e h3)
  | .tup h1 h2 h3 => .tup (ex_u e h1) h2 (RpA.mono0 e h3)
  | .dk h1 h2 => .dk (e _ _ h1) (RpD.mono0 e h2)
  | .dt h1 h2 => .dt (e _ _ h1) (RpT.mono0 e h2)
  | .scr ns h1 => .scr ns (ex_f e h1)
theorem RpA.mono0 (e : Ex F F') {ds : List D} {vs : List V} : RpA K F vs ds → RpA K F' vs ds
  | .nil => .nil
  | .cons h1 h2 => .cons (Rp.mono0 e h1) (RpA.mono0 e h2)
theorem RpD.mono0 (e : Ex F F') {es : List (D × D)} {kvs : List (Key × V)} : RpD K F kvs es → RpD K F' kvs es
  | .nil => .nil
  | .cons h1 h2 => .cons (Rp.mono0 e h1) (RpD.mono0 e h2)
theorem RpT.mono0 (e : Ex F F') {es : List (D × D)} {kvs : List (List Key × V)} : RpT K F kvs es → RpT K F' kvs es
  | .nil => .nil
  | .cons h1 h2 => .cons (Rp.mono0 e h1) (RpT.mono0 e h2)
end
theorem Rp.mono (e : Ex F F') (d : D) (v : V) (h : Rp K F v d) : Rp K F' v d := h.mono0 e
theorem RpA.mono (e : Ex F F') (ds : List D) (vs : List V) (h : RpA K F vs ds) : RpA K F' vs ds := h.mono0 e
theorem RpD.mono (e : Ex F F') {es : List (D × D)} {kvs : List (Key × V)} (h : RpD K F kvs es) : RpD K F' kvs es := h.mono0 e
theorem RpT.mono (e : Ex F F') {es : List (D × D)} {kvs : List (List Key × V)} (h : RpT K F kvs es) : RpT K F' kvs es := h.mono0 e
theorem Cont.mono (e : Ex F F') {o : HO} {d : D} (h : Cont K F o d) : Cont K F' o d := by
  cases h with
  | lst h1 h2 => exact .lst h1 (h2.mono e)
  | dk h1 => exact .dk (h1.mono e)
  | dt h1 => exact .dt (h1.mono e)
theorem RpA.length : ∀ {vs : List V} {ds : List D}, RpA K F vs ds → vs.length = ds.length
  | _, [], h => by cases h; rfl
  | _, d :: ds, h => by
    cases h with
    | cons h1 h2 => simp [RpA.length h2]
theorem RpA.append : ∀ {vs ws : List V} {ds es : List D}, RpA K F vs ds → RpA K F ws es → RpA K F (vs ++ ws) (ds ++ es)
  | _, _, [], _, h, g => by cases h; exact g
  | _, _, d :: ds, _, h, g => by
    cases h with
    | cons h1 h2 => exact .cons h1 (RpA.append h2 g)
theorem RpA.get : ∀ {vs : List V} {ds : List D} {i : Nat} {d : D}, RpA K F vs ds → ds[i]? = some d → ∃ v, vs[i]? = some v ∧ Rp K F v d
  | _, [], i, d, h, e => by simp at e
  | _, x :: ds, 0, d, h, e => by
    cases h with
    | cons h1 h2 =>
      simp at e
      subst e
      exact ⟨_, rfl, h1⟩
  | _, x :: ds, i + 1, d, h, e => by
    cases h with
    | cons h1 h2 =>
      obtain ⟨v, q, r⟩ := RpA.get (i := i) (d := d) h2 (by simpa using e)
      exact ⟨v, by simpa using q, r⟩
theorem RpA.getV : ∀ {vs : List V} {ds : List D} {i : Nat} {v : V}, RpA K F vs ds → vs[i]? = some v → ∃ d, ds[i]? = some d ∧ Rp K F v d
  | _, [], i, d, h, e => by cases h; simp at e
  | _, x :: ds, 0, d, h, e => by
    cases h with
    | cons h1 h2 =>
      simp at e
      subst e
      exact ⟨_, rfl, h1⟩
  | _, x :: ds, i + 1, d, h, e => by
    cases h with
    | cons h1 h2 =>
      obtain ⟨v, q, r⟩ := RpA.getV (i := i) (v := d) h2 (by simpa using e)
      exact ⟨v, by simpa using q, r⟩
theorem RpA.take : ∀ {vs : List V} {ds : List D} (n : Nat), RpA K F vs ds → RpA K F (vs.take n) (ds.take n)
  | _, _, 0, _ => by simp; exact .nil
  | _, [], n + 1, h => by cases h; exact .nil
  | _, d :: ds, n + 1, h => by
    cases h with
    | cons h1 h2 => exact .cons h1 (RpA.take n h2)
theorem RpA.drop : ∀ {vs : List V} {ds : List D} (n : Nat), RpA K F vs ds → RpA K F (vs.drop n) (ds.drop n)
  | _, _, 0, h => by simpa using h
  | _, [], n + 1, h => by cases h; exact .nil
  | _, d :: ds, n + 1, h => by
    cases h with
    | cons h1 h2 => simpa using RpA.drop n h2
theorem RpA.set : ∀ {vs : List V} {ds : List D} (n : Nat) {v : V} {d : D}, RpA K F vs ds → Rp K F v d → RpA K F (vs.set n v) (ds.set n d)
  | _, [], n, _, _, h, _ => by cases h; exact .nil
  | _, d :: ds, 0, _, _, h, g => by
    cases h with
    | cons h1 h2 => exact .cons g h2
  | _, d :: ds, n + 1, _, _, h, g => by
    cases h with
    | cons h1 h2 => exact .cons h1 (RpA.set n h2 g)
theorem RpA.eraseIdx : ∀ {vs : List V} {ds : List D} (n : Nat), RpA K F vs ds → RpA K F (vs.eraseIdx n) (ds.eraseIdx n)
  | _, [], n, h => by cases h; exact .nil
  | _, d :: ds, 0, h => by
    cases h with
    | cons h1 h2 => exact h2
  | _, d :: ds, n + 1, h => by
    cases h with
    | cons h1 h2 => exact .cons h1 (RpA.eraseIdx n h2)
theorem RpA.rep {vs : List V} {ds : List D} (h : RpA K F vs ds) : ∀ k : Nat, RpA K F (List.replicate k vs).flatten (List.replicate k ds).flatten
  | 0 => .nil
  | k + 1 => by
    rw [List.replicate_succ, List.replicate_succ, List.flatten_cons, List.flatten_cons]
    exact h.append (RpA.rep h k)
theorem RpA.cut {vs : List V} {ds : List D} (h : RpA K F vs ds) (lo hi : Option Int) : RpA K F (cutV vs lo hi) (cutD ds lo hi) := by
  unfold cutV cutD
  rw [h.length]
  exact (h.drop _).take _
/-- as data to be compared -/
theorem shaped_list {ds : List D} {d : D} (h : PyData.canLayAll0 ds = true) (hm : d ∈ ds) : PyData.canLay0 d = true := PyData.canLay0_of_mem ds d h hm
mutual
theorem Rp.dp : ∀ (d : D) (v : V), Rp K F v d → PyData.canLay0 d = true → Dp K F v d
  | .none, _, h, _ => by cases h; exact .non
  | .bool b, _, h, _ => by cases h; exact .bl b
  | .int i, _, h, _ => by cases h; exact .int i
  | .str x, _, h, _ => by cases h; exact .str x
  | .list ds, _, h, c => by
    cases h with
    | lst h1 h2 h3 => exact .lst (SqL.of h1) (RpA.dp ds _ h3 (by simpa [PyData.canLay0] using c))
  | .tuple ds, _, h, c => by
    cases h with
    | tup h1 h2 h3 => exact .tup h1.1 (RpA.dp ds _ h3 (by simpa [PyData.canLay0] using c))
  | .dict _, _, h, c => by simp [PyData.canLay0] at c
theorem RpA.dp : ∀ (ds : List D) (vs : List V), RpA K F vs ds → PyData.canLayAll0 ds = true → DpAll K F vs ds
  | [], _, h, _ => by cases h; exact .nil
  | d :: ds, _, h, c => by
    have c' : PyData.canLay0 d = true ∧ PyData.canLayAll0 ds = true := by simpa [PyData.canLayAll0] using c
    cases h with
    | cons h1 h2 => exact .cons (Rp.dp d _ h1 c'.1) (RpA.dp ds _ h2 c'.2)
end
mutual
theorem dpEx {F F' : Hp} (e : Ex F F') : ∀ (d : D) (v : V), Dp K F v d → Dp K F' v d
  | .none, _, h => by cases h; exact .non
  | .bool b, _, h => by cases h; exact .bl b
  | .int i, _, h => by cases h; exact .int i
  | .str x, _, h => by cases h; exact .str x
  | .list ds, _, h => by
    cases h with
    | lst h1 h3 => exact .lst (ex_l e h1) (dpAllEx e ds _ h3)
  | .tuple ds, _, h => by
    cases h with
    | tup h1 h3 => exact .tup (ex_t e h1) (dpAllEx e ds _ h3)
  | .dict _, _, h => by cases h
theorem dpAllEx {F F' : Hp} (e : Ex F F') : ∀ (ds : List D) (vs : List V), DpAll K F vs ds → DpAll K F' vs ds
  | [], _, h => by cases h; exact .nil
  | d :: ds, _, h => by
    cases h with
    | cons h1 h2 => exact .cons (dpEx e d _ h1) (dpAllEx e ds _ h2)
end

/-! ### an operand: its value lies within F, or it is an owned object -/
inductive Vw (K : PySem.W.Frag) (F H : Hp) : V → D → Prop
  | imm {v : V} {d : D} : Rp K F v d → Vw K F H v d
  | own {a : Addr} {o : HO} {d : D} : H a = some o → Cont K F o d → Vw K F H (.ref a) d
theorem Vw.int {v : V} {i : Int} (h : Vw K F H v (.int i)) : v = .int i := by
  cases h with
  | imm h => cases h; rfl
  | own h1 h2 => cases h2
theorem Vw.bool {v : V} {i : Bool} (h : Vw K F H v (.bool i)) : v = .bl i := by
  cases h with
  | imm h => cases h; rfl
  | own h1 h2 => cases h2
theorem Vw.str {v : V} {i : Str} (h : Vw K F H v (.str i)) : v = .str i := by
  cases h with
  | imm h => cases h; rfl
  | own h1 h2 => cases h2
theorem Vw.none {v : V} (h : Vw K F H v .none) : v = .non := by
  cases h with
  | imm h => cases h; rfl
  | own h1 h2 => cases h2
theorem Vw.list {v : V} {ds : List D} (e : Ex F H) (h : Vw K F H v (.list ds)) : ∃ a vs, v = .ref a ∧ H a = some (.lst vs) ∧ vs.length ≤ sizeLine ∧ RpA K F vs ds := by
  cases h with
  | imm h =>
    cases h with
    | lst h1 h2 h3 => exact ⟨_, _, rfl, e _ _ h1, h2, h3⟩
  | own h1 h2 =>
    cases h2 with
    | lst h3 h4 => exact ⟨_, _, rfl, h1, h3, h4⟩
theorem Vw.tup {v : V} {ds : List D} (h : Vw K F H v (.tuple ds)) : ∃ a vs, v = .ref a ∧ SqU K F a vs ∧ vs.length ≤ sizeLine ∧ RpA K F vs ds := by
  cases h with
  | imm h =>
    cases h with
    | tup h1 h2 h3 => exact ⟨_, _, rfl, h1, h2, h3⟩
  | own h1 h2 => cases h2
theorem Vw.dp {v : V} {d : D} (e : Ex F H) (h : Vw K F H v d) (c : PyData.canLay0 d = true) : Dp K H v d := by
  cases h with
  | imm h => exact dpEx e _ _ (h.dp _ _ c)
  | own h1 h2 =>
    cases h2 with
    | lst h3 h4 => exact .lst (SqL.of h1) (dpAllEx e _ _ (h4.dp _ _ (by simpa [PyData.canLay0] using c)))
    | dk h3 => simp [PyData.canLay0] at c
    | dt h3 => simp [PyData.canLay0] at c

/-! ### what a piece of code leaves -/
/-- from F, H to F', H': what is known stays, new knowledge is of new objects, only the objects of M are changed -/
structure Stp (M : Addr → Prop) (F H F' H' : Hp) : Prop where
  f : Ex F F'
  x : Ex F' H'
  n : ∀ a, ¬ M a → H a ≠ none → F a = none → F' a = none
  k : ∀ a o, ¬ M a → H a = some o → H' a = some o
  t : ∀ a, H a ≠ none → H' a ≠ none
theorem Stp.refl {M : Addr → Prop} (e : Ex F H) : Stp M F H F H := ⟨Ex.refl F, e, fun _ _ _ h => h, fun _ _ _ h => h, fun _ h => h⟩
theorem Stp.trans {M : Addr → Prop} {F1 H1 F2 H2 : Hp} (a : Stp M F H F1 H1) (b : Stp M F1 H1 F2 H2) : Stp M F H F2 H2 :=
  ⟨a.f.trans b.f, b.x, fun p h0 h1 h2 => b.n p h0 (a.t p h1) (a.n p h0 h1 h2), fun p o h1 h2 => b.k p o h1 (a.k p o h1 h2), fun p h => b.t p (a.t p h)⟩
theorem Stp.sub {M M' : Addr → Prop} (a : Stp M F H F' H') (h : ∀ p, M p → M' p) : Stp M' F H F' H' :=
  ⟨a.f, a.x, fun p h1 => a.n p (fun z => h1 (h p z)), fun p o h1 h2 => a.k p o (fun z => h1 (h p z)) h2, a.t⟩
/-- a new object that is known -/
theorem Stp.new {M : Addr → Prop} {p : Addr} {o : HO} (e : Ex F H) (h : H p = none) : Stp M F H (upd F p o) (upd H p o) := by
  have hF : F p = Option.none := by
    cases q : F p with
    | none => rfl
    | some u =>
      rw [e _ _ q] at h
      cases h
  refine ⟨Ex.new hF, fun a u q => ?_, fun a h0 h1 h2 => ?_, fun a u _ q => ?_, fun a q => ?_⟩
  · by_cases ha : a = p
    · subst ha
      rw [upd_same] at q ⊢
      exact q
    · rw [upd_ne ha] at q ⊢
      exact e _ _ q
  · have ha : a ≠ p := fun z => h1 (by rw [z]; exact h)
    rw [upd_ne ha]
    exact h2
  · exact Ex.new h a u q
  · intro z
    by_cases ha : a = p
    · subst ha
      rw [upd_same] at z
      cases z
    · rw [upd_ne ha] at z
      exact q z
/-- a new object that is not known -/
theorem Stp.lay {M : Addr → Prop} {p : Addr} {o : HO} (e : Ex F H) (h : H p = none) : Stp M F H F (upd H p o) := by
  refine ⟨Ex.refl F, e.trans (Ex.new h), fun a _ _ h2 => h2, fun a u _ q => Ex.new h a u q, fun a q z => ?_⟩
  by_cases ha : a = p
  · subst ha
    exact q h
  · rw [upd_ne ha] at z
    exact q z
/-- it is known from now on -/
theorem Stp.freeze {M : Addr → Prop} {F1 H1 : Hp} {p : Addr} {o : HO} (a : Stp M F H F1 H1) (h : H p = none) (h1 : H1 p = some o) (h2 : F1 p = none) : Stp M F H (upd F1 p o) H1 := by
  refine ⟨a.f.trans (Ex.new h2), fun b u q => ?_, fun b h0 h3 h4 => ?_, a.k, a.t⟩
  · by_cases hb : b = p
    · subst hb
      rw [upd_same] at q
      cases q
      exact h1
    · rw [upd_ne hb] at q
      exact a.x _ _ q
  · have hb : b ≠ p := fun z => h3 (by rw [z]; exact h)
    rw [upd_ne hb]
    exact a.n b h0 h3 h4

/-- the slots bear the values -/
structure Good (K : PySem.W.Frag) (M : Addr → Prop) (env : En) (σ : L2.St) (F H : Hp) : Prop where
  ex : Ex F H
  len : σ.length = env.length
  im : ∀ (i : Nat) (d : D), env[i]? = some (Sl.im d) → ∃ v, σ[i]? = some (some v) ∧ Rp K F v d
  mu : ∀ (i : Nat) (d : D), env[i]? = some (Sl.mu d) → ∃ a o, σ[i]? = some (some (V.ref a)) ∧ M a ∧ F a = none ∧ H a = some o ∧ Cont K F o d
  sep : ∀ (i j : Nat) (di dj : D) (a : Addr), env[i]? = some (Sl.mu di) → env[j]? = some (Sl.mu dj) → σ[i]? = some (some (V.ref a)) → σ[j]? = some (some (V.ref a)) → i = j
  there : ∀ a, M a → H a ≠ none
end

/-- a new list that nothing knows yet -/
def Fresh (K : PySem.W.Frag) (H F' H' : Hp) (v : V) (d : D) : Prop :=
  ∃ p vs ds, v = .ref p ∧ d = .list ds ∧ H p = none ∧ F' p = none ∧ H' p = some (.lst vs) ∧ vs.length ≤ sizeLine ∧ RpA K F' vs ds
end Nv


set_option Elab.async false
set_option linter.all false
set_option maxRecDepth 100000
/-! NvS: set of a tuple of tuples; sorted of any data. -/
namespace Nv
open PySem PySem.Spec PyProof.Rows L2

section
variable {P : Program} {w : World} {A : Around} {E : Value → Shared → Prop} {s : Shared}
abbrev newSet (w : World) : Obj := { cls := .type "set", dict := none, data := .set #[] 0 (.fresh 0 0 (!w.params.followText "set-order")) }
abbrev setHeap (w : World) (h : Heap) : Heap := h.push (newSet w)
/-- so few tuples that are not alike -/
def FewT (ks : List (Addr × List Int)) : Prop := ks.length < 64 ∨ ∀ ls : List (List Int), ls.Nodup → (∀ x ∈ ls, x ∈ ks.map (·.2)) → ls.length < 63
theorem few_len {ks L : List (Addr × List Int)} {i n : Nat} (hf : FewT ks) (g : Got ks i L) (nd : (L.map (·.2)).Nodup) (hi : i < n) (hn : n = ks.length) : L.length + 1 < 64 := by
  rcases hf with h | h
  · have := g.len
    omega
  · have := h (L.map (·.2)) nd fun x hx => by
      obtain ⟨p, hp, rfl⟩ := List.mem_map.mp hx
      exact List.mem_map_of_mem (List.mem_of_mem_take (g.sub p hp))
    rw [List.length_map] at this
    omega
/-- the loop of set.update; few in the set, however many come -/
theorem set_upd_few {I : Addr} {fp wr : List Addr} {G : Array GenState → Array GenState → Prop} {n : Nat} {Pv : Nat → Value → Prop} {St : Nat → Shared → Prop} {R : Result → Shared → Prop}
    (W : WalksS P w A.in1 I fp wr G n Pv St) (S : Addr) (hSf : S ∉ fp) (ks : List (Addr × List Int)) (hn : n = ks.length) (hfew : FewT ks) (hval : ∀ i v, Pv i v → ∃ p, ks[i]? = some p ∧ v = .ref p.1)
    (h0 : Heap) (hk : ∀ p ∈ ks, IsT P w h0 p.2 p.1) (hS0 : h0.get? S = none) (hw0 : ∀ b ∈ wr, h0.get? b = none) (hu : A.in1.units < cLine) :
    ∀ (k i : Nat) (s : Shared), n - i = k → i ≤ n → St i s → (∀ b o, h0.get? b = some o → s.heap.get? b = some o) → (∃ L es ep t, SetTR P w s.heap S L es ep t ∧ Got ks i L) →
      (∀ s' L es ep t, Moved (S :: wr) G s s' → SetTR P w s'.heap S L es ep t → Got ks n L → (∀ b o, h0.get? b = some o → s'.heap.get? b = some o) → R (.ok (.ret .none)) s') →
      codeAny (model P w) A (.builtin "set.update.loop" ⟨[.ref S, .ref I], []⟩) R s := by
  have hSw : S ∉ wr := fun h => hSf (W.sub _ h)
  have hsub : ∀ b ∈ wr, b ∈ S :: wr := fun b hb => List.mem_cons_of_mem _ hb
  have keepM : ∀ {s s' : Shared}, Moved wr G s s' → (∀ b o, h0.get? b = some o → s.heap.get? b = some o) → ∀ b o, h0.get? b = some o → s'.heap.get? b = some o := fun hm hkp b o e =>
    hm.heap b o (fun hb => by rw [hw0 b hb] at e; cases e) (hkp b o e)
  intro k
  induction k with
  | zero =>
    intro i s hk' hi hst hkp ⟨L, es, ep, t, hS, g⟩ hR
    have hin : i = n := by omega
    subst hin
    refine codeAny_builtin F.entry_set_update_loop ?_
    rw [Around.under_plainId F.plain_set_update_loop _]
    show wpAny _ A.in1 (pyNext (.ref I) >>= _) _ _ s
    refine wpAny_bind (W.done s _ _ hst fun s' hm => ?_)
    show wpAny _ A.in1 (ret Value.none) _ _ s'
    have hkp' := keepM hm hkp
    have sub : ∀ p ∈ L, p ∈ ks := fun p hp => List.mem_of_mem_take (g.sub p hp)
    exact wpAny_pure (hR s' L es ep t (hm.mono hsub) (hS.keep (fun o e => hm.heap S o hSw e) fun p hp => isT_keep (hk p (sub p hp)) hkp') g hkp')
  | succ k ih =>
    intro i s hk' hi hst hkp ⟨L, es, ep, t, hS, g⟩ hR
    have hlt : i < n := by omega
    refine codeAny_builtin F.entry_set_update_loop ?_
    rw [Around.under_plainId F.plain_set_update_loop _]
    show wpAny _ A.in1 (pyNext (.ref I) >>= _) _ _ s
    refine wpAny_bind (W.item i s _ _ hlt hst fun v s' hP hst' hm => ?_)
    obtain ⟨p, hp, rfl⟩ := hval i v hP
    have hkp' := keepM hm hkp
    have sub : ∀ p ∈ L, p ∈ ks := fun p hp => List.mem_of_mem_take (g.sub p hp)
    have hS' : SetTR P w s'.heap S L es ep t := hS.keep (fun o e => hm.heap S o hSw e) fun q hq => isT_keep (hk q (sub q hq)) hkp'
    have hx : IsT P w s'.heap p.2 p.1 := isT_keep (hk p (List.mem_of_getElem? hp)) hkp'
    show wpAny _ A.in1 (holding [Value.ref p.1] (setAdd S (.ref p.1)) >>= _) _ _ s'
    refine wpAny_bind (wpAny_holding ?_)
    unfold setAdd
    refine wpAny_holding ?_
    refine wpAny_bind (wpAny_pyHash_tuple hu hx ?_)
    refine add_at (s := { s' with toks := s'.toks + (p.2.length + 1) }) hS' hx hu (few_len hfew g hS'.nd hlt hn) fun b h' L' es' ep' t' hsb hS2 c1 c2 => ?_
    have g' : Got ks (i + 1) L' := by
      rcases Classical.em (p.2 ∈ L.map (·.2)) with c | c
      · rw [c1 c]; exact g.same hp c
      · exact g.more hp (c2 c)
    have hkp2 : ∀ b o, h0.get? b = some o → h'.get? b = some o := fun b o e => (hsb.2 b (fun z => by rw [z, hS0] at e; cases e)).trans (hkp' b o e)
    refine wpAny_pure ⟨plainId_quiet F.plain_set_update_loop _, ih (i + 1) _ (by omega) hlt (W.frame _ s' _ _ hst' (Nat.le_add_right _ _) fun b hb o e => ?_) hkp2 ⟨L', es', ep', t', hS2, g'⟩ fun s'' L2 es2 ep2 t2 hm'' hS'' g'' hkp'' => ?_⟩
    · rw [hsb.2 b (fun h : b = S => hSf (by rw [← h]; exact hb))]; exact e
    · refine hR s'' L2 es2 ep2 t2 (Moved.trans W.gtrans ((hm.mono hsub).then_heap (Nat.le_add_right _ _) fun b o hb e => ?_) hm'') hS'' g'' hkp''
      rw [hsb.2 b (fun h : b = S => hb (by rw [h]; exact List.mem_cons_self))]; exact e
set_option maxHeartbeats 3200000 in
theorem set_of_tuple {l : Addr} {items : Array Value} (ks : List (Addr × List Int)) {Q : Value → Shared → Prop} (hh : A.handled = none) (hl : s.heap.IsTuple l items)
    (hit : items.toList = ks.map fun p => Value.ref p.1) (hk : ∀ p ∈ ks, IsT P w s.heap p.2 p.1) (hfew : FewT ks) (hu : A.units + 3 < cLine)
    (h : ∀ (h' : Heap) (tk : Nat) L es ep t, SetTR P w h' s.heap.objs.size L es ep t → Got ks ks.length L → (∀ b o, s.heap.get? b = some o → h'.get? b = some o) → Q (.ref s.heap.objs.size) { s with heap := h', toks := tk }) :
    wpAny (model P w) A (call (.type "set") [.ref l]) Q E s := by
  have hisz : items.size = ks.length := by
    have q : items.toList.length = ks.length := by rw [hit, List.length_map]
    simpa using q
  obtain ⟨c, tl, hmro⟩ := F.called_set.mro
  have m1 := F.called_set.made
  have m2 := F.called_set.sub
  refine wpAny_call (codeAny_of_tree ?_)
  show wpAny _ _ (callAny (.type "set") _) _ _ _
  refine wpAny_pure ⟨Code.quiet_builtin _ (by decide +kernel), codeAny_builtin F.entry_type_call ?_⟩
  rw [Around.under_plain (weight_type_call_type "set" [.ref l] []) rfl]
  have m3 := F.called_set.notType
  have m4 := F.called_set.canCreate
  have m5 := F.typeCall_set_1 (.ref l)
  repeat (any_goals (first | assumption | wp_step))
  refine codeAny_mono (code_set_led1 (.ref l) (E := E) (Q₁ := fun obj s₁ => obj = .ref s.heap.objs.size ∧ s₁ = { s with heap := setHeap w s.heap }) ⟨rfl, rfl⟩) fun r s₁ hr => ?_
  cases r with
  | error e => exact hr
  | ok fl =>
    cases fl with
    | ret obj =>
      obtain ⟨rfl, rfl⟩ := hr
      have hS : (setHeap w s.heap).get? s.heap.objs.size = some (newSet w) := Heap.get?_push_size _ rfl
      have hT : Shared.TypeIs { s with heap := setHeap w s.heap } (.ref s.heap.objs.size) "set" := ⟨_, hS, rfl⟩
      have i1 := F.called_set.init.lookup
      have i2 := F.called_set.init.bind (.ref s.heap.objs.size)
      repeat (any_goals (first | assumption | wp_step))
      refine codeAny_mono (codeAny_call_builtin (R := wants (fun r s₂ => r = .none ∧ ∃ h' tk L es ep t, s₂ = { s with heap := h', toks := tk } ∧ SetTR P w h' s.heap.objs.size L es ep t ∧ Got ks ks.length L ∧ (∀ b o, s.heap.get? b = some o → h'.get? b = some o)) E)
        F.called_set.init.plain F.entry_set_init (check_set_init_1 hT ?_)) fun r₂ s₂ hr₂ => ?_
      · obtain ⟨ol, hol, hcl, nl, hdl⟩ := hl
        obtain ⟨ocls, odict, odata, oslots⟩ := ol
        simp only at hcl hdl
        subst hcl; subst hdl
        have hol' : (setHeap w s.heap).get? l = some { cls := .type "tuple", dict := odict, data := .seq items nl, slots := oslots } := Heap.get?_push_of_some _ hol
        have s1 := F.sub_tuple_set
        have s2 := F.sub_tuple_frozenset
        have s3 : (Value.type "tuple" == Value.type "dict") = false := by decide
        have hl1 : (setHeap w s.heap).IsTuple l items := ⟨_, hol', rfl, nl, rfl⟩
        unfold Builtin.«set.__init__» noKeywords Builtin.Frozenset.updateFrom
        generalize hPI : pyIter = PI
        wp_walk
        subst hPI
        refine wpAny_pyIter_tuple hl1 ?_
        refine wpAny_bind (wpAny_runValue ?_)
        have hlS : l < s.heap.objs.size := Heap.lt_size hol
        have hh3 : A.in1.in1.in1.handled = none := by simp [hh]
        have zz : (setHeap w s.heap).objs.size = s.heap.objs.size + 1 := Heap.size_push ..
        have hneI : l ≠ (setHeap w s.heap).objs.size := by
          rw [zz]
          exact Nat.ne_of_lt (Nat.lt_trans hlS (Nat.lt_succ_self _))
        have hSf : s.heap.objs.size ∉ [(setHeap w s.heap).objs.size, l] := by
          rw [zz]
          simp only [List.mem_cons, List.not_mem_nil, or_false, not_or]
          exact ⟨Nat.ne_of_lt (Nat.lt_succ_self _), Nat.ne_of_gt hlS⟩
        have hval : ∀ (i : Nat) (v : Value), items[i]? = some v → ∃ p, ks[i]? = some p ∧ v = .ref p.1 := fun i v hv => by
          have q : (ks.map fun p => Value.ref p.1)[i]? = some v := by
            rw [← hit, Array.getElem?_toList]
            exact hv
          rw [List.getElem?_map] at q
          obtain ⟨p, k1, k2⟩ := Option.map_eq_some_iff.mp q
          exact ⟨p, k1, k2.symm⟩
        have none_of : ∀ b, s.heap.objs.size ≤ b → s.heap.get? b = none := fun b hb => by
          cases q : s.heap.get? b with
          | none => rfl
          | some o =>
            exact absurd hb (Nat.not_le_of_lt (Heap.lt_size q))
        refine set_upd_few ((Walks.tuple hh3 _ l hneI items).toS) s.heap.objs.size hSf ks hisz hfew hval s.heap hk (none_of _ (Nat.le_refl _))
          (fun b hb => none_of b (by rw [List.mem_singleton.mp hb, zz]; omega)) hu (items.size - 0) 0 _ (by omega) (Nat.zero_le _)
          ⟨⟨_, Heap.get?_push_size _ rfl, rfl, rfl⟩, (hl1.push _)⟩ (fun b o e => Heap.get?_push_of_some _ (Heap.get?_push_of_some _ e)) ?hS0 ?hR
        case hS0 =>
          have hget : ((setHeap w s.heap).push { cls := .type "tuple_iterator", data := .fields #[.ref l, .int 0 0] }).get? s.heap.objs.size = some (newSet w) := Heap.get?_push_of_some _ hS
          exact ⟨[], #[], 0, _, setTR_fresh hget, Got.zero ks⟩
        case hR =>
          intro s' L es ep t hm hS' g' hkp
          obtain ⟨h', g2, d', tk', os'⟩ := s'
          have eg : g2 = s.gens := hm.gens
          have ed : d' = s.drawn := hm.drawn
          have eo : os' = s.os := hm.os
          subst eg; subst ed; subst eo
          show wpAny _ _ _ _ _ _
          refine wpAny_pure ?_
          show wpAny _ _ (ret Value.none) _ _ _
          rw [hisz] at g'
          exact wpAny_pure ⟨rfl, h', tk', L, es, ep, t, rfl, hS', g', hkp⟩
      · cases r₂ with
        | error e => exact hr₂
        | ok fl₂ =>
          cases fl₂ with
          | ret r =>
            obtain ⟨rfl, h', tk, L, es, ep, t, rfl, hS', g', hk'⟩ := hr₂
            repeat (any_goals (first | assumption | wp_step))
            exact h _ _ _ _ _ _ hS' g' hk'
          | _ => exact hr₂.elim
    | _ => exact hr.elim
end

/-- set(t), t a tuple of tuples of ints -/
def rSetTT (K : PySem.W.Frag) (P : Program) (w : World) : List V → Hp → VK → Prop := fun xs H Q => ∃ (l : Addr) (ks : List (Addr × List Int)), xs = [V.ref l] ∧ SqT K H l (ks.map fun p => V.ref p.1) ∧
  (∀ p ∈ ks, SqT K H p.1 (p.2.map V.int)) ∧ FewT ks ∧ ∀ a L, H a = none → (∀ p ∈ L, p ∈ ks) → (∀ p ∈ ks, p.2 ∈ L.map (·.2)) → Q (.ref a) (upd H a (SetTO P w a L))
theorem cr_setTT {X : Cx} (hc : X.calm = true) (hu : X.A.units + 64 < cLine) : CallR X (.type "set") (rSetTT X.K X.prog X.w) := by
  intro pins s σ H xs us Q I r h
  obtain ⟨l, ks, rfl, hl, hk, hf, q⟩ := h
  rw [Vals.ref1 r]
  obtain ⟨its, rv, pl, hz⟩ := I.tuple hl
  have pl' : s.heap.IsTuple l its.toArray := by
    obtain ⟨o, e1, e2, n, e3⟩ := pl
    exact ⟨o, e1, e2, n, e3⟩
  refine set_of_tuple (P := X.prog) (w := X.w) ks (I.ok.hd hc) pl' (by simpa using refs_of_vals rv) (fun p hp => I.isT (hk p hp)) hf (by omega) fun h' tk L es ep t R g k => ?_
  have hn : H s.heap.objs.size = none := I.hok.fresh (Nat.le_refl _)
  refine ⟨.ref s.heap.objs.size, _, I.laid (t' := tk) k (Nat.le_refl _) (setTO_new R.t0), rfl, q _ L hn (fun p hp => List.mem_of_mem_take (g.sub p hp)) fun p hp => g.all p ?_⟩
  rw [List.take_length]
  exact hp
end Nv

set_option Elab.async false
set_option linter.all false
set_option maxRecDepth 100000
/-! NvU: sorted of a tuple. -/
namespace Nv
open PySem PySem.W PySem.Calls PyProof.Rows

section
variable {prog : Program} {w : World} {A : Around} {E : Value → Shared → Prop} {s : Shared}
abbrev colHeap (h : Heap) (vs : List Value) : Heap := (h.push (seqObj "list" #[] 0)).update h.objs.size (Obj.mapSeq (· ++ vs.toArray))
theorem collect_tup {l : Addr} {vs : List Value} {Q : List Value → Shared → Prop} (hl : s.heap.IsTuple l vs.toArray) (hsz : vs.length ≤ sizeLine)
    (h : Q vs { s with heap := colHeap s.heap vs }) : wpAny (model prog w) A (collect (.ref l)) Q E s := by
  obtain ⟨o, ho, hc, n, hd⟩ := id hl
  unfold collect
  refine wpAny_bind (wpAny_runValue (codeAny_builtin entry_proto_collect' ?_))
  show wpAny _ _ (newList [] >>= fun x => again (.builtin "list.__iadd__" ⟨[x, .ref l], []⟩)) _ _ s
  refine wpAny_bind (wpAny_newList (wpAny_pure ⟨Code.quiet_builtin _ (by decide +kernel), codeAny_builtin entry_list_iadd' ?_⟩))
  show wpAny _ _ (Builtin.List.listExtendWith (.ref s.heap.objs.size) (.ref l) (.ref s.heap.objs.size)) _ _ { s with heap := s.heap.push (seqObj "list" #[] 0) }
  unfold Builtin.List.listExtendWith
  have ho' : (s.heap.push (seqObj "list" #[] 0)).get? l = some o := Heap.get?_push_of_some _ ho
  have hn : (s.heap.push (seqObj "list" #[] 0)).get? s.heap.objs.size = some (seqObj "list" #[] 0) := Heap.get?_push_size _ rfl
  refine wpAny_bind (wpAny_typeOf (T := "tuple") ⟨o, ho', hc⟩ ?_)
  have ht : (Value.type "tuple" == Value.type "tuple") = true := by rfl
  rw [if_pos (by rw [ht]; simp)]
  refine wpAny_bind (listItems_at ho' hd ?_)
  refine wpAny_bind (listItems_at (xs := #[]) (n := 0) hn rfl ?_)
  rw [if_neg (by simp)]
  refine wpAny_bind (listUpdate_at (xs := #[]) (n := 0) hn rfl ?_ (Nat.zero_le _) ?_)
  · refine wpAny_pure ?_
    show wpAny (model prog w) A (load s.heap.objs.size >>= fun o => match o.data with
        | .seq xs _ => pure xs.toList
        | _ => unsupported "internal:collect") Q E { s with heap := colHeap s.heap vs }
    refine wpAny_bind (wpAny_load (get?_update_seq hn _) ?_)
    show wpAny _ _ (pure ((#[] : Array Value) ++ vs.toArray).toList) Q E _
    have e : ((#[] : Array Value) ++ vs.toArray).toList = vs := by simp
    rw [e]
    exact wpAny_pure h
  · have : ((#[] : Array Value) ++ vs.toArray).size = vs.length := by simp
    rw [this]
    omega
end

/-! ### sorted of tuples, the first one empty -/
/-- all are tuples, the first one empty -/
def Sortable3 (ds : List PyData) : Prop := (∃ r, ds = .tuple [] :: r) ∧ ∀ d ∈ ds, ∃ xs, d = .tuple xs
section
variable {prog : Program} {w : World} {A : Around} {E : Value → Shared → Prop} {s : Shared}
theorem call_tuple_lt {Q : Value → Shared → Prop} {l b : Addr} {items items2 : Array Value} {e r : Nat → Bool} (hl : s.heap.IsTuple l items) (hb : s.heap.IsTuple b items2)
    (he : ∀ j (h1 : j < items.size) (h2 : j < items2.size), SeqAt.EqAt A.in1 s items[j] items2[j] (e j)) (hr : ∀ j (h1 : j < items.size) (h2 : j < items2.size), e j = false → SeqAt.RcLt A.in1 s items[j] items2[j] (r j))
    (h : Q (.bool (SeqAt.firstLt e r (decide (items.size < items2.size)) (List.range (min items.size items2.size)))) s) : wpAny (model prog w) A (call (.builtin "tuple.__lt__") [.ref l, .ref b]) Q E s := by
  obtain ⟨⟨cls, dd, data, sl⟩, ho, hc, n, hd⟩ := id hl
  obtain ⟨⟨cls2, dd2, data2, sl2⟩, ho2, hc2, n2, hd2⟩ := id hb
  simp only at hc hd hc2 hd2
  subst hc hd hc2 hd2
  exact call_meets F.slot_tuple_lt ⟨_, ho, rfl⟩ F.entry_tuple_lt (F.args_tuple_lt_2 _ _) (SeqAt.tuple_ltAt l b items items2 n n2 dd dd2 sl sl2 e r) ⟨ho, ho2, he, hr, h⟩
theorem oneLt_tups {xs ys : List PyData} {a b : Value} {as bs : List Addr} {Q : Bool → Shared → Prop} (ra : Reads s.heap a (.tuple xs) as) (rb : Reads s.heap b (.tuple ys) bs) (hal : alikeAll xs ys = true)
    (hu : A.units + min (PyData.tuple xs).depth (PyData.tuple ys).depth < cLine) (hq : Q (dataLt (.tuple xs) (.tuple ys)) s) : wpAny (model prog w) A (oneLt' true a b) Q E s := by
  cases ra with
  | @tuple l o vs n _ as₁ h1 h2 h3 h4 =>
    cases rb with
    | @tuple l' o' vs' n' _ bs₁ k1 k2 k3 k4 =>
      have n1 : vs.size = xs.length := by simpa using SeqAt.ReadsAll.length _ _ _ h4
      have n2 : vs'.size = ys.length := by simpa using SeqAt.ReadsAll.length _ _ _ k4
      rw [dataLt_tuple, ← firstLt_toks xs ys hal, ← n1, ← n2] at hq
      rw [oneLt'_eq]
      simp only [if_true]
      refine wpAny_bind (wpAny_cRoomFor (SeqAt.room_here hu) ?_)
      refine wpAny_bind (wpAny_callSpecialIfBound?_slot (T := "tuple") ⟨_, h1, h2⟩ F.slot_tuple_lt (call_tuple_lt (e := SeqAt.pairEq xs ys) (r := fun j => dataLt (xs.getD j .none) (ys.getD j .none)) ⟨_, h1, h2, _, h3⟩ ⟨_, k1, k2, _, k3⟩ (fun j j1 j2 => ?_) (fun j j1 j2 hj => ?_) ?_))
      · have := eqAt_alikeAll xs ys A.in1 s vs.toList vs'.toList _ _ h4 k4 hal (SeqAt.room_in hu) j (by simpa using j1) (by simpa using j2)
        simpa using this
      · have := rcLt_alikeAll xs ys A.in1 s vs.toList vs'.toList _ _ h4 k4 hal (SeqAt.room_in hu) j (by simpa using j1) (by simpa using j2) hj
        simpa using this
      · exact wpAny_truthy_bool hq
theorem first_tups {M : Model} {A : Around} {E : Value → Shared → Prop} {s : Shared} : ∀ {vs : List Value} {ds : List PyData}, EachIs (fun v d => ∃ as, Reads s.heap v d as) vs ds → (∀ d ∈ ds, ∃ xs, d = .tuple xs) →
    ∃ rs : List (Option Value), rs.length = vs.length ∧ (∀ r, ds = .tuple [] :: r → ∃ q, rs = none :: q) ∧ ∀ (Q : List (Option Value) → Shared → Prop), Q rs s → wpAny M A (vs.mapM firstOfTuple') Q E s
  | _, _, .nil, _ => ⟨[], rfl, fun r hr => (by cases hr), fun Q h => by rw [List.mapM_nil]; exact wpAny_pure h⟩
  | _, _, .cons (a := v) (b := d) (as := vs) ⟨as, r⟩ t, ht => by
    obtain ⟨rs, h1, h2, h3⟩ := first_tups (M := M) (A := A) (E := E) t fun d hd => ht d (List.mem_cons_of_mem _ hd)
    obtain ⟨xs, rfl⟩ := ht d (List.mem_cons_self ..)
    cases r with
    | @tuple a o ys n _ _ ho hc hd hr =>
      refine ⟨ys[0]? :: rs, by rw [List.length_cons, List.length_cons, h1], fun r hr' => ?_, fun Q hQ => ?_⟩
      · injection hr' with e1 e2
        injection e1 with e1
        subst e1
        have n1 : ys.size = 0 := by simpa using SeqAt.ReadsAll.length _ _ _ hr
        exact ⟨rs, by rw [Array.getElem?_eq_none (by omega)]⟩
      · rw [List.mapM_cons]
        refine wpAny_bind ?_
        rw [kas_first_eq]
        refine wpAny_bind (Looks.here (show Looks M s.heap (typeOf (.ref a)) o.cls from (Looks.ld ho).andThen .now) ?_)
        rw [hc, if_neg (by first | decide | simp)]
        refine wpAny_bind (listItems_at ho hd ?_)
        exact wpAny_pure (wpAny_bind (h3 _ (wpAny_pure hQ)))
theorem kind_tups {vs : List Value} {ds : List PyData} {Q : SortKind → Shared → Prop} (h2 : 2 ≤ vs.length) (e : EachIs (fun v d => ∃ as, Reads s.heap v d as) vs ds) (hk : Sortable3 ds) (h : Q oneType' s) :
    wpAny (model prog w) A (keyKind' vs.toArray) Q E s := by
  obtain ⟨⟨r, e0⟩, ht⟩ := hk
  obtain ⟨rs, r1, r2, r3⟩ := first_tups (M := model prog w) (A := A) (E := E) e ht
  obtain ⟨q, rfl⟩ := r2 r e0
  have hT : ∀ v ∈ vs, Looks (model prog w) s.heap (typeOf v) (.type "tuple") := fun v hv => by
    obtain ⟨d, hd, as, rd⟩ := e.left v hv
    obtain ⟨xs, rfl⟩ := ht d hd
    exact looks_reads rd
  obtain ⟨v₁, v₂, rest, rfl⟩ : ∃ v₁ v₂ rest, vs = v₁ :: v₂ :: rest := by
    match vs, h2 with
    | [], h2 => simp at h2
    | [_], h2 => simp at h2
    | v₁ :: v₂ :: rest, _ => exact ⟨v₁, v₂, rest, rfl⟩
  rw [keyKind'_eq, List.mapM_toArray, map_eq_pure_bind]
  refine wpAny_bind (wpAny_bind (r3 _ (wpAny_pure ?_)))
  rw [if_neg (by simp), if_neg (by simp)]
  rw [oneTypeOnly'_eq, List.mapM_toArray, map_eq_pure_bind]
  refine wpAny_bind (wpAny_bind (wpAny_bind (kas_mapM (r := Value.type "tuple") _ (fun v hv Q' hq => (hT v hv).here hq) (wpAny_pure ?_))))
  have hall : ((List.map (fun _ => Value.type "tuple") (v₁ :: v₂ :: rest)).toArray.all fun x => x == Value.type "tuple") = true := by
    simp only [List.all_toArray, List.all_map, List.all_eq_true]
    intro _ _
    rfl
  have h0 : (List.map (fun _ => Value.type "tuple") (v₁ :: v₂ :: rest)).toArray[0]? = some (Value.type "tuple") := by simp
  rw [h0]
  simp only [hall, if_true]
  exact wpAny_pure (wpAny_pure h)
theorem sortsAt3 {vs : List Value} {ds : List PyData} (e : EachIs (fun v d => ∃ as, Reads s.heap v d as) vs ds) (hal : AllAlike ds) (hk : Sortable ds ∨ Sortable3 ds) (hu : ∀ d, d ∈ ds → A.units + d.depth < cLine) : SortsAt prog w A s (dataKind s.heap ds) vs := by
  rcases hk with hk | hk
  · exact SortsAt.data e hal hk hu
  have room : ∀ {d d' : PyData}, d ∈ ds → A.units + min d.depth d'.depth < cLine := fun {d d'} hd => Nat.lt_of_le_of_lt (Nat.add_le_add_left (Nat.min_le_left _ _) _) (hu d hd)
  refine ⟨fun v hv => ?_, oneType', ?_, fun h2 E Q hq => kind_tups h2 e hk hq⟩
  · obtain ⟨d, hd, as, r⟩ := e.left v hv
    exact ⟨_, dataKind_some hal hd r⟩
  · intro E x y a b Q ha hb hq
    obtain ⟨d, as, hd, ra, rfl⟩ := dataKind_inv ha
    obtain ⟨d', as', hd', rb, rfl⟩ := dataKind_inv hb
    obtain ⟨xs, rfl⟩ := hk.2 d hd
    obtain ⟨ys, rfl⟩ := hk.2 d' hd'
    rw [keyLt'_oneType]
    exact oneLt_tups ra rb (by simpa [alike] using hal _ hd _ hd') (room hd) hq
theorem sorted_data3 {β : Type} {vs : List Value} {bs : List β} {enc : β → PyData} {R : Value → β → Prop} {l : Addr} {Q : Value → Shared → Prop} (hl : s.heap.IsList l vs.toArray) (e : EachIs R vs bs) (er : EachIs (fun v b => ∃ as, Reads s.heap v (enc b) as) vs bs) (hal : AllAlike (bs.map enc)) (hk : Sortable (bs.map enc) ∨ Sortable3 (bs.map enc)) (hL : bs.length ≤ sizeLine)
    (hu : ∀ b, b ∈ bs → A.units + 2 + (enc b).depth < cLine) (h : ∀ out, out.length = bs.length → EachIs R out (bs.mergeSort (dataLe false enc)) → Q (.ref (s.heap.objs.size + 1)) { s with heap := sortedAll s.heap vs (List.toArray out) }) :
    wpAny (model prog w) A (call (.builtin "sorted") [.ref l]) Q E s := by
  have er' : EachIs (fun v b => ∃ as, Reads (sortingHeap (copyHeap s.heap vs) (s.heap.objs.size + 1) vs) v (enc b) as) vs bs := er.mono fun _ _ ⟨as, r⟩ => ⟨as, PyProof.Rows.Reads.keeps (fun _ _ => sorting_copy_old) r⟩
  exact sorted_vals hl (sortsAt3 (s := { s with heap := sortingHeap (copyHeap s.heap vs) (s.heap.objs.size + 1) vs }) (each_map (R := fun v d => ∃ as, Reads (sortingHeap (copyHeap s.heap vs) (s.heap.objs.size + 1) vs) v d as) enc er') hal hk (bound_map hu)) (by rw [e.length]; exact hL)
    (h _ (by rw [sortVals_length false rfl]; exact e.length) (sortVals_data false e er' hal))
end
section
variable {prog : Program} {w : World} {A : Around} {E : Value → Shared → Prop} {s : Shared}
theorem sorted_tup {β : Type} {vs : List Value} {bs : List β} {enc : β → PyData} {R : Value → β → Prop} {l : Addr} {Q : Value → Shared → Prop} (hl : s.heap.IsTuple l vs.toArray) (e : EachIs R vs bs)
    (er : EachIs (fun v b => ∃ as, Reads s.heap v (enc b) as) vs bs) (hal : AllAlike (bs.map enc)) (hk : Sortable (bs.map enc) ∨ Sortable3 (bs.map enc)) (hL : bs.length ≤ sizeLine)
    (hu : ∀ b, b ∈ bs → A.units + 2 + (enc b).depth < cLine)
    (h : ∀ out, out.length = bs.length → EachIs R out (bs.mergeSort (dataLe false enc)) → Q (.ref (s.heap.objs.size + 1)) { s with heap := sortedAll s.heap vs (List.toArray out) }) :
    wpAny (model prog w) A (call (.builtin "sorted") [.ref l]) Q E s := by
  have hL' : vs.length ≤ sizeLine := by rw [e.length]; exact hL
  have er' := er.mono fun _ _ (z : ∃ as, Reads s.heap _ _ as) => (show ∃ as, Reads (sortingHeap (copyHeap s.heap vs) (s.heap.objs.size + 1) vs) _ _ as from z.elim fun as r => ⟨as, PyProof.Rows.Reads.keeps (fun _ _ => sorting_copy_old) r⟩)
  have S := sortsAt3 (prog := prog) (w := w) (A := A.in1.in1) (s := { s with heap := sortingHeap (copyHeap s.heap vs) (s.heap.objs.size + 1) vs }) (each_map (R := fun v d => ∃ as, Reads (sortingHeap (copyHeap s.heap vs) (s.heap.objs.size + 1) vs) v d as) enc er') hal hk (bound_map hu)
  refine call_function_entry_kw kind_sorted plain_sorted entry_sorted (args_sorted1 _) ?_
  unfold Builtin.«sorted»
  refine wpAny_bind (m := checkCount "sorted" 1 1 _) (wpAny_pure ?_)
  refine wpAny_bind (collect_tup hl hL' ?_)
  refine wpAny_bind (wpAny_newList ?_ hL')
  have hsz : (colHeap s.heap vs).objs.size = s.heap.objs.size + 1 := by rw [Heap.size_update, size_push']
  show wpAny _ _ _ _ _ { s with heap := copyHeap s.heap vs }
  rw [hsz]
  refine wpAny_bind (wpAny_holding (wpAny_call_entry_kw slot_list_sort ⟨_, copyHeap_at s.heap vs, rfl⟩ entry_list_sort ?body (args_list_sort _)))
  case body =>
    show wpAny (model prog w) A.in1.in1 (Builtin.«list.sort» ⟨[.ref (s.heap.objs.size + 1)], []⟩) _ _ _
    refine list_sort_vals (κ := dataKind (sortingHeap (copyHeap s.heap vs) (s.heap.objs.size + 1) vs) (bs.map enc)) (s := { s with heap := copyHeap s.heap vs }) (copyHeap_at s.heap vs) S hL' ?_
    exact ⟨_, rfl, wpAny_pure ⟨_, rfl, h _ (by rw [sortVals_length false rfl]; exact e.length) (sortVals_data false e er' hal)⟩⟩
end
end Nv

set_option Elab.async false
set_option linter.all false
set_option maxRecDepth 100000
/-! NvT: sorted(xs), sorted(set(t)). -/
namespace Nv
open PySem PySem.Spec PyProof.Rows L2

def rSortD (K : PySem.W.Frag) : List V → Hp → VK → Prop := fun vs H Q => ∃ (a : Addr) (xs : List V) (F : Hp) (ds : List D), vs = [V.ref a] ∧ (SqL K H a xs ∨ SqT K H a xs) ∧ Ex F H ∧ RpA K F xs ds ∧ (srtOk ds = true ∨ srtOk3 ds = true) ∧
  ∀ (ys : List V) (p : Addr), RpA K F ys (srtD ds) → ys.length = xs.length → H p = none → Q (.ref p) (upd H p (.lst ys))
section
variable {X : Cx} {K : PySem.W.Frag} {F H : Hp}
theorem each_of {xs : List V} : ∀ {us : List Value} {ds : List D}, Vals xs us → RpA K F xs ds → PySem.W.EachIs (fun v d => ∃ x, RelV x v ∧ Rp K F x d) us ds := by
  induction xs with
  | nil =>
    intro us ds h1 h2
    cases h1
    cases h2
    exact .nil
  | cons x xs ih =>
    intro us ds h1 h2
    cases h1 with
    | cons r1 t1 =>
      cases h2 with
      | cons r2 t2 => exact .cons ⟨x, r1, r2⟩ (ih t1 t2)
theorem of_each : ∀ {us : List Value} {ds : List D}, PySem.W.EachIs (fun v d => ∃ x, RelV x v ∧ Rp K F x d) us ds → ∃ xs, Vals xs us ∧ RpA K F xs ds
  | _, _, .nil => ⟨[], .nil, .nil⟩
  | _, _, .cons ⟨x, r1, r2⟩ t => by
    obtain ⟨xs, h1, h2⟩ := of_each t
    exact ⟨x :: xs, .cons r1 h1, .cons r2 h2⟩
theorem each_and {α β : Type} {R S : α → β → Prop} {Z : β → Prop} (f : ∀ a b, R a b → Z b → S a b) : ∀ {as : List α} {bs : List β}, PySem.W.EachIs R as bs → (∀ b ∈ bs, Z b) → PySem.W.EachIs S as bs
  | _, _, .nil, _ => .nil
  | _, _, .cons h t, z => .cons (f _ _ h (z _ List.mem_cons_self)) (each_and f t fun b hb => z b (List.mem_cons_of_mem _ hb))
theorem cr_sortD (hu : X.A.units + 64 < cLine) : CallR X (.builtin "sorted") (rSortD X.K) := by
  intro pins s σ H vs us Q I r h
  obtain ⟨a, xs, F, ds, rfl, hs, hx, rp, hok, q⟩ := h
  rw [Vals.ref1 r]
  have hok' : (∀ d ∈ ds, (SeqAt.shaped d = true ∧ d.depth ≤ 32) ∧ ∀ e ∈ ds, PySem.W.alike d e = true) ∧ (PySem.W.Sortable ds ∨ Sortable3 ds) := by
    rcases hok with hok | hok
    · unfold srtOk at hok
      simp only [Bool.and_eq_true, List.all_eq_true, Bool.or_eq_true, decide_eq_true_eq] at hok
      obtain ⟨h1, h2⟩ := hok
      refine ⟨h1, .inl ?_⟩
      rcases h2 with h2 | h2
      · refine .inl fun d hd => ?_
        have := h2 d hd
        split at this
        · exact ⟨_, _, rfl⟩
        · cases this
      · refine .inr fun d hd => ?_
        have := h2 d hd
        split at this
        · cases this
        · cases this
        · rename_i k1 k2
          exact ⟨fun z => k2 z, fun xs z => k1 xs z⟩
    · unfold srtOk3 at hok
      rw [Bool.and_eq_true, Bool.and_eq_true] at hok
      obtain ⟨⟨h1, h2⟩, h3⟩ := hok
      simp only [Bool.and_eq_true, List.all_eq_true, decide_eq_true_eq] at h1
      refine ⟨h1, .inr ⟨?_, fun d hd => ?_⟩⟩
      · cases ds with
        | nil => cases h3
        | cons d r =>
          have h3 : isNilD d = true := h3
          unfold isNilD at h3
          split at h3
          · exact ⟨r, rfl⟩
          · cases h3
      · have := List.all_eq_true.mp h2 d hd
        unfold isTupD at this
        split at this
        · exact ⟨_, rfl⟩
        · cases this
  obtain ⟨h1, h2⟩ := hok'
  have hal : PySem.W.AllAlike (ds.map id) := fun d hd d' hd' => by
    rw [List.map_id] at hd hd'
    exact (h1 d hd).2 d' hd'
  have hso : PySem.W.Sortable (ds.map id) ∨ Sortable3 (ds.map id) := by
    rw [List.map_id]
    exact h2
  have hun : ∀ d ∈ ds, X.A.units + 2 + (id d).depth < cLine := fun d hd => by
    have := (h1 d hd).1.2
    show X.A.units + 2 + d.depth < cLine
    omega
  have go : ∀ its : List Value, Vals xs its → xs.length ≤ sizeLine → PySem.W.EachIs (fun v d => ∃ x, RelV x v ∧ Rp X.K F x d) its ds ∧ PySem.W.EachIs (fun v d => ∃ as, Reads s.heap v (id d) as) its ds ∧ ds.length ≤ sizeLine ∧
      ∀ out, out.length = ds.length → PySem.W.EachIs (fun v d => ∃ x, RelV x v ∧ Rp X.K F x d) out (ds.mergeSort (PySem.W.dataLe false id)) → EP X pins σ Q (.ref (s.heap.objs.size + 1)) { s with heap := PyProof.Rows.sortedAll s.heap its out.toArray } := fun its rv hz => by
    have e := each_of rv rp
    have er : PySem.W.EachIs (fun v d => ∃ as, Reads s.heap v (id d) as) its ds := each_and (Z := fun d => SeqAt.shaped d = true) (fun v d ⟨x, k1, k2⟩ k3 => Dp.reads I d x v (dpEx hx _ _ (k2.dp _ _ (SeqAt.canLay_of_shaped k3))) k1) e fun d hd => (h1 d hd).1.1
    have len : its.length = ds.length := e.length
    refine ⟨e, er, by rw [← len, ← rv.length]; exact hz, fun out hlen ho => ?_⟩
    obtain ⟨ys, k1, k2⟩ := of_each ho
    obtain ⟨ep, he'⟩ := PyProof.Rows.sortedAll_at s.heap its out.toArray
    have hy : ys.length = xs.length := by rw [k1.length, hlen, ← len, rv.length]
    exact ⟨.ref _, upd H (s.heap.objs.size + 1) (.lst ys), I.laid (t' := s.toks) (fun _ _ => PyProof.Rows.sortedAll_old) (Nat.le_succ _) ⟨by rw [hy]; exact hz, out, ep, k1, he'⟩, rfl, q _ _ k2 hy (I.hok.fresh (Nat.le_succ _))⟩
  rcases hs with hs | hs
  · obtain ⟨its, rv, hl, hz⟩ := I.list hs
    obtain ⟨e, er, hz', fin⟩ := go its rv hz
    exact sorted_data3 (enc := id) hl.isList e er hal hso hz' hun fun out hlen ho => fin out hlen ho
  · obtain ⟨its, rv, hl, hz⟩ := I.tuple hs
    obtain ⟨e, er, hz', fin⟩ := go its rv hz
    have hl' : s.heap.IsTuple a its.toArray := by
      obtain ⟨o, e1, e2, n, e3⟩ := hl
      exact ⟨o, e1, e2, n, e3⟩
    exact sorted_tup (enc := id) hl' e er hal hso hz' hun fun out hlen ho => fin out hlen ho
end

/-- sorted(set(t)), t a tuple of pairs of numbers -/
def rSrtSet (K : PySem.W.Frag) : List V → Hp → VK → Prop := fun vs H Q => ∃ (t : Addr) (ks : List (Addr × Int × Int)), vs = [V.ref t] ∧ SqT K H t (ks.map fun p => V.ref p.1) ∧ (∀ p ∈ ks, SqT K H p.1 [.int p.2.1, .int p.2.2]) ∧ (ks.length < 64 ∨ (nubP (ks.map (·.2))).length < 63) ∧
  (∀ p ∈ ks, (0 ≤ p.2.1 ∧ p.2.1 < 64) ∧ 0 ≤ p.2.2 ∧ p.2.2 < 64) ∧
  ∀ (L : List (Addr × Int × Int)) (a : Addr) (o : HO) (p : Addr), (∀ q ∈ L, q ∈ ks) → L.map (·.2) = srtP (ks.map (·.2)) → H a = none → upd H a o p = none → Q (.ref p) (upd (upd H a o) p (.lst (L.map fun q => V.ref q.1)))
abbrev kOf (p : Addr × Int × Int) : Addr × List Int := (p.1, [p.2.1, p.2.2])
abbrev kBk (p : Addr × List Int) : Addr × Int × Int := (p.1, p.2.getD 0 0, p.2.getD 1 0)
theorem subsL_len {α : Type} [DecidableEq α] : ∀ {l m : List α}, l.Nodup → (∀ x ∈ l, x ∈ m) → l.length ≤ m.length
  | [], m, _, _ => Nat.zero_le _
  | x :: l, m, nd, h => by
    rw [List.nodup_cons] at nd
    have hx := h x List.mem_cons_self
    have := subsL_len (m := m.erase x) nd.2 fun y hy => (List.mem_erase_of_ne (fun e => nd.1 (by rw [← e]; exact hy))).mpr (h y (List.mem_cons_of_mem _ hy))
    rw [List.length_erase_of_mem hx] at this
    have : 0 < m.length := List.length_pos_iff.mpr (fun z => by rw [z] at hx; cases hx)
    simp only [List.length_cons]
    omega
theorem few_of {ks : List (Addr × Int × Int)} (h : ks.length < 64 ∨ (nubP (ks.map (·.2))).length < 63) : FewT (ks.map kOf) := by
  rcases h with h | h
  · left
    rw [List.length_map]
    exact h
  · right
    intro ls nd hs
    refine Nat.lt_of_le_of_lt ?_ h
    rw [← List.length_map (fun q : Int × Int => [q.1, q.2]) (as := nubP (ks.map (·.2)))]
    refine subsL_len nd fun x hx => ?_
    obtain ⟨p, hp, rfl⟩ := List.mem_map.mp (hs x hx)
    obtain ⟨q, hq, rfl⟩ := List.mem_map.mp hp
    exact List.mem_map.mpr ⟨q.2, nubP_mem.mpr (List.mem_map_of_mem hq), rfl⟩
theorem kBk_kOf (p : Addr × Int × Int) : kBk (kOf p) = p := rfl
theorem eq_of_code {l₁ l₂ : List (Int × Int)} (h : l₁.Perm l₂) (b : ∀ p ∈ l₁, (0 ≤ p.1 ∧ p.1 < 64) ∧ 0 ≤ p.2 ∧ p.2 < 64) (h1 : l₁.Pairwise fun p q => p.1 * 64 + p.2 ≤ q.1 * 64 + q.2) (h2 : l₂.Pairwise fun p q => p.1 * 64 + p.2 ≤ q.1 * 64 + q.2) : l₁ = l₂ := by
  induction l₁ generalizing l₂ with
  | nil => exact (List.nil_perm.mp h).symm
  | cons x xs ih =>
    cases l₂ with
    | nil => exact absurd h.length_eq (by simp)
    | cons y ys =>
      have hxy : x = y := by
        have m1 : x ∈ y :: ys := h.mem_iff.mp List.mem_cons_self
        have m2 : y ∈ x :: xs := h.mem_iff.mpr List.mem_cons_self
        rcases List.mem_cons.mp m1 with z | z
        · exact z
        · rcases List.mem_cons.mp m2 with w | w
          · exact w.symm
          · have a1 := (List.pairwise_cons.mp h1).1 y w
            have a2 := (List.pairwise_cons.mp h2).1 x z
            have bx := b x List.mem_cons_self
            have bY := b y m2
            refine Prod.ext ?_ ?_ <;> omega
      subst hxy
      rw [ih ((List.perm_cons x).mp h) (fun p hp => b p (List.mem_cons_of_mem _ hp)) (List.pairwise_cons.mp h1).2 (List.pairwise_cons.mp h2).2]
theorem srtP_pw (ps : List (Int × Int)) : (srtP ps).Pairwise fun p q => p.1 * 64 + p.2 ≤ q.1 * 64 + q.2 := by
  unfold srtP
  have := List.pairwise_mergeSort (le := pairLe) (fun a b c h1 h2 => by unfold pairLe at *; simp only [decide_eq_true_eq] at *; omega) (fun a b => by unfold pairLe; simp only [Bool.or_eq_true, decide_eq_true_eq]; omega) (nubP ps)
  exact this.imp fun {a b} h => by unfold pairLe at h; exact of_decide_eq_true h
theorem nubP_le : ∀ ps : List (Int × Int), (nubP ps).length ≤ ps.length
  | [] => Nat.le_refl _
  | x :: xs => by
    unfold nubP
    have := nubP_le xs
    split <;> simp only [List.length_cons] <;> omega
theorem srtP_perm (ps : List (Int × Int)) : (srtP ps).Perm (nubP ps) := List.mergeSort_perm _ _
section
variable {X : Cx}
theorem pe_srtSet {a : Expr} {ta : TE} {p p2 q pos : Pos} (hc : X.calm = true) (hu : X.A.units + 64 < cLine) (hg : Gl X "sorted") (hm : X.mg "sorted" = none) (hg2 : Gl X "set") (hm2 : X.mg "set" = none) (ha : PE X a ta)
    (na : starEach [a] X.env = (false, eval a X.env) :: starEach [] X.env) : PE X (.Call (.Name "sorted" p) [.Call (.Name "set" p2) [a] [] q] [] pos) (tCB (rSrtSet X.K) (tCons ta tNil)) := by
  have h1 : PE X (.Call (.Name "set" p2) [a] [] q) (tCB (rSetTT X.K X.prog X.w) (tCons (tMono ta) tNil)) := pe_callTy (cr_setTT hc hu) hg2 hm2 PyProof.Rows.boot_set (pa_cons (pe_mono ha) pa_nil na) (by decide) (by decide) na rfl
  have h2 : PE X (.Call (.Name "sorted" p) [.Call (.Name "set" p2) [a] [] q] [] pos) (tCB (rSortedT X.K X.prog X.w) (tCons (tCB (rSetTT X.K X.prog X.w) (tCons (tMono ta) tNil)) tNil)) := pe_callB (cr_sortedT hc) hg hm PyProof.Rows.boot_sorted (pa_cons h1 pa_nil)
  refine ⟨fun pins s σ H Q I h => h2.run pins s σ H Q I ⟨_, h, fun x H1 hx => ?_⟩⟩
  obtain ⟨t, ks, e, hT, hk, hf, hb, k⟩ := hx
  refine ⟨t, ks.map kOf, e, by rw [List.map_map]; exact hT, ?_, few_of hf, fun a L ha hL1 hL2 => ?_⟩
  · intro p hp
    obtain ⟨p', hp', rfl⟩ := List.mem_map.mp hp
    exact hk p' hp'
  have back : ∀ p ∈ L, ∃ p' ∈ ks, p = kOf p' := fun p hp => by
    obtain ⟨p', hp', rfl⟩ := List.mem_map.mp (hL1 p hp)
    exact ⟨p', hp', rfl⟩
  refine ⟨a, L, 2, 64, rfl, upd_same, fun p hp => ?_, by decide, fun p hp => ?_, fun L' pp hperm hnd hlen hpw hp => ?_⟩
  · obtain ⟨p', hp', rfl⟩ := back p hp
    exact ex_t (Ex.new ha) (hk p' hp')
  · obtain ⟨p', hp', rfl⟩ := back p hp
    obtain ⟨b1, b2⟩ := hb p' hp'
    refine ⟨rfl, ?_⟩
    intro z hz
    simp only [List.mem_cons, List.not_mem_nil, or_false] at hz
    rcases hz with rfl | rfl
    · exact b1
    · exact b2
  · have back' : ∀ p ∈ L', ∃ p' ∈ ks, p = kOf p' := fun p hp => back p (hperm.mem_iff.mp hp)
    have e1 : L'.map (fun q => V.ref q.1) = (L'.map kBk).map (fun q => V.ref q.1) := by rw [List.map_map]; rfl
    rw [e1]
    refine k (L'.map kBk) a _ pp (fun q hq => ?_) ?_ ha hp
    · obtain ⟨p, hp, rfl⟩ := List.mem_map.mp hq
      obtain ⟨p', hp', rfl⟩ := back' p hp
      exact hp'
    · have hm : ∀ q, q ∈ (L'.map kBk).map (·.2) ↔ q ∈ ks.map (·.2) := fun q => by
        constructor
        · intro hq
          obtain ⟨u, hu, rfl⟩ := List.mem_map.mp hq
          obtain ⟨p, hp, rfl⟩ := List.mem_map.mp hu
          obtain ⟨p', hp', rfl⟩ := back' p hp
          exact List.mem_map.mpr ⟨p', hp', rfl⟩
        · intro hq
          obtain ⟨p', hp', rfl⟩ := List.mem_map.mp hq
          obtain ⟨u, hu, e2⟩ := List.mem_map.mp (hL2 (kOf p') (List.mem_map.mpr ⟨p', hp', rfl⟩))
          obtain ⟨p3, hp3, rfl⟩ := back u hu
          refine List.mem_map.mpr ⟨p3, List.mem_map.mpr ⟨kOf p3, hperm.mem_iff.mpr hu, rfl⟩, ?_⟩
          have e3 : [p3.2.1, p3.2.2] = [p'.2.1, p'.2.2] := e2
          injection e3 with e4 e5
          injection e5 with e5 _
          exact Prod.ext e4 e5
      have n1 : ((L'.map kBk).map (·.2)).Nodup := by
        refine L2.nodup_of_map (f := fun p : Int × Int => [p.1, p.2]) ?_
        have e2 : ((L'.map kBk).map (·.2)).map (fun p : Int × Int => [p.1, p.2]) = L'.map (·.2) := by
          rw [List.map_map, List.map_map]
          refine List.map_congr_left fun p hp => ?_
          obtain ⟨p', _, rfl⟩ := back' p hp
          rfl
        rw [e2]
        exact hnd
      refine eq_of_code (((List.perm_ext_iff_of_nodup n1 (nubP_nodup _)).mpr fun q => by rw [hm, nubP_mem]).trans (srtP_perm _).symm) (fun q hq => ?_) ?_ (srtP_pw _)
      · obtain ⟨p', hp', rfl⟩ := List.mem_map.mp ((hm q).mp hq)
        exact hb p' hp'
      · rw [List.map_map, List.pairwise_map]
        refine List.Pairwise.imp_of_mem (fun {u v} hu hv h => ?_) hpw
        obtain ⟨u', _, rfl⟩ := back' u hu
        obtain ⟨v', _, rfl⟩ := back' v hv
        rw [code_pair, code_pair] at h
        exact h
end
/-! ### t[::-1], t a tuple -/
section
variable {prog : Program} {w : World} {A : Around} {E : Value → Shared → Prop} {s : Shared}
theorem adjust_rev (n : Nat) : Builtin.Slice.sliceAdjust none none (-1) (n : Int) = ((n : Int) - 1, -1) := rfl
theorem places_rev (n : Nat) : Builtin.Slice.slicePlaces ((n : Int) - 1) (-1) (-1) = n := by
  unfold Builtin.Slice.slicePlaces
  have h1 : ¬ ((-1 : Int) > 0) := by omega
  simp only [h1, if_false]
  have e : (-(-1 : Int)) = 1 := by decide
  rw [e, Int.ediv_one]
  split <;> omega
theorem fm_congr {α β : Type} {f g : α → Option β} : ∀ {l : List α}, (∀ x ∈ l, f x = g x) → l.filterMap f = l.filterMap g
  | [], _ => rfl
  | x :: l, h => by
    rw [List.filterMap_cons, List.filterMap_cons, h x List.mem_cons_self, fm_congr fun y hy => h y (List.mem_cons_of_mem _ hy)]
theorem pick_rev (xs : Array Value) : ((List.range xs.size).filterMap fun (k : Nat) => xs[((xs.size : Int) - 1 + (k : Int) * (-1)).toNat]?) = xs.toList.reverse := by
  have h1 : (List.range xs.size).filterMap (fun (k : Nat) => xs[((xs.size : Int) - 1 + (k : Int) * (-1)).toNat]?) = ((List.range xs.size).map (fun k => xs.size - 1 - k)).filterMap (xs[·]?) := by
    rw [List.filterMap_map]
    refine fm_congr fun k hk => ?_
    have hk := List.mem_range.mp hk
    show _ = xs[xs.size - 1 - k]?
    congr 1
    omega
  rw [h1, PySem.W.krv_range, List.filterMap_reverse, PySem.W.krv_all]
theorem applied_rev {sl : Addr} {vk : Value} {n : Nat} {Q : Int × Int × Nat → Shared → Prop} (hs : s.heap.IsSliceOf sl .none .none vk) (pk : IsPart vk (some (-1)))
    (h : Q ((n : Int) - 1, -1, n) s) : wpAny (model prog w) A (Builtin.Slice.sliceApplied (.ref sl) (pure (n : Int))) Q E s := by
  obtain ⟨os, hos, hcs, hds⟩ := id hs
  unfold Builtin.Slice.sliceApplied Builtin.Slice.sliceFields
  refine wpAny_bind (wpAny_bind (wpAny_field hos hds (x := .none) rfl (wpAny_bind (wpAny_field hos hds (x := .none) rfl (wpAny_bind (wpAny_field hos hds (x := vk) rfl (wpAny_pure ?_)))))))
  refine wpAny_bind (HT.slicePart_ pk ?_)
  show wpAny _ _ (if ((-1 : Int) == 0) = true then _ else _) _ _ s
  rw [if_neg (by decide)]
  refine wpAny_bind (HT.slicePart_ .none (wpAny_bind (HT.slicePart_ .none (wpAny_bind (wpAny_pure ?_)))))
  show wpAny _ _ (match Builtin.Slice.sliceAdjust none none (-1) (n : Int) with | (lo, hi) => pure (lo, (-1 : Int), Builtin.Slice.slicePlaces lo hi (-1))) _ _ s
  rw [adjust_rev n]
  show wpAny _ _ (pure ((n : Int) - 1, (-1 : Int), Builtin.Slice.slicePlaces ((n : Int) - 1) (-1) (-1))) _ _ s
  rw [places_rev]
  exact wpAny_pure h
theorem item_rev {t sl : Addr} {items : Array Value} {vk : Value} {Q : Value → Shared → Prop} (ht : IsTup s.heap t items) (hs : s.heap.IsSliceOf sl .none .none vk) (pk : IsPart vk (some (-1)))
    (h : Q (.ref s.heap.objs.size) { s with heap := s.heap.push { cls := .type "tuple", data := .seq items.toList.reverse.toArray } })
    (hsz : items.size ≤ sizeLine) : wpAny (model prog w) A (getItem (.ref t) (.ref sl)) Q E s := by
  have hok : sizeOk (.seq items.toList.reverse.toArray) := by
    show items.toList.reverse.toArray.size ≤ sizeLine
    rw [List.size_toArray, List.length_reverse, Array.length_toList]
    exact hsz
  obtain ⟨os, hos, hcs, hds⟩ := id hs
  have hTs : s.TypeIs (.ref sl) "slice" := ⟨os, hos, hcs⟩
  unfold getItem
  try with_reducible refine wpAny_holding ?_
  first | refine wpAny_bind (wpAny_pure ?_) | skip
  refine wpAny_bind (wpAny_sequenceKey ht.typeIs (by decide) ?_)
  refine wpAny_bind (wpAny_callSpecial?_slot (name := Str.ofString "__getitem__") ht.typeIs PyProof.Rows.slot_tuple_getitem
    (wpAny_call_entry PyProof.Rows.slot_tuple_getitem ht.typeIs entry_tuple_getitem ?_ (args_tuple_getitem _ _)))
  show wpAny _ _ (Builtin.Tuple.tupleItemsOf (.ref t) >>= _) _ _ s
  refine wpAny_bind (tupleItemsOf_ ht ?_)
  refine wpAny_bind (wpAny_typeOf hTs ?_)
  rw [if_pos (by decide)]
  refine wpAny_bind (applied_rev hs pk ?_)
  have hno : ¬ ((((items.size : Int) - 1) == 0 && (-1 : Int) == 1 && items.size == items.size) = true) := by
    intro q
    rw [Bool.and_eq_true, Bool.and_eq_true] at q
    exact absurd (eq_of_beq q.1.2) (by decide)
  show wpAny _ _ (if (((items.size : Int) - 1) == 0 && (-1 : Int) == 1 && items.size == items.size) = true then _ else _) _ _ s
  rw [if_neg hno, pick_rev]
  first
    | exact wpAny_bind (m := Builtin.Tuple.tupleExact _) (wpAny_newObj_type (wpAny_pure ⟨_, rfl, wpAny_pure h⟩) hok)
    | exact wpAny_bind (m := Builtin.Tuple.tupleExact _) (wpAny_newObj_type (wpAny_bind (wpAny_pure (wpAny_pure ⟨_, rfl, wpAny_pure h⟩))) hok)
    | exact wpAny_bind (wpAny_bind (m := Builtin.Tuple.tupleExact _) (wpAny_newObj_type (wpAny_pure (wpAny_pure ⟨_, rfl, wpAny_pure h⟩)) hok))
    | exact wpAny_bind (wpAny_bind (m := Builtin.Tuple.tupleExact _) (wpAny_newObj_type (wpAny_pure ⟨_, rfl, wpAny_pure h⟩) hok))
end
/-- xs[::-1], xs a list or a tuple -/
def tRevA (K : PySem.W.Frag) (te : TE) : TE := fun σ H Q => te σ H fun x H1 => ∃ a xs, x = .ref a ∧ ((SqL K H1 a xs ∧ ∀ p, H1 p = none → Q (.ref p) (upd H1 p (.lst xs.reverse))) ∨ (SqT K H1 a xs ∧ ∀ p, H1 p = none → Q (.ref p) (upd H1 p (.tup xs.reverse))))
section
variable {X : Cx}
theorem pe_revA {e : Expr} {te : TE} {k : Nat} {p1 p2 p3 pos : Pos} (he : PE X e te) : PE X (.Subscript e (.Slice none none (some (.UnaryOp .USub (.Constant (.int 1) k p1) p2)) p3) pos) (tRevA X.K te) := by
  refine ⟨fun pins s σ H Q I h => ?_⟩
  refine Subscript_ (thn (he.run pins s σ H _ I h) fun v s1 ⟨x, H1, I1, r1, q1⟩ => ?_)
  obtain ⟨a, xs, ex, q1⟩ := q1
  subst ex
  cases r1
  have hst : PO X (some (.UnaryOp .USub (.Constant (.int 1) k p1) p2)) (tPart (tUn (rU fun i => .int (-i)) (tC (.int 1)))) := po_some (pe_un un_neg pe_int)
  refine wpAny_Slice (thn (po_none.run pins s1 σ H1 (fun o H2 => o = none ∧ H2 = H1) I1 ⟨rfl, rfl⟩) fun vl s2 ⟨l, H2, I2, pl, el, e2⟩ => ?_)
  subst el e2
  refine thn (po_none.run pins s2 σ H2 (fun o H3 => o = none ∧ H3 = H2) I2 ⟨rfl, rfl⟩) fun vu s3 ⟨u, H3, I3, pu, eu, e3⟩ => ?_
  subst eu e3
  refine thn (hst.run pins s3 σ H3 (fun o H4 => o = some (-1) ∧ H4 = H3) I3 ⟨1, rfl, -1, rfl, rfl, rfl⟩) fun vs s4 ⟨o, H4, I4, ps, eo, e4⟩ => ?_
  subst eo e4
  have I5 : Inv X pins σ H4 { s4 with heap := s4.heap.push { cls := .type "slice", data := .fields #[vl, vu, vs] } } := I4.kept (t' := s4.toks) fun b ob q => Heap.get?_push_of_some _ q
  rcases q1 with ⟨hx, q⟩ | ⟨hx, q⟩
  · obtain ⟨its, r, ht, hz⟩ := I5.list hx
    have hlen := r.length
    show wpAny (model X.prog X.w) X.A (subscriptTail e (.Slice none none (some (.UnaryOp .USub (.Constant (.int 1) k p1) p2)) p3) (.ref a) (.ref s4.heap.objs.size)) (EP X pins σ Q) X.xe { s4 with heap := s4.heap.push { cls := .type "slice", data := .fields #[vl, vu, vs] } }
    refine tail_any (ops := [.ref a, .ref s4.heap.objs.size]) ht.isList.typeIs (PySem.slot_list_getitem.lookup) ?_ (by with_unfolding_all rfl)
    refine wpAny_getItem_list_slice ht.isList (Heap.IsSliceOf.new _ vl vu vs) pl pu ps (by decide) ?_ (by rw [List.size_toArray]; omega)
    rw [PySem.W.krv_pick]
    refine ⟨.ref _, _, I5.laid (t' := s4.toks) (o := .lst xs.reverse) (fun b ob q => Heap.get?_push_of_some _ q) (Nat.le_refl _) ?_, rfl, q _ (I5.hok.fresh (Nat.le_refl _))⟩
    exact ⟨by rw [List.length_reverse]; exact hz, _, 0, r.reverse, Heap.get?_push_size _ rfl⟩
  · obtain ⟨its, r, ht, hz⟩ := I5.tuple hx
    have hlen := r.length
    cases pl
    cases pu
    show wpAny (model X.prog X.w) X.A (subscriptTail e (.Slice none none (some (.UnaryOp .USub (.Constant (.int 1) k p1) p2)) p3) (.ref a) (.ref s4.heap.objs.size)) (EP X pins σ Q) X.xe { s4 with heap := s4.heap.push { cls := .type "slice", data := .fields #[.none, .none, vs] } }
    refine tail_any (ops := [.ref a, .ref s4.heap.objs.size]) ht.typeIs (PyProof.Rows.slot_tuple_getitem.lookup) ?_ (by with_unfolding_all rfl)
    refine item_rev ht (Heap.IsSliceOf.new _ .none .none vs) ps ?_ (by rw [List.size_toArray]; omega)
    refine ⟨.ref _, _, I5.laid (t' := s4.toks) (o := .tup xs.reverse) (fun b ob q => Heap.get?_push_of_some _ q) (Nat.le_refl _) ?_, rfl, q _ (I5.hok.fresh (Nat.le_refl _))⟩
    exact ⟨by rw [List.length_reverse]; exact hz, _, r.reverse, IsTup.new _ _⟩
end
end Nv

set_option Elab.async false
set_option linter.all false
set_option maxRecDepth 100000
/-! NvV: min and max of a list of data. -/
namespace Nv
open PySem PySem.Spec PyProof.Rows L2

mutual
theorem reads_det {h : Heap} : ∀ (d e : D) {v : Value} {as bs : List Addr}, PyData.canLay0 d = true → Reads h v d as → Reads h v e bs → d = e
  | .none, e, _, _, _, _, r1, r2 => by cases r1; cases r2; rfl
  | .bool b, e, _, _, _, _, r1, r2 => by cases r1; cases r2; rfl
  | .int b, e, _, _, _, _, r1, r2 => by cases r1; cases r2; rfl
  | .str b, e, _, _, _, _, r1, r2 => by cases r1; cases r2; rfl
  | .list xs, e, _, _, _, c, r1, r2 => by
    cases r1 with
    | list h1 h2 h3 h4 =>
      cases r2 with
      | list k1 k2 k3 k4 =>
        rw [h1] at k1
        cases k1
        rw [h3] at k3
        cases k3
        rw [readsAll_det xs _ (by simpa [PyData.canLay0] using c) h4 k4]
      | tuple k1 k2 k3 k4 =>
        rw [h1] at k1
        cases k1
        rw [h2] at k2
        injection k2 with k2
        exact absurd k2 (by decide)
      | dict k1 k2 k3 k4 k5 =>
        rw [h1] at k1
        cases k1
        rw [h3] at k3
        cases k3
  | .tuple xs, e, _, _, _, c, r1, r2 => by
    cases r1 with
    | tuple h1 h2 h3 h4 =>
      cases r2 with
      | tuple k1 k2 k3 k4 =>
        rw [h1] at k1
        cases k1
        rw [h3] at k3
        cases k3
        rw [readsAll_det xs _ (by simpa [PyData.canLay0] using c) h4 k4]
      | list k1 k2 k3 k4 =>
        rw [h1] at k1
        cases k1
        rw [h2] at k2
        injection k2 with k2
        exact absurd k2 (by decide)
      | dict k1 k2 k3 k4 k5 =>
        rw [h1] at k1
        cases k1
        rw [h3] at k3
        cases k3
  | .dict _, e, _, _, _, c, _, _ => by simp [PyData.canLay0] at c
theorem readsAll_det {h : Heap} : ∀ (ds es : List D) {vs : List Value} {as bs : List Addr}, PyData.canLayAll0 ds = true → ReadsAll h vs ds as → ReadsAll h vs es bs → ds = es
  | [], es, _, _, _, _, r1, r2 => by cases r1; cases r2; rfl
  | d :: ds, es, _, _, _, c, r1, r2 => by
    have c' : PyData.canLay0 d = true ∧ PyData.canLayAll0 ds = true := by simpa [PyData.canLayAll0] using c
    cases r1 with
    | cons h1 h2 =>
      cases r2 with
      | cons k1 k2 => rw [reads_det d _ c'.1 h1 k1, readsAll_det ds _ c'.2 h2 k2]
end
def rMinD (K : PySem.W.Frag) (pick : D → List D → D) : List V → Hp → VK → Prop := fun vs H Q => ∃ (a : Addr) (xs : List V) (F : Hp) (d : D) (ds : List D), vs = [V.ref a] ∧ (SqL K H a xs ∨ SqT K H a xs) ∧ Ex F H ∧ RpA K F xs (d :: ds) ∧ mmOk (d :: ds) = true ∧
  ∀ v, Rp K F v (pick d ds) → Q v H
section
variable {X : Cx} {K : PySem.W.Frag} {F H : Hp}
theorem rpa_at : ∀ {xs : List V} {ds : List D} {i : Nat} {x : V}, RpA K F xs ds → xs[i]? = some x → ∃ d, ds[i]? = some d ∧ Rp K F x d := by
  intro xs
  induction xs with
  | nil => intro ds i x _ e; simp at e
  | cons y ys ih =>
    intro ds i x h e
    cases h with
    | cons h1 h2 =>
      cases i with
      | zero =>
        simp at e
        subst e
        exact ⟨_, rfl, h1⟩
      | succ i =>
        obtain ⟨d, k1, k2⟩ := ih (i := i) h2 (by simpa using e)
        exact ⟨d, by simpa using k1, k2⟩
theorem vals_at : ∀ {xs : List V} {us : List Value} {i : Nat} {u : Value}, Vals xs us → us[i]? = some u → ∃ x, xs[i]? = some x ∧ RelV x u := by
  intro xs
  induction xs with
  | nil => intro us i u h e; cases h; simp at e
  | cons y ys ih =>
    intro us i u h e
    cases h with
    | cons h1 h2 =>
      cases i with
      | zero =>
        simp at e
        subst e
        exact ⟨y, rfl, h1⟩
      | succ i =>
        obtain ⟨d, k1, k2⟩ := ih (i := i) h2 (by simpa using e)
        exact ⟨d, by simpa using k1, k2⟩
theorem lay_all : ∀ {ds : List D}, (∀ d ∈ ds, PyData.canLay0 d = true) → PyData.canLayAll0 ds = true
  | [], _ => rfl
  | d :: ds, h => by
    rw [PyData.canLayAll0, h d List.mem_cons_self, lay_all fun e he => h e (List.mem_cons_of_mem _ he)]
    rfl
theorem dep_all {n : Nat} : ∀ {ds : List D}, (∀ d ∈ ds, d.depth ≤ n) → PyData.depthAll ds ≤ n
  | [], _ => by simp [PyData.depthAll]
  | d :: ds, h => by
    rw [PyData.depthAll]
    have h1 := h d List.mem_cons_self
    have h2 := dep_all fun e he => h e (List.mem_cons_of_mem d he)
    omega
theorem mm_go (hc : X.calm = true) (hu : X.A.units + 64 < cLine) {id : String} {pick : D → List D → D}
    (go : ∀ {s : Shared} {A : Around} {E : Value → Shared → Prop} {l : Addr} {vs : Array Value} {x : D} {xs : List D} {as : List Addr} {Q : Value → Shared → Prop}, A.handled = none → s.heap.IsList l vs → ReadsAll s.heap vs.toList (x :: xs) as → PySem.W.AlikeAll (x :: xs) → A.units + 1 + PyData.depthAll (x :: xs) < cLine →
      (∀ (i : Nat) v h' tk bs, vs[i]? = some v → Reads h' v (pick x xs) bs → (∀ b o, s.heap.get? b = some o → h'.get? b = some o) → Q v { s with heap := h', toks := tk }) → wpAny (model X.prog X.w) A (call (.builtin id) [.ref l]) Q E s)
    (goT : ∀ {s : Shared} {A : Around} {E : Value → Shared → Prop} {l : Addr} {vs : Array Value} {x : D} {xs : List D} {as : List Addr} {Q : Value → Shared → Prop}, A.handled = none → s.heap.IsTuple l vs → ReadsAll s.heap vs.toList (x :: xs) as → PySem.W.AlikeAll (x :: xs) → A.units + 1 + PyData.depthAll (x :: xs) < cLine →
      (∀ (i : Nat) v h' tk bs, vs[i]? = some v → Reads h' v (pick x xs) bs → (∀ b o, s.heap.get? b = some o → h'.get? b = some o) → Q v { s with heap := h', toks := tk }) → wpAny (model X.prog X.w) A (call (.builtin id) [.ref l]) Q E s) :
    CallR X (.builtin id) (rMinD X.K pick) := by
  intro pins s σ H vs us Q I r h
  obtain ⟨a, xs, F, d, ds, rfl, hs, hx, rp, hok, q⟩ := h
  rw [Vals.ref1 r]
  unfold mmOk at hok
  simp only [List.all_eq_true, Bool.and_eq_true, decide_eq_true_eq, Bool.not_eq_true'] at hok
  have lay : ∀ e ∈ d :: ds, PyData.canLay0 e = true := fun e he => SeqAt.canLay_of_shaped (hok e he).1.1.1
  have al : PySem.W.AlikeAll (d :: ds) := ⟨fun e he f hf => (hok e he).2 f hf, fun e he z => by
    have := (hok e he).1.2
    rw [z] at this
    simp at this⟩
  have dp := dep_all (n := 32) fun e he => (hok e he).1.1.2
  have fin : ∀ (its : List Value), Vals xs its → ∀ (i : Nat) (v : Value) (h' : Heap) (tk : Nat) (bs : List Addr), its.toArray[i]? = some v → Reads h' v (pick d ds) bs → (∀ b o, s.heap.get? b = some o → h'.get? b = some o) → (∃ x H', Inv X pins σ H' { s with heap := h', toks := tk } ∧ RelV x v ∧ Q x H') := by
    intro its rv i v h' tk bs hi hr' hk
    obtain ⟨x, e1, e2⟩ := vals_at (i := i) (u := v) rv (by simpa using hi)
    obtain ⟨e, e3, e4⟩ := rpa_at rp e1
    have le := lay e (List.mem_of_getElem? e3)
    obtain ⟨cs, e5⟩ := Dp.reads I e x v (dpEx hx _ _ (e4.dp _ _ le)) e2
    have e6 : e = pick d ds := reads_det e _ le (PyProof.Rows.Reads.keeps hk e5) hr'
    rw [e6] at e4
    exact ⟨x, H, I.kept hk, e2, q x e4⟩
  rcases hs with hs | hs
  · obtain ⟨its, rv, hl, hz⟩ := I.list hs
    obtain ⟨as, hr⟩ := Dp.readsAll I (d :: ds) xs its (dpAllEx hx _ _ (rp.dp _ _ (lay_all lay))) rv
    exact go (I.ok.hd hc) hl.isList (by simpa using hr) al (by omega) (fin its rv)
  · obtain ⟨its, rv, hl, hz⟩ := I.tuple hs
    obtain ⟨as, hr⟩ := Dp.readsAll I (d :: ds) xs its (dpAllEx hx _ _ (rp.dp _ _ (lay_all lay))) rv
    exact goT (I.ok.hd hc) hl (by simpa using hr) al (by omega) (fin its rv)
theorem cr_minD (hc : X.calm = true) (hu : X.A.units + 64 < cLine) : CallR X (.builtin "min") (rMinD X.K PySem.W.minD) := mm_go hc hu (fun h1 h2 h3 h4 h5 h6 => PySem.W.min_list_data h1 h2 h3 h4 h5 h6) fun h1 h2 h3 h4 h5 h6 => PySem.W.min_tuple_data h1 h2 h3 h4 h5 h6
theorem cr_maxD (hc : X.calm = true) (hu : X.A.units + 64 < cLine) : CallR X (.builtin "max") (rMinD X.K PySem.W.maxD) := mm_go hc hu (fun h1 h2 h3 h4 h5 h6 => PySem.W.max_list_data h1 h2 h3 h4 h5 h6) fun h1 h2 h3 h4 h5 h6 => PySem.W.max_tuple_data h1 h2 h3 h4 h5 h6
end
end Nv

set_option Elab.async false
set_option linter.all false
set_option maxRecDepth 100000
/-! Nv3: the primitives' readings. -/
namespace Nv
open PySem L2

/-- what an expression hands on: a new list that nothing knows, or known data -/
def Res (K : PySem.W.Frag) (fr : Bool) (H F' H' : Hp) (v : V) (d : D) : Prop := match fr, d with
  | true, .list _ => Fresh K H F' H' v d
  | _, _ => Rp K F' v d

/-- the operations that make a new list, where they give a list -/
def freshOp : Op → Bool
  | .add | .mul | .slT | .slH | .slB | .rev | .list | .srt | .srtSet | .split | .lrg | .lrg2 => true
  | _ => false

def rStrCat : R2 := fun x y H Q => ∃ i j, x = .str i ∧ y = .str j ∧ i.length + j.length ≤ sizeLine ∧ Q (.str (i ++ j)) H
def rInT (K : PySem.W.Frag) : R2 := fun x y H Q => ∃ d ds, Dp K H x d ∧ Dp K H y (.tuple ds) ∧ SeqAt.shaped d = true ∧ SeqAt.shaped (.tuple ds) = true ∧ Q (.bl (ds.any fun z => PyData.eqv z d)) H
def rNotInT (K : PySem.W.Frag) : R2 := fun x y H Q => ∃ d ds, Dp K H x d ∧ Dp K H y (.tuple ds) ∧ SeqAt.shaped d = true ∧ SeqAt.shaped (.tuple ds) = true ∧ Q (.bl (!ds.any fun z => PyData.eqv z d)) H
def rIsNone : R2 := fun x y H Q => y = .non ∧ Q (.bl (decide (x = .non))) H
def rNotNone : R2 := fun x y H Q => y = .non ∧ Q (.bl (!decide (x = .non))) H
def rLen (K : PySem.W.Frag) : List V → Hp → VK → Prop := fun xs H Q => ∃ x n, xs = [x] ∧ LenV K x H n ∧ Q (.int n) H
def rTuple (K : PySem.W.Frag) : List V → Hp → VK → Prop := fun xs H Q => ∃ p ys, xs = [.ref p] ∧ ((SqL K H p ys ∧ ∀ l, H l = none → Q (.ref l) (upd H l (.tup ys))) ∨ (SqT K H p ys ∧ Q (.ref p) H))
def rList (K : PySem.W.Frag) : List V → Hp → VK → Prop := fun xs H Q => ∃ p ys, xs = [.ref p] ∧ (SqL K H p ys ∨ SqT K H p ys) ∧ ∀ l, H l = none → Q (.ref l) (upd H l (.lst ys))
def rListK : List V → Hp → VK → Prop := fun xs H Q => ∃ (a : Addr) (kvs : List (Key × V)), xs = [.ref a] ∧ Rd H a (.dK kvs) ∧ ∀ p, H p = none → Q (.ref p) (upd H p (.lst (kvs.map fun kv => kV kv.1)))
def rMin2 : List V → Hp → VK → Prop := fun xs H Q => ∃ i j, xs = [.int i, .int j] ∧ Q (.int (if j < i then j else i)) H
def rMax2 : List V → Hp → VK → Prop := fun xs H Q => ∃ i j, xs = [.int i, .int j] ∧ Q (.int (if j > i then j else i)) H
def rLrg : R2 := fun x y H Q => ∃ i j, x = .int i ∧ y = .int j ∧ RgOk i j ∧ ∀ q, H q = none → Q (.ref q) (upd H q (.lst (rgV i j)))
def rTrg : R2 := fun x y H Q => ∃ i j, x = .int i ∧ y = .int j ∧ RgOk i j ∧ ∀ q, H q = none → Q (.ref q) (upd H q (.tup (rgV i j)))
def rInt1 : List V → Hp → VK → Prop := fun xs H Q => (∃ i, xs = [.int i] ∧ Q (.int i) H) ∨ ∃ k, xs = [.bl k] ∧ Q (.int (if k then 1 else 0)) H
def rAbs : List V → Hp → VK → Prop := fun xs H Q => ∃ i, xs = [.int i] ∧ Q (.int (if i < 0 then -i else i)) H
/-- xs[::-1] -/
def rRev (K : PySem.W.Frag) : List V → Hp → VK → Prop := fun vs H Q => ∃ a xs, vs = [.ref a] ∧ ((SqL K H a xs ∧ ∀ p, H p = none → Q (.ref p) (upd H p (.lst xs.reverse))) ∨ (SqT K H a xs ∧ ∀ p, H p = none → Q (.ref p) (upd H p (.tup xs.reverse))))
/-- len(set(xs)) -/
def rLenSet (K : PySem.W.Frag) : List V → Hp → VK → Prop := fun vs H Q => ∃ l ns, vs = [.ref l] ∧ SqL K H l (ns.map V.int) ∧ ns.length ≤ 4000 ∧ Q (.int ((nubI ns).length : Nat)) H
def rLenSetP (K : PySem.W.Frag) : List V → Hp → VK → Prop := fun vs H Q => ∃ (l : Addr) (ks : List (Addr × Int × Int)), vs = [.ref l] ∧ SqL K H l (ks.map fun p => V.ref p.1) ∧ (∀ p ∈ ks, SqT K H p.1 [.int p.2.1, .int p.2.2]) ∧ ks.length < 64 ∧
  ∀ a o, H a = none → Q (.int ((nubP (ks.map (·.2))).length : Nat)) (upd H a o)
def opTy : Op → String
  | .isInt => "int"
  | .isBool => "bool"
  | .isTup => "tuple"
  | .isStr => "str"
  | _ => "list"

/-- a < b for data of one form -/
def rLtD (K : PySem.W.Frag) : R2 := fun x y H Q => ∃ d e, Dp K H x d ∧ Dp K H y e ∧ SeqAt.shaped d = true ∧ SeqAt.shaped e = true ∧ PySem.W.alike d e = true ∧ d ≠ .none ∧ Q (.bl (PySem.W.dataLt d e)) H
/-- t.index(k), whole numbers -/
def rTIndex (K : PySem.W.Frag) : V → List V → Hp → VK → Prop := fun x xs H Q => ∃ (a : Addr) (ns : List Int) (k : Int), x = .ref a ∧ xs = [.int k] ∧ SqT K H a (ns.map V.int) ∧ k ∈ ns ∧ Q (.int (ns.idxOf k : Nat)) H
/-- an operation on values -/
def rd (K : PySem.W.Frag) : Op → List V → Hp → VK → Prop
  | .add, [x, y] => fun H Q => rI0 (fun i j => .int (i + j)) x y H Q ∨ rStrCat x y H Q ∨ rCat x y H Q ∨ rCatA K x y H Q
  | .sub, [x, y] => rI0 (fun i j => .int (i - j)) x y
  | .mul, [x, y] => fun H Q => rI CMul (fun i j => .int (i * j)) x y H Q ∨ rRep x y H Q ∨ rRepT K x y H Q
  | .mod, [x, y] => rI (fun _ j => 0 < j) (fun i j => .int (i % j)) x y
  | .fdiv, [x, y] => rI CDiv (fun i j => .int (i / j)) x y
  | .pow, [x, y] => rI CPow (fun i j => .int (i ^ j.toNat)) x y
  | .neg, [x] => rU (fun i => .int (-i)) x
  | .eq, [x, y] => rEqD K x y
  | .ne, [x, y] => rNeD K x y
  | .lt, [x, y] => fun H Q => rI0 (fun i j => .bl (decide (i < j))) x y H Q ∨ rLtD K x y H Q
  | .le, [x, y] => rI0 (fun i j => .bl (decide (i ≤ j))) x y
  | .gt, [x, y] => rI0 (fun i j => .bl (decide (j < i))) x y
  | .ge, [x, y] => rI0 (fun i j => .bl (decide (j ≤ i))) x y
  | .isN, [x] => rIsNone x .non
  | .notN, [x] => rNotNone x .non
  | .inn, [x, y] => fun H Q => rInD K x y H Q ∨ rInT K x y H Q
  | .nin, [x, y] => fun H Q => rNotInD K x y H Q ∨ rNotInT K x y H Q
  | .idx, [x, y] => rIx K x y
  | .slT, [x, y] => fun H Q => ∃ i, y = .int i ∧ (rSlL K x (some i) none H Q ∨ rSlA K x (some i) none H Q)
  | .slH, [x, y] => fun H Q => ∃ i, y = .int i ∧ (rSlL K x none (some i) H Q ∨ rSlA K x none (some i) H Q)
  | .slB, [x, y, z] => fun H Q => ∃ i j, y = .int i ∧ z = .int j ∧ (rSlL K x (some i) (some j) H Q ∨ rSlA K x (some i) (some j) H Q)
  | .index, [x, y] => rIndexD K x [y]
  | .tindex, [x, y] => rTIndex K x [y]
  | .rev, xs => rRev K xs
  | .lenSet, xs => rLenSet K xs
  | .lenSetP, xs => rLenSetP K xs
  | .len, xs => rLen K xs
  | .tuple, xs => rTuple K xs
  | .list, xs => fun H Q => rList K xs H Q ∨ rListK xs H Q
  | .allB, xs => rAll K xs
  | .anyB, xs => rAny K xs
  | .min2, xs => rMin2 xs
  | .max2, xs => rMax2 xs
  | .intOf, xs => rInt1 xs
  | .absI, xs => rAbs xs
  | .srt, xs => rSortD K xs
  | .srtSet, xs => rSrtSet K xs
  | .minL, xs => rMinD K PySem.W.minD xs
  | .maxL, xs => rMinD K PySem.W.maxD xs
  | .lrg, [x] => rLrg (.int 0) x
  | .lrg2, [x, y] => rLrg x y
  | .trg, [x] => rTrg (.int 0) x
  | .isInt, [x] => rIsi K [x, .ty "int"]
  | .isBool, [x] => rIsi K [x, .ty "bool"]
  | .isTup, [x] => rIsi K [x, .ty "tuple"]
  | .isStr, [x] => rIsi K [x, .ty "str"]
  | .isList, [x] => rIsi K [x, .ty "list"]
  | _, _ => fun _ _ => False

inductive VwA (K : PySem.W.Frag) (F H : Hp) : List V → List D → Prop
  | nil : VwA K F H [] []
  | cons {v : V} {vs : List V} {d : D} {ds : List D} : Vw K F H v d → VwA K F H vs ds → VwA K F H (v :: vs) (d :: ds)
section
variable {K : PySem.W.Frag} {F H : Hp}
theorem VwA.zero {vs : List V} (h : VwA K F H vs []) : vs = [] := by cases h; rfl
theorem VwA.one {vs : List V} {a : D} (h : VwA K F H vs [a]) : ∃ x, vs = [x] ∧ Vw K F H x a := by
  cases h with
  | cons h1 h2 => exact ⟨_, by rw [h2.zero], h1⟩
theorem VwA.two {vs : List V} {a b : D} (h : VwA K F H vs [a, b]) : ∃ x y, vs = [x, y] ∧ Vw K F H x a ∧ Vw K F H y b := by
  cases h with
  | cons h1 h2 =>
    obtain ⟨y, e, h3⟩ := h2.one
    exact ⟨_, y, by rw [e], h1, h3⟩
theorem VwA.three {vs : List V} {a b c : D} (h : VwA K F H vs [a, b, c]) : ∃ x y z, vs = [x, y, z] ∧ Vw K F H x a ∧ Vw K F H y b ∧ Vw K F H z c := by
  cases h with
  | cons h1 h2 =>
    obtain ⟨y, z, e, h3, h4⟩ := h2.two
    exact ⟨_, y, z, by rw [e], h1, h3, h4⟩
/-- the way on: to any known value; to a new list -/
theorem res_rp {fr : Bool} {H' F' : Hp} {v : V} {d : D} (h : ∀ ds, d ≠ .list ds) (r : Rp K F' v d) : Res K fr H F' H' v d := by
  unfold Res
  split
  · exact absurd rfl (h _)
  · exact r
theorem fresh_at {p : Addr} {vs : List V} {ds : List D} {F' : Hp} (e : Ex F H) (h : H p = none) (hz : vs.length ≤ sizeLine) (r : RpA K F vs ds) : Fresh K H F (upd H p (.lst vs)) (.ref p) (.list ds) := by
  refine ⟨p, vs, ds, rfl, rfl, h, ?_, upd_same, hz, r⟩
  cases q : F p with
  | none => rfl
  | some u =>
    rw [e _ _ q] at h
    cases h
theorem tup_at {p : Addr} {vs : List V} {ds : List D} (e : Ex F H) (h : H p = none) (hz : vs.length ≤ sizeLine) (r : RpA K F vs ds) : Rp K (upd F p (.tup vs)) (.ref p) (.tuple ds) := by
  have hF : F p = none := by
    cases q : F p with
    | none => rfl
    | some u =>
      rw [e _ _ q] at h
      cases h
  exact .tup (SqU.of upd_same) hz (r.mono (Ex.new hF))
theorem lst_at {p : Addr} {vs : List V} {ds : List D} (e : Ex F H) (h : H p = none) (hz : vs.length ≤ sizeLine) (r : RpA K F vs ds) : Rp K (upd F p (.lst vs)) (.ref p) (.list ds) := by
  have hF : F p = none := by
    cases q : F p with
    | none => rfl
    | some u =>
      rw [e _ _ q] at h
      cases h
  exact .lst upd_same hz (r.mono (Ex.new hF))
theorem boolsD_map : ∀ {vs : List V} {ds : List D} {bs : List Bool}, RpA K F vs ds → boolsD ds = some bs → vs = bs.map V.bl
  | _, [], bs, h, e => by
    cases h
    simp [boolsD] at e
    subst e
    rfl
  | _, .bool b :: r, bs, h, e => by
    cases h with
    | cons h1 h2 =>
      cases h1
      simp only [boolsD, Option.map_eq_some_iff] at e
      obtain ⟨cs, e1, e2⟩ := e
      subst e2
      rw [boolsD_map h2 e1]
      rfl
  | _, .none :: r, bs, h, e => by simp [boolsD] at e
  | _, .int _ :: r, bs, h, e => by simp [boolsD] at e
  | _, .str _ :: r, bs, h, e => by simp [boolsD] at e
  | _, .list _ :: r, bs, h, e => by simp [boolsD] at e
  | _, .tuple _ :: r, bs, h, e => by simp [boolsD] at e
  | _, .dict _ :: r, bs, h, e => by simp [boolsD] at e
theorem atI_rp {vs : List V} {ds : List D} {i : Int} {d : D} (r : RpA K F vs ds) (h : atI ds i = some d) : ∃ v, atI vs i = some v ∧ Rp K F v d := by
  unfold atI at h ⊢
  rw [r.length]
  cases e : ixN ds.length i with
  | none =>
    rw [e] at h
    cases h
  | some j =>
    rw [e] at h
    exact r.get h
theorem tyx {v : V} {d : D} (e : Ex F H) (h : Vw K F H v d) (hd : ∀ kvs, d ≠ .dict kvs) : ∃ n, TyX K H v (.type n) ∧ n = tyD d := by
  cases d with
  | none => rw [h.none]; exact ⟨_, .base .non, rfl⟩
  | bool b => rw [h.bool]; exact ⟨_, .base (.bl b), rfl⟩
  | int b => rw [h.int]; exact ⟨_, .base (.int b), rfl⟩
  | str b => rw [h.str]; exact ⟨_, .base (.str b), rfl⟩
  | list ds =>
    obtain ⟨a, vs, rfl, h1, _⟩ := h.list e
    exact ⟨_, .base (.lst h1), rfl⟩
  | tuple ds =>
    obtain ⟨a, vs, rfl, h1, _⟩ := h.tup
    rcases ex_t e h1.1 with (h1 | ⟨o, h1⟩) | ⟨o, its, n, hk, hc, _⟩
    · exact ⟨_, .base (.tup h1), rfl⟩
    · exact ⟨_, .fTuple h1, rfl⟩
    · exact ⟨_, .kTuple hk hc, rfl⟩
  | dict kvs => exact absurd rfl (hd kvs)
end


/-- the ways on -/
structure On (K : PySem.W.Frag) (F H : Hp) (fr : Bool) (d : D) (Q : VK) : Prop where
  e : Ex F H
  s : ∀ v, (∀ ds, d ≠ .list ds) → Rp K F v d → Q v H
  t : ∀ p us es, d = .tuple es → H p = none → us.length ≤ sizeLine → RpA K F us es → Q (.ref p) (upd H p (.tup us))
  l : ∀ p us es, fr = true → d = .list es → H p = none → us.length ≤ sizeLine → RpA K F us es → Q (.ref p) (upd H p (.lst us))
  r : ∀ v, fr = false → Rp K F v d → Q v H
theorem on_of {K : PySem.W.Frag} {M : Addr → Prop} {F H : Hp} {fr : Bool} {d : D} {Q : VK} (e : Ex F H) (q : ∀ v F' H', Stp M F H F' H' → Res K fr H F' H' v d → Q v H') : On K F H fr d Q := by
  refine ⟨e, fun v hn r => q v F H (Stp.refl e) (res_rp hn r), fun p us es z hp hz r => ?_, fun p us es fo z hp hz r => ?_, fun v z r => ?_⟩
  · exact q _ _ _ (Stp.new e hp) (res_rp (by intro ds w; rw [z] at w; cases w) (by rw [z]; exact tup_at e hp hz r))
  · refine q _ _ _ (Stp.lay e hp) ?_
    rw [z, fo]
    exact fresh_at (F' := F) e hp hz r
  · refine q _ _ _ (Stp.refl e) ?_
    rw [z]
    exact r
section
variable {K : PySem.W.Frag} {F H : Hp} {vs : List V} {ds : List D} {d : D} {Q : VK} {fr : Bool}
theorem On.i (o : On K F H fr d Q) {i : Int} (z : some (.int i) = some d) : Q (.int i) H := by
  cases z
  exact o.s _ (fun ds w => by cases w) (.int i)
theorem On.b (o : On K F H fr d Q) {i : Bool} (z : some (.bool i) = some d) : Q (.bl i) H := by
  cases z
  exact o.s _ (fun ds w => by cases w) (.bl i)
theorem On.x (o : On K F H fr d Q) {i : Str} (z : some (.str i) = some d) : Q (.str i) H := by
  cases z
  exact o.s _ (fun ds w => by cases w) (.str i)
theorem ok_add (o : On K F H true d Q) (h : VwA K F H vs ds) (p : pAdd ds = some d) : rd K .add vs H Q := by
  unfold pAdd at p
  split at p
  · obtain ⟨x, y, rfl, h1, h2⟩ := h.two
    cases h1.int
    cases h2.int
    exact Or.inl ⟨_, _, rfl, rfl, o.i p⟩
  · obtain ⟨x, y, rfl, h1, h2⟩ := h.two
    cases h1.str
    cases h2.str
    split at p
    · rename_i hz
      exact Or.inr (Or.inl ⟨_, _, rfl, rfl, hz, o.x p⟩)
    · cases p
  · obtain ⟨x, y, rfl, h1, h2⟩ := h.two
    obtain ⟨a, us, rfl, h3, h4, h5⟩ := h1.list o.e
    obtain ⟨b, ws, rfl, h6, h7, h8⟩ := h2.list o.e
    split at p
    · rename_i hz
      refine Or.inr (Or.inr (Or.inl ⟨a, b, us, ws, rfl, rfl, h3, h6, by rw [h5.length, h8.length]; exact hz, fun q hp => ?_⟩))
      refine o.l _ _ _ rfl (Option.some.inj p).symm hp ?_ (h5.append h8)
      rw [List.length_append, h5.length, h8.length]
      exact hz
    · cases p
  · obtain ⟨x, y, rfl, h1, h2⟩ := h.two
    obtain ⟨a, us, rfl, h3, h4, h5⟩ := h1.tup
    obtain ⟨b, ws, rfl, h6, h7, h8⟩ := h2.tup
    split at p
    · rename_i hz
      cases p
      refine Or.inr (Or.inr (Or.inr ⟨a, b, us, ws, rfl, rfl, ex_t o.e h3.1, ex_t o.e h6.1, by rw [h5.length, h8.length]; exact hz, fun hu => ?_, fun hu hw => ?_, fun hu hw p hp => ?_⟩))
      · subst hu
        cases h5
        exact o.s _ (fun ds w => by cases w) (.tup h6 h7 h8)
      · subst hw
        cases h8
        exact o.s _ (fun ds w => by cases w) (by rw [List.append_nil]; exact .tup h3 h4 h5)
      · refine o.t _ _ _ rfl hp ?_ (h5.append h8)
        rw [List.length_append, h5.length, h8.length]
        exact hz
    · cases p
  · cases p
theorem ok_sub (o : On K F H fr d Q) (h : VwA K F H vs ds) (p : pSub ds = some d) : rd K .sub vs H Q := by
  unfold pSub at p
  split at p
  · obtain ⟨x, y, rfl, h1, h2⟩ := h.two
    cases h1.int
    cases h2.int
    exact ⟨_, _, rfl, rfl, o.i p⟩
  · cases p
theorem ok_mul (o : On K F H true d Q) (h : VwA K F H vs ds) (p : pMul ds = some d) : rd K .mul vs H Q := by
  unfold pMul at p
  split at p
  · obtain ⟨x, y, rfl, h1, h2⟩ := h.two
    cases h1.int
    cases h2.int
    split at p
    · rename_i hz
      exact Or.inl ⟨_, _, rfl, rfl, hz, o.i p⟩
    · cases p
  · obtain ⟨x, y, rfl, h1, h2⟩ := h.two
    obtain ⟨a, us, rfl, h3, h4, h5⟩ := h1.list o.e
    cases h2.int
    split at p
    · rename_i hz
      obtain ⟨z1, z2, z3⟩ := hz
      refine Or.inr (Or.inl ⟨a, _, us, rfl, rfl, h3, z1, z2, by rw [h5.length]; exact z3, fun q hp => ?_⟩)
      refine o.l _ _ _ rfl (Option.some.inj p).symm hp ?_ (h5.rep _)
      rw [PyProof.Rows.lm_len_rep_flat, Nat.mul_comm, h5.length]
      exact z3
    · cases p
  · obtain ⟨x, y, rfl, h1, h2⟩ := h.two
    obtain ⟨a, us, rfl, h3, h4, h5⟩ := h1.tup
    cases h2.int
    split at p
    · rename_i hz
      obtain ⟨z1, z2, z3⟩ := hz
      refine Or.inr (Or.inr ⟨a, _, us, rfl, rfl, ex_t o.e h3.1, fun z => ?_, z1, z2, by rw [h5.length]; exact z3, fun q hp => ?_⟩)
      · rw [z] at h5
        cases h5
      · refine o.t _ _ _ (Option.some.inj p).symm hp ?_ (h5.rep _)
        rw [PyProof.Rows.lm_len_rep_flat, h5.length, sizeLine_eq]
        have hk : ∀ k : Int, k ≤ 1000 → k.toNat ≤ 1000 := fun k h => by omega
        have := Nat.mul_le_mul (hk _ z2) z3
        first
          | omega
          | (rw [Nat.mul_comm]; omega)
    · cases p
  · cases p
theorem ok_mod (o : On K F H fr d Q) (h : VwA K F H vs ds) (p : pMod ds = some d) : rd K .mod vs H Q := by
  unfold pMod at p
  split at p
  · obtain ⟨x, y, rfl, h1, h2⟩ := h.two
    cases h1.int
    cases h2.int
    split at p
    · rename_i hz
      exact ⟨_, _, rfl, rfl, hz, o.i p⟩
    · cases p
  · cases p
theorem ok_fdiv (o : On K F H fr d Q) (h : VwA K F H vs ds) (p : pFdiv ds = some d) : rd K .fdiv vs H Q := by
  unfold pFdiv at p
  split at p
  · obtain ⟨x, y, rfl, h1, h2⟩ := h.two
    cases h1.int
    cases h2.int
    split at p
    · rename_i hz
      exact ⟨_, _, rfl, rfl, hz, o.i p⟩
    · cases p
  · cases p
theorem ok_pow (o : On K F H fr d Q) (h : VwA K F H vs ds) (p : pPow ds = some d) : rd K .pow vs H Q := by
  unfold pPow at p
  split at p
  · obtain ⟨x, y, rfl, h1, h2⟩ := h.two
    cases h1.int
    cases h2.int
    split at p
    · rename_i hz
      exact ⟨_, _, rfl, rfl, hz, o.i p⟩
    · cases p
  · cases p
theorem ok_neg (o : On K F H fr d Q) (h : VwA K F H vs ds) (p : pNeg ds = some d) : rd K .neg vs H Q := by
  unfold pNeg at p
  split at p
  · obtain ⟨x, rfl, h1⟩ := h.one
    cases h1.int
    exact ⟨_, rfl, o.i p⟩
  · cases p
theorem Vw.scr {v : V} {b : List D} (h : Vw K F H v (.dict [(.list b, .none)])) : ∃ (a : Addr) (ns : List Int), v = .ref a ∧ b = ns.map .int ∧ SqL K F a (ns.map V.int) := by
  cases h with
  | imm h =>
    generalize e : (PyData.dict [(.list b, .none)] : D) = d at h
    cases h with
    | scr ns h1 =>
      unfold Nv.scr at e
      injection e with e
      injection e with e _
      injection e with e _
      injection e with e
      exact ⟨_, ns, rfl, e, h1.l⟩
    | dk h1 h2 =>
      cases e
      cases h2
    | _ => cases e
  | own h1 h2 =>
    cases h2 with
    | dk h2 => cases h2
theorem ints_rp : ∀ ns : List Int, RpA K F (ns.map V.int) (ns.map .int)
  | [] => .nil
  | n :: ns => .cons (.int n) (ints_rp ns)
theorem ints_lay : ∀ ns : List Int, PyData.canLayAll0 (ns.map .int) = true
  | [] => rfl
  | n :: ns => by
    show PyData.canLayAll0 (.int n :: ns.map .int) = true
    rw [PyData.canLayAll0, ints_lay ns]
    rfl
theorem ints_shaped (ns : List Int) : SeqAt.shaped (.list (ns.map .int)) = true := by
  unfold SeqAt.shaped
  rw [PyData.canLay0, ints_lay, PyData.depth, PySem.W.depth_ints]
  decide
theorem ok_eq (o : On K F H fr d Q) (h : VwA K F H vs ds) (p : pEq ds = some d) : rd K .eq vs H Q := by
  unfold pEq at p
  split at p
  · obtain ⟨x, y, rfl, h1, h2⟩ := h.two
    obtain ⟨a, ns, rfl, rfl, h3⟩ := h1.scr
    obtain ⟨a', us, rfl, h4, h5, h6⟩ := h2.list o.e
    refine ⟨.list (ns.map .int), .list [], .lst (ex_l o.e h3) (dpAllEx o.e _ _ ((ints_rp ns).dp _ _ (ints_lay ns))), .lst (SqL.of h4) (by cases h6; exact .nil), ints_shaped ns, by decide +kernel, ?_⟩
    have e : PyData.eqv (.list (ns.map .int)) (.list []) = (ns.map PyData.int).isEmpty := by
      cases ns <;> rfl
    rw [e]
    exact o.b p
  · obtain ⟨x, y, rfl, h1, h2⟩ := h.two
    split at p
    · rename_i hz
      unfold okEq at hz
      rw [Bool.and_eq_true] at hz
      exact ⟨_, _, h1.dp o.e (SeqAt.canLay_of_shaped hz.1), h2.dp o.e (SeqAt.canLay_of_shaped hz.2), hz.1, hz.2, o.b p⟩
    · cases p
  · cases p
theorem ok_ne (o : On K F H fr d Q) (h : VwA K F H vs ds) (p : pNe ds = some d) : rd K .ne vs H Q := by
  unfold pNe at p
  split at p
  · obtain ⟨x, y, rfl, h1, h2⟩ := h.two
    split at p
    · rename_i hz
      unfold okEq at hz
      rw [Bool.and_eq_true] at hz
      exact ⟨_, _, h1.dp o.e (SeqAt.canLay_of_shaped hz.1), h2.dp o.e (SeqAt.canLay_of_shaped hz.2), hz.1, hz.2, o.b p⟩
    · cases p
  · cases p
theorem ok_cmp {f : Int → Int → Bool} (o : On K F H fr d Q) (h : VwA K F H vs ds) (p : pCmp f ds = some d) : ∃ x y, vs = [x, y] ∧ rI0 (fun i j => .bl (f i j)) x y H Q := by
  unfold pCmp at p
  split at p
  · obtain ⟨x, y, rfl, h1, h2⟩ := h.two
    cases h1.int
    cases h2.int
    exact ⟨_, _, rfl, _, _, rfl, rfl, o.b p⟩
  · cases p
theorem ok_lt (o : On K F H fr d Q) (h : VwA K F H vs ds) (p : pLt ds = some d) : rd K .lt vs H Q := by
  unfold pLt at p
  split at p
  · obtain ⟨x, y, rfl, h1, h2⟩ := h.two
    cases h1.int
    cases h2.int
    exact Or.inl ⟨_, _, rfl, rfl, o.b p⟩
  · obtain ⟨x, y, rfl, h1, h2⟩ := h.two
    split at p
    · rename_i hz
      unfold ltOk at hz
      simp only [Bool.and_eq_true] at hz
      obtain ⟨⟨⟨z1, z2⟩, z3⟩, z4⟩ := hz
      exact Or.inr ⟨_, _, h1.dp o.e (SeqAt.canLay_of_shaped z2), h2.dp o.e (SeqAt.canLay_of_shaped z3), z2, z3, z1, (fun e => by rw [e] at z4; cases z4), o.b p⟩
    · cases p
  · cases p
theorem vw_none {v : V} {d : D} (h : Vw K F H v d) : decide (v = .non) = isNone d := by
  cases d with
  | none => rw [h.none]; rfl
  | bool b => rw [h.bool]; rfl
  | int b => rw [h.int]; rfl
  | str b => rw [h.str]; rfl
  | list ds =>
    cases h with
    | imm h => cases h; rfl
    | own h1 h2 => rfl
  | tuple ds =>
    cases h with
    | imm h => cases h; rfl
    | own h1 h2 => cases h2
  | dict kvs =>
    cases h with
    | imm h => cases h <;> rfl
    | own h1 h2 => cases h2 <;> rfl
theorem ok_isN (o : On K F H fr d Q) (h : VwA K F H vs ds) (p : pIsN false ds = some d) : rd K .isN vs H Q := by
  unfold pIsN at p
  split at p
  · obtain ⟨x, rfl, h1⟩ := h.one
    exact ⟨rfl, by rw [vw_none h1]; exact o.b p⟩
  · cases p
theorem ok_notN (o : On K F H fr d Q) (h : VwA K F H vs ds) (p : pIsN true ds = some d) : rd K .notN vs H Q := by
  unfold pIsN at p
  split at p
  · obtain ⟨x, rfl, h1⟩ := h.one
    exact ⟨rfl, by rw [vw_none h1]; exact o.b p⟩
  · cases p
theorem ok_in (o : On K F H fr d Q) (h : VwA K F H vs ds) (p : pIn ds = some d) : rd K .inn vs H Q := by
  unfold pIn at p
  split at p
  · obtain ⟨x, y, rfl, h1, h2⟩ := h.two
    split at p
    · rename_i hz
      unfold okEq at hz
      rw [Bool.and_eq_true] at hz
      exact Or.inl ⟨_, _, h1.dp o.e (SeqAt.canLay_of_shaped hz.1), h2.dp o.e (SeqAt.canLay_of_shaped hz.2), hz.1, hz.2, o.b p⟩
    · cases p
  · obtain ⟨x, y, rfl, h1, h2⟩ := h.two
    split at p
    · rename_i hz
      unfold okEq at hz
      rw [Bool.and_eq_true] at hz
      exact Or.inr ⟨_, _, h1.dp o.e (SeqAt.canLay_of_shaped hz.1), h2.dp o.e (SeqAt.canLay_of_shaped hz.2), hz.1, hz.2, o.b p⟩
    · cases p
  · cases p
theorem ok_nin (o : On K F H fr d Q) (h : VwA K F H vs ds) (p : pNin ds = some d) : rd K .nin vs H Q := by
  unfold pNin at p
  split at p
  · obtain ⟨x, y, rfl, h1, h2⟩ := h.two
    split at p
    · rename_i hz
      unfold okEq at hz
      rw [Bool.and_eq_true] at hz
      exact Or.inl ⟨_, _, h1.dp o.e (SeqAt.canLay_of_shaped hz.1), h2.dp o.e (SeqAt.canLay_of_shaped hz.2), hz.1, hz.2, o.b p⟩
    · cases p
  · obtain ⟨x, y, rfl, h1, h2⟩ := h.two
    split at p
    · rename_i hz
      unfold okEq at hz
      rw [Bool.and_eq_true] at hz
      exact Or.inr ⟨_, _, h1.dp o.e (SeqAt.canLay_of_shaped hz.1), h2.dp o.e (SeqAt.canLay_of_shaped hz.2), hz.1, hz.2, o.b p⟩
    · cases p
  · cases p
theorem ok_idx (o : On K F H false d Q) (h : VwA K F H vs ds) (p : pIdx ds = some d) : rd K .idx vs H Q := by
  unfold pIdx at p
  split at p
  · obtain ⟨x, y, rfl, h1, h2⟩ := h.two
    obtain ⟨a, ns, rfl, rfl, h3⟩ := h1.scr
    cases h2.int
    obtain ⟨v, h6, h7⟩ := atI_rp (ints_rp (K := K) (F := F) ns) p
    exact Or.inl ⟨a, _, _, v, rfl, rfl, ex_l o.e h3, h6, o.r v rfl h7⟩
  · obtain ⟨x, y, rfl, h1, h2⟩ := h.two
    obtain ⟨a, us, rfl, h3, h4, h5⟩ := h1.list o.e
    cases h2.int
    obtain ⟨v, h6, h7⟩ := atI_rp h5 p
    exact Or.inl ⟨a, us, _, v, rfl, rfl, SqL.of h3, h6, o.r v rfl h7⟩
  · obtain ⟨x, y, rfl, h1, h2⟩ := h.two
    obtain ⟨a, us, rfl, h3, h4, h5⟩ := h1.tup
    cases h2.int
    obtain ⟨v, h6, h7⟩ := atI_rp h5 p
    exact Or.inr (Or.inl ⟨a, us, _, v, rfl, rfl, ex_t o.e h3.1, h6, o.r v rfl h7⟩)
  · cases p
theorem ok_sl {lo hi : Option Int} {es : List D} {x : V} (o : On K F H true d Q) : (Vw K F H x (.list es) → d = .list (cutD es lo hi) → rSlL K x lo hi H Q) ∧ (Vw K F H x (.tuple es) → d = .tuple (cutD es lo hi) → rSlA K x lo hi H Q) := by
  constructor
  · intro h1 p
    obtain ⟨a, us, rfl, h3, h4, h5⟩ := h1.list o.e
    refine ⟨a, us, rfl, SqL.of h3, fun q hq => ?_⟩
    exact o.l _ _ _ rfl p hq (Nat.le_trans (cutV_length us _ _) h4) (h5.cut _ _)
  · intro h1 p
    obtain ⟨a, us, rfl, h3, h4, h5⟩ := h1.tup
    refine ⟨a, us, rfl, ex_t o.e h3.1, fun hw => ?_, fun _ q hq => o.t _ _ _ p hq (Nat.le_trans (cutV_length us _ _) h4) (h5.cut _ _)⟩
    have e1 : cutD es lo hi = es := by
      unfold cutD
      rw [← h5.length, hw.1, hw.2, h5.length]
      simp
    rw [e1] at p
    subst p
    exact o.s _ (fun ds w => by cases w) (.tup h3 h4 h5)
theorem ok_slT (o : On K F H true d Q) (h : VwA K F H vs ds) (p : pSlT ds = some d) : rd K .slT vs H Q := by
  unfold pSlT at p
  split at p
  · obtain ⟨x, y, rfl, h1, h2⟩ := h.two
    cases h2.int
    exact ⟨_, rfl, Or.inl ((ok_sl o).1 h1 (Option.some.inj p).symm)⟩
  · obtain ⟨x, y, rfl, h1, h2⟩ := h.two
    cases h2.int
    exact ⟨_, rfl, Or.inr ((ok_sl o).2 h1 (Option.some.inj p).symm)⟩
  · cases p
theorem ok_slH (o : On K F H true d Q) (h : VwA K F H vs ds) (p : pSlH ds = some d) : rd K .slH vs H Q := by
  unfold pSlH at p
  split at p
  · obtain ⟨x, y, rfl, h1, h2⟩ := h.two
    cases h2.int
    exact ⟨_, rfl, Or.inl ((ok_sl o).1 h1 (Option.some.inj p).symm)⟩
  · obtain ⟨x, y, rfl, h1, h2⟩ := h.two
    cases h2.int
    exact ⟨_, rfl, Or.inr ((ok_sl o).2 h1 (Option.some.inj p).symm)⟩
  · cases p
theorem ok_slB (o : On K F H true d Q) (h : VwA K F H vs ds) (p : pSlB ds = some d) : rd K .slB vs H Q := by
  unfold pSlB at p
  split at p
  · obtain ⟨x, y, z, rfl, h1, h2, h3⟩ := h.three
    cases h2.int
    cases h3.int
    exact ⟨_, _, rfl, rfl, Or.inl ((ok_sl o).1 h1 (Option.some.inj p).symm)⟩
  · obtain ⟨x, y, z, rfl, h1, h2, h3⟩ := h.three
    cases h2.int
    cases h3.int
    exact ⟨_, _, rfl, rfl, Or.inr ((ok_sl o).2 h1 (Option.some.inj p).symm)⟩
  · cases p
theorem idxOfD_at {e : D} : ∀ {xs : List D} {j : Nat}, idxOfD e xs = some j → (∃ z, xs[j]? = some z ∧ PyData.eqv z e = true) ∧ ∀ (m : Nat) (z : D), m < j → xs[m]? = some z → PyData.eqv z e = false
  | [], j, h => by cases h
  | x :: xs, j, h => by
    unfold idxOfD at h
    split at h
    · rename_i hx
      cases h
      exact ⟨⟨x, rfl, hx⟩, fun m z hm => by omega⟩
    · rename_i hx
      obtain ⟨k, h1, rfl⟩ := Option.map_eq_some_iff.mp h
      obtain ⟨⟨z, h2, h3⟩, h4⟩ := idxOfD_at h1
      refine ⟨⟨z, by simpa using h2, h3⟩, fun m z hm hz => ?_⟩
      cases m with
      | zero =>
        simp at hz
        subst hz
        simpa using hx
      | succ m => exact h4 m z (by omega) (by simpa using hz)
theorem ok_index (o : On K F H fr d Q) (h : VwA K F H vs ds) (p : pIndex ds = some d) : rd K .index vs H Q := by
  unfold pIndex at p
  split at p
  · obtain ⟨x, y, rfl, h1, h2⟩ := h.two
    split at p
    · rename_i hz
      rw [Bool.and_eq_true] at hz
      obtain ⟨j, h3, h4⟩ := Option.map_eq_some_iff.mp p
      obtain ⟨⟨z, h5, h6⟩, h7⟩ := idxOfD_at h3
      obtain ⟨a, us, rfl, _⟩ := h1.list o.e
      exact ⟨a, y, _, _, j, z, rfl, rfl, h1.dp o.e (SeqAt.canLay_of_shaped hz.1), h2.dp o.e (SeqAt.canLay_of_shaped hz.2), hz.1, hz.2, h5, h6, h7, o.i (by rw [← h4])⟩
    · cases p
  · cases p
theorem intsD_rp : ∀ {ds : List D} {us : List V} {ns : List Int}, RpA K F us ds → intsD ds = some ns → us = ns.map V.int
  | [], us, ns, h, e => by
    cases e
    cases h
    rfl
  | d :: ds, us, ns, h, e => by
    cases h with
    | cons h1 h2 =>
      cases d with
      | int i =>
        simp only [intsD, Option.map_eq_some_iff] at e
        obtain ⟨ms, e1, e2⟩ := e
        subst e2
        cases h1
        rw [intsD_rp h2 e1]
        rfl
      | _ => simp [intsD] at e
theorem ok_tindex (o : On K F H fr d Q) (h : VwA K F H vs ds) (p : pTIndex ds = some d) : rd K .tindex vs H Q := by
  unfold pTIndex at p
  split at p
  · obtain ⟨x, y, rfl, h1, h2⟩ := h.two
    cases h2.int
    split at p
    · rename_i ns hn
      split at p
      · rename_i hk
        obtain ⟨a, us, rfl, h3, h4, h5⟩ := h1.tup
        have := intsD_rp h5 hn
        subst this
        exact ⟨a, ns, _, rfl, rfl, ex_t o.e h3.1, hk, o.i p⟩
      · cases p
    · cases p
  · cases p
theorem ok_len (o : On K F H fr d Q) (h : VwA K F H vs ds) (p : pLen ds = some d) : rd K .len vs H Q := by
  unfold pLen at p
  split at p
  · obtain ⟨x, rfl, h1⟩ := h.one
    obtain ⟨a, ns, rfl, rfl, h3⟩ := h1.scr
    exact ⟨_, (ns.map V.int).length, rfl, Or.inl ⟨_, ex_l o.e h3, rfl⟩, by rw [List.length_map, ← List.length_map (f := PyData.int)]; exact o.i p⟩
  · obtain ⟨x, rfl, h1⟩ := h.one
    obtain ⟨a, us, rfl, h3, h4, h5⟩ := h1.list o.e
    exact ⟨_, us.length, rfl, Or.inl ⟨us, SqL.of h3, rfl⟩, by rw [h5.length]; exact o.i p⟩
  · obtain ⟨x, rfl, h1⟩ := h.one
    obtain ⟨a, us, rfl, h3, h4, h5⟩ := h1.tup
    exact ⟨_, us.length, rfl, Or.inr ⟨us, ex_t o.e h3.1, rfl⟩, by rw [h5.length]; exact o.i p⟩
  · obtain ⟨x, rfl, h1⟩ := h.one
    cases h1.str
    split at p
    · rename_i hz
      exact ⟨_, _, rfl, ⟨hz, rfl⟩, o.i p⟩
    · cases p
  · cases p
theorem ok_tuple (o : On K F H fr d Q) (h : VwA K F H vs ds) (p : pTuple ds = some d) : rd K .tuple vs H Q := by
  unfold pTuple at p
  split at p
  · obtain ⟨x, rfl, h1⟩ := h.one
    obtain ⟨a, us, rfl, h3, h4, h5⟩ := h1.list o.e
    exact ⟨a, us, rfl, Or.inl ⟨SqL.of h3, fun q hq => o.t _ _ _ (Option.some.inj p).symm hq h4 h5⟩⟩
  · obtain ⟨x, rfl, h1⟩ := h.one
    obtain ⟨a, us, rfl, h3, h4, h5⟩ := h1.tup
    cases p
    exact ⟨a, us, rfl, Or.inr ⟨ex_t o.e h3.1, o.s _ (fun ds w => by cases w) (.tup h3 h4 h5)⟩⟩
  · cases p
theorem rpd_keys : ∀ {kvs : List (Key × V)} {es : List (D × D)} {ks : List D}, RpD K F kvs es → keysD es = some ks → RpA K F (kvs.map fun kv => kV kv.1) ks ∧ kvs.length = ks.length
  | _, _, ks, .nil, e => by
    cases e
    exact ⟨.nil, rfl⟩
  | _, _, ks, .cons (i := i) r h, e => by
    simp only [keysD, Option.map_eq_some_iff] at e
    obtain ⟨ks', e1, rfl⟩ := e
    obtain ⟨a, b⟩ := rpd_keys h e1
    exact ⟨.cons (.int i) a, by simp [b]⟩
theorem keysD_len : ∀ {es : List (D × D)} {ks : List D}, keysD es = some ks → ks.length = es.length
  | [], ks, e => by cases e; rfl
  | (.int i, _) :: es, ks, e => by
    simp only [keysD, Option.map_eq_some_iff] at e
    obtain ⟨ks', e1, rfl⟩ := e
    simp [keysD_len e1]
  | (.none, _) :: _, ks, e => by simp [keysD] at e
  | (.bool _, _) :: _, ks, e => by simp [keysD] at e
  | (.str _, _) :: _, ks, e => by simp [keysD] at e
  | (.list _, _) :: _, ks, e => by simp [keysD] at e
  | (.tuple _, _) :: _, ks, e => by simp [keysD] at e
  | (.dict _, _) :: _, ks, e => by simp [keysD] at e
theorem ok_list (o : On K F H true d Q) (h : VwA K F H vs ds) (p : pList ds = some d) : rd K .list vs H Q := by
  unfold pList at p
  split at p
  · obtain ⟨x, rfl, h1⟩ := h.one
    obtain ⟨a, us, rfl, h3, h4, h5⟩ := h1.list o.e
    exact .inl ⟨a, us, rfl, Or.inl (SqL.of h3), fun q hq => o.l _ _ _ rfl (Option.some.inj p).symm hq h4 h5⟩
  · obtain ⟨x, rfl, h1⟩ := h.one
    obtain ⟨a, us, rfl, h3, h4, h5⟩ := h1.tup
    exact .inl ⟨a, us, rfl, Or.inr (ex_t o.e h3.1), fun q hq => o.l _ _ _ rfl (Option.some.inj p).symm hq h4 h5⟩
  · obtain ⟨x, rfl, h1⟩ := h.one
    split at p
    · rename_i hz
      obtain ⟨ks, e1, e2⟩ := Option.map_eq_some_iff.mp p
      have key : ∀ {a : Addr} {kvs : List (Key × V)} {es : List (D × D)} {ks : List D}, H a = some (.dK kvs) → RpD K F kvs es → keysD es = some ks → ks.length ≤ sizeLine → d = .list ks → rd K .list [.ref a] H Q := fun {a kvs es ks} ha r e z ed => by
        obtain ⟨r1, r2⟩ := rpd_keys r e
        exact .inr ⟨a, kvs, rfl, .inl ha, fun q hq => o.l _ _ _ rfl ed hq (by rw [List.length_map, r2]; exact z) r1⟩
      have zl : ks.length ≤ sizeLine := by rw [keysD_len e1]; exact hz
      cases h1 with
      | imm h1 =>
        cases h1 with
        | dk k1 k2 => exact key (o.e _ _ k1) k2 e1 zl e2.symm
        | dt k1 k2 => simp [keysD, markD] at e1
        | scr ns k1 => simp [keysD] at e1
      | own k1 k2 =>
        cases k2 with
        | dk k2 => exact key k1 k2 e1 zl e2.symm
        | dt k2 => simp [keysD, markD] at e1
    · cases p
  · cases p
theorem ok_all (o : On K F H fr d Q) (h : VwA K F H vs ds) (p : pAll ds = some d) : rd K .allB vs H Q := by
  unfold pAll at p
  split at p
  · obtain ⟨x, rfl, h1⟩ := h.one
    obtain ⟨a, us, rfl, h3, h4, h5⟩ := h1.list o.e
    obtain ⟨bs, e1, e2⟩ := Option.map_eq_some_iff.mp p
    have e3 := boolsD_map h5 e1
    exact ⟨a, bs, rfl, by rw [← e3]; exact SqL.of h3, o.b (by rw [e2])⟩
  · cases p
theorem ok_any (o : On K F H fr d Q) (h : VwA K F H vs ds) (p : pAny ds = some d) : rd K .anyB vs H Q := by
  unfold pAny at p
  split at p
  · obtain ⟨x, rfl, h1⟩ := h.one
    obtain ⟨a, us, rfl, h3, h4, h5⟩ := h1.list o.e
    obtain ⟨bs, e1, e2⟩ := Option.map_eq_some_iff.mp p
    have e3 := boolsD_map h5 e1
    exact ⟨a, bs, rfl, by rw [← e3]; exact SqL.of h3, o.b (by rw [e2])⟩
  · cases p
theorem ok_min2 (o : On K F H fr d Q) (h : VwA K F H vs ds) (p : pMin2 ds = some d) : rd K .min2 vs H Q := by
  unfold pMin2 at p
  split at p
  · obtain ⟨x, y, rfl, h1, h2⟩ := h.two
    cases h1.int
    cases h2.int
    exact ⟨_, _, rfl, o.i p⟩
  · cases p
theorem ok_max2 (o : On K F H fr d Q) (h : VwA K F H vs ds) (p : pMax2 ds = some d) : rd K .max2 vs H Q := by
  unfold pMax2 at p
  split at p
  · obtain ⟨x, y, rfl, h1, h2⟩ := h.two
    cases h1.int
    cases h2.int
    exact ⟨_, _, rfl, o.i p⟩
  · cases p
theorem ok_int (o : On K F H fr d Q) (h : VwA K F H vs ds) (p : pInt ds = some d) : rd K .intOf vs H Q := by
  unfold pInt at p
  split at p
  · obtain ⟨x, rfl, h1⟩ := h.one
    cases h1.int
    exact Or.inl ⟨_, rfl, o.i p⟩
  · obtain ⟨x, rfl, h1⟩ := h.one
    cases h1.bool
    exact Or.inr ⟨_, rfl, o.i p⟩
  · cases p
theorem ok_abs (o : On K F H fr d Q) (h : VwA K F H vs ds) (p : pAbs ds = some d) : rd K .absI vs H Q := by
  unfold pAbs at p
  split at p
  · obtain ⟨x, rfl, h1⟩ := h.one
    cases h1.int
    exact ⟨_, rfl, o.i p⟩
  · cases p
def isOp : Op → Bool
  | .isInt | .isBool | .isTup | .isStr | .isList => true
  | _ => false
theorem isA_kit {k : Op} {d : D} {b : Bool} (hk : isOp k = true) (h : isA k d = some b) : kitB (tyD d) (opTy k) = some b := by
  cases k <;> first | (cases hk; done) | skip
  all_goals (cases d <;> first | (cases h; done) | (cases h; dsimp only [tyD, opTy]; decide +kernel))
theorem ok_isA {k : Op} (hk : isOp k = true) (o : On K F H fr d Q) (h : VwA K F H vs ds) (p : pIsA k ds = some d) : ∃ x, vs = [x] ∧ rIsi K [x, .ty (opTy k)] H Q := by
  unfold pIsA at p
  split at p
  · obtain ⟨x, rfl, h1⟩ := h.one
    obtain ⟨b, e1, e2⟩ := Option.map_eq_some_iff.mp p
    rename_i a
    have hd : ∀ kvs, a ≠ .dict kvs := fun kvs z => by
      subst z
      cases k <;> cases e1
    refine ⟨_, rfl, x, .ty (opTy k), .type (tyD a), .type (opTy k), b, rfl, .ty _, ?_, kit_ty (isA_kit hk e1), o.b (by rw [e2])⟩
    obtain ⟨n, h2, h3⟩ := tyx o.e h1 hd
    rw [h3] at h2
    exact h2
  · cases p
/-- THE LAW of the primitives -/
theorem srt_split {ds : List D} {d : D} (p : (if srtOk ds then some (PyData.list (srtD ds)) else if srtOk3 ds then some (.list (srtD ds)) else none) = some d) : (srtOk ds = true ∨ srtOk3 ds = true) ∧ .list (srtD ds) = d := by
  split at p
  · exact ⟨.inl ‹_›, Option.some.inj p⟩
  · split at p
    · exact ⟨.inr ‹_›, Option.some.inj p⟩
    · cases p
theorem ok_srt (o : On K F H true d Q) (h : VwA K F H vs ds) (p : pSrt ds = some d) : rd K .srt vs H Q := by
  unfold pSrt at p
  split at p
  · obtain ⟨x, rfl, h1⟩ := h.one
    obtain ⟨a, us, rfl, h3, h4, h5⟩ := h1.list o.e
    obtain ⟨hok, p⟩ := srt_split p
    exact ⟨a, us, F, _, rfl, .inl (SqL.of h3), o.e, h5, hok, fun ys q k1 k2 hq => o.l q ys _ rfl p.symm hq (by rw [k2]; exact h4) k1⟩
  · obtain ⟨x, rfl, h1⟩ := h.one
    obtain ⟨a, us, rfl, h3, h4, h5⟩ := h1.tup
    obtain ⟨hok, p⟩ := srt_split p
    exact ⟨a, us, F, _, rfl, .inr (ex_t o.e h3.1), o.e, h5, hok, fun ys q k1 k2 hq => o.l q ys _ rfl p.symm hq (by rw [k2]; exact h4) k1⟩
  · cases p
theorem ok_mm {pick : D → List D → D} (o : On K F H false d Q) (h : VwA K F H vs ds) (p : pMM pick ds = some d) : rMinD K pick vs H Q := by
  unfold pMM at p
  split at p
  · obtain ⟨x, rfl, h1⟩ := h.one
    obtain ⟨a, us, rfl, h3, h4, h5⟩ := h1.list o.e
    split at p
    · rename_i hok
      cases p
      exact ⟨a, us, F, _, _, rfl, .inl (SqL.of h3), o.e, h5, hok, fun v r => o.r v rfl r⟩
    · cases p
  · obtain ⟨x, rfl, h1⟩ := h.one
    obtain ⟨a, us, rfl, h3, h4, h5⟩ := h1.tup
    split at p
    · rename_i hok
      cases p
      exact ⟨a, us, F, _, _, rfl, .inr (ex_t o.e h3.1), o.e, h5, hok, fun v r => o.r v rfl r⟩
    · cases p
  · cases p
theorem rg_rp (i j : Int) : RpA K F (rgV i j) (rgD i j) := by
  unfold rgV rgD
  generalize List.range (j - i).toNat = l
  induction l with
  | nil => exact .nil
  | cons x xs ih => exact .cons (.int _) ih
theorem rg_ok {i j : Int} (h : -1000000 ≤ i ∧ i ≤ 1000000 ∧ -1000000 ≤ j ∧ j ≤ 1000000) : RgOk i j := ⟨by omega, by omega, by omega, by omega, by omega⟩
theorem ok_rg {i j : Int} (o : On K F H true d Q) (h : -1000000 ≤ i ∧ i ≤ 1000000 ∧ -1000000 ≤ j ∧ j ≤ 1000000) (e : .list (rgD i j) = d) : rLrg (.int i) (.int j) H Q :=
  ⟨i, j, rfl, rfl, rg_ok h, fun q hq => o.l q _ _ rfl e.symm hq (by rw [rgV_length, sizeLine_eq]; omega) (rg_rp i j)⟩
theorem ok_lrg (o : On K F H true d Q) (h : VwA K F H vs ds) (p : pLrg ds = some d) : rd K .lrg vs H Q := by
  unfold pLrg at p
  split at p
  · obtain ⟨x, rfl, h1⟩ := h.one
    cases h1.int
    split at p
    · rename_i hb
      exact ok_rg o ⟨by omega, by omega, hb.1, hb.2⟩ (Option.some.inj p)
    · cases p
  · cases p
theorem ok_trg (o : On K F H fr d Q) (h : VwA K F H vs ds) (p : pTrg ds = some d) : rd K .trg vs H Q := by
  unfold pTrg at p
  split at p
  · obtain ⟨x, rfl, h1⟩ := h.one
    cases h1.int
    split at p
    · rename_i hb
      refine ⟨0, _, rfl, rfl, rg_ok ⟨by omega, by omega, hb.1, hb.2⟩, fun q hq => o.t _ _ _ (Option.some.inj p).symm hq ?_ (rg_rp _ _)⟩
      rw [rgV_length, sizeLine_eq]
      omega
    · cases p
  · cases p
theorem ok_lrg2 (o : On K F H true d Q) (h : VwA K F H vs ds) (p : pLrg2 ds = some d) : rd K .lrg2 vs H Q := by
  unfold pLrg2 at p
  split at p
  · obtain ⟨x, y, rfl, h1, h2⟩ := h.two
    cases h1.int
    cases h2.int
    split at p
    · rename_i hb
      exact ok_rg o hb (Option.some.inj p)
    · cases p
  · cases p
theorem pairs_of : ∀ {us : List V} {es : List D} {ps : List (Int × Int)}, RpA K F us es → pairsD es = some ps → ∃ ks : List (Addr × Int × Int), us = ks.map (fun p => V.ref p.1) ∧ ks.map (·.2) = ps ∧ ∀ p ∈ ks, SqU K F p.1 [.int p.2.1, .int p.2.2] ∧ (0 ≤ p.2.1 ∧ p.2.1 < 64) ∧ 0 ≤ p.2.2 ∧ p.2.2 < 64 := by
  intro us es
  induction es generalizing us with
  | nil =>
    intro ps h e
    cases h
    simp only [pairsD] at e
    cases e
    exact ⟨[], rfl, rfl, fun p z => by cases z⟩
  | cons d es ih =>
    intro ps h e
    unfold pairsD at e
    split at e
    · rename_i z; cases z
    · rename_i i j r z
      injection z with z1 z2
      subst z1 z2
      split at e
      · rename_i hb
        obtain ⟨qs, e1, rfl⟩ := Option.map_eq_some_iff.mp e
        cases h with
        | cons h1 h2 =>
          obtain ⟨ks, rfl, k2, k3⟩ := ih h2 e1
          cases h1 with
          | tup t1 t2 t3 =>
            cases t3 with
            | cons u1 u2 =>
              cases u2 with
              | cons u3 u4 =>
                cases u4
                cases u1
                cases u3
                rename_i a
                refine ⟨(a, i, j) :: ks, rfl, by rw [← k2]; rfl, fun p hp => ?_⟩
                rcases List.mem_cons.mp hp with rfl | hp
                · exact ⟨t1, ⟨hb.1, hb.2.1⟩, hb.2.2⟩
                · exact k3 p hp
      · cases e
    · cases e
theorem pairs_rp : ∀ {L : List (Addr × Int × Int)}, (∀ p ∈ L, SqU K F p.1 [.int p.2.1, .int p.2.2]) → RpA K F (L.map fun q => V.ref q.1) ((L.map (·.2)).map pairD)
  | [], _ => .nil
  | p :: L, h => .cons (.tup (h p List.mem_cons_self) (by show 2 ≤ sizeLine; rw [sizeLine_eq]; omega) (.cons (.int _) (.cons (.int _) .nil))) (pairs_rp fun q hq => h q (List.mem_cons_of_mem _ hq))
theorem ok_srtSet {M : Addr → Prop} (e : Ex F H) (h : VwA K F H vs ds) (p : pSrtSet ds = some d)
    (q : ∀ v F' H', Stp M F H F' H' → Res K true H F' H' v d → Q v H') : rd K .srtSet vs H Q := by
  unfold pSrtSet at p
  split at p
  · obtain ⟨x, rfl, h1⟩ := h.one
    obtain ⟨a, us, rfl, h3, h4, h5⟩ := h1.tup
    split at p
    · rename_i ps hps
      have hp : (ps.length < 64 ∨ (nubP ps).length < 63) ∧ d = .list ((srtP ps).map pairD) := by
        split at p
        · exact ⟨.inl ‹_›, by cases p; rfl⟩
        · split at p
          · exact ⟨.inr ‹_›, by cases p; rfl⟩
          · cases p
      obtain ⟨hl, rfl⟩ := hp
      · obtain ⟨ks, rfl, k2, k3⟩ := pairs_of h5 hps
        refine ⟨a, ks, rfl, ex_t e h3.1, fun z hz => ex_t e (k3 z hz).1.1, by rw [← k2, List.length_map] at hl; exact hl, fun z hz => (k3 z hz).2, fun L b o r hL hs hb hr => ?_⟩
        have hrb : r ≠ b := fun z => by
          rw [z, upd_same] at hr
          cases hr
        have hr' : H r = none := by rwa [upd_ne hrb] at hr
        refine q _ F _ ((Stp.lay e hb).trans (Stp.lay (e.trans (Ex.new hb)) hr)) ?_
        refine ⟨r, L.map (fun q => V.ref q.1), _, rfl, rfl, hr', ?_, upd_same, ?_, ?_⟩
        · cases z : F r with
          | none => rfl
          | some u =>
            rw [e _ _ z] at hr'
            cases hr'
        · rw [List.length_map]
          have : L.length = (srtP ps).length := by rw [← k2, ← hs, List.length_map]
          rw [this]
          have e3 : (srtP ps).length ≤ 64 := by
            rw [(srtP_perm ps).length_eq]
            have := nubP_le ps
            omega
          have : (64 : Nat) ≤ sizeLine := by rw [sizeLine_eq]; omega
          omega
        · rw [← k2, ← hs]
          exact pairs_rp fun z hz => (k3 z (hL z hz)).1
    · cases p
  · cases p
theorem RpA.rev : ∀ {us : List V} {es : List D}, RpA K F us es → RpA K F us.reverse es.reverse
  | _, [], h => by cases h; exact .nil
  | _, d :: es, h => by
    cases h with
    | cons h1 h2 =>
      rw [List.reverse_cons, List.reverse_cons]
      exact h2.rev.append (.cons h1 .nil)
theorem ok_rev (o : On K F H true d Q) (h : VwA K F H vs ds) (p : pRev ds = some d) : rd K .rev vs H Q := by
  unfold pRev at p
  split at p
  · obtain ⟨x, rfl, h1⟩ := h.one
    obtain ⟨a, us, rfl, h3, h4, h5⟩ := h1.list o.e
    exact ⟨a, us, rfl, .inl ⟨SqL.of h3, fun q hq => o.l q _ _ rfl (Option.some.inj p).symm hq (by rw [List.length_reverse]; exact h4) h5.rev⟩⟩
  · obtain ⟨x, rfl, h1⟩ := h.one
    obtain ⟨a, us, rfl, h3, h4, h5⟩ := h1.tup
    exact ⟨a, us, rfl, .inr ⟨ex_t o.e h3.1, fun q hq => o.t q _ _ (Option.some.inj p).symm hq (by rw [List.length_reverse]; exact h4) h5.rev⟩⟩
  · cases p
theorem intsD_map : ∀ {us : List V} {es : List D} {ns : List Int}, RpA K F us es → intsD es = some ns → us = ns.map V.int ∧ es = ns.map .int
  | _, [], ns, h, e => by
    cases h
    cases e
    exact ⟨rfl, rfl⟩
  | _, .int i :: es, ns, h, e => by
    cases h with
    | cons h1 h2 =>
      cases h1
      simp only [intsD, Option.map_eq_some_iff] at e
      obtain ⟨ms, e1, e2⟩ := e
      subst e2
      obtain ⟨k1, k2⟩ := intsD_map h2 e1
      exact ⟨by rw [k1]; rfl, by rw [k2]; rfl⟩
  | _, .none :: r, bs, h, e => by simp [intsD] at e
  | _, .bool _ :: r, bs, h, e => by simp [intsD] at e
  | _, .str _ :: r, bs, h, e => by simp [intsD] at e
  | _, .list _ :: r, bs, h, e => by simp [intsD] at e
  | _, .tuple _ :: r, bs, h, e => by simp [intsD] at e
  | _, .dict _ :: r, bs, h, e => by simp [intsD] at e
theorem ok_lenSet (o : On K F H fr d Q) (h : VwA K F H vs ds) (p : pLenSet ds = some d) : rd K .lenSet vs H Q := by
  unfold pLenSet at p
  split at p
  · obtain ⟨x, rfl, h1⟩ := h.one
    obtain ⟨a, us, rfl, h3, h4, h5⟩ := h1.list o.e
    split at p
    · rename_i ns hns
      split at p
      · rename_i hl
        obtain ⟨rfl, _⟩ := intsD_map h5 hns
        exact ⟨a, ns, rfl, SqL.of h3, hl, o.i p⟩
      · cases p
    · cases p
  · cases p
theorem ok_lenSetP {M : Addr → Prop} (e : Ex F H) (h : VwA K F H vs ds) (p : pLenSetP ds = some d)
    (q : ∀ v F' H', Stp M F H F' H' → Res K fr H F' H' v d → Q v H') : rd K .lenSetP vs H Q := by
  unfold pLenSetP at p
  split at p
  · obtain ⟨x, rfl, h1⟩ := h.one
    obtain ⟨a, us, rfl, h3, h4, h5⟩ := h1.list e
    split at p
    · rename_i ps hps
      split at p
      · rename_i hl
        cases p
        obtain ⟨ks, rfl, k2, k3⟩ := pairs_of h5 hps
        refine ⟨a, ks, rfl, SqL.of h3, fun z hz => ex_t e (k3 z hz).1.1, by rw [← k2, List.length_map] at hl; exact hl, fun b o hb => ?_⟩
        rw [k2]
        exact q _ F _ (Stp.lay e hb) (res_rp (fun ds w => by cases w) (.int _))
      · cases p
    · cases p
  · cases p
theorem rd_ok {M : Addr → Prop} {k : Op} (e : Ex F H) (h : VwA K F H vs ds) (p : prim k ds = some d)
    (q : ∀ v F' H', Stp M F H F' H' → Res K (freshOp k) H F' H' v d → Q v H') : rd K k vs H Q := by
  have o := on_of e q
  cases k
  case add => exact ok_add o h p
  case sub => exact ok_sub o h p
  case mul => exact ok_mul o h p
  case mod => exact ok_mod o h p
  case fdiv => exact ok_fdiv o h p
  case pow => exact ok_pow o h p
  case neg => exact ok_neg o h p
  case eq => exact ok_eq o h p
  case ne => exact ok_ne o h p
  case lt => exact ok_lt o h p
  case le => obtain ⟨x, y, rfl, r⟩ := ok_cmp o h p; exact r
  case gt => obtain ⟨x, y, rfl, r⟩ := ok_cmp o h p; exact r
  case ge => obtain ⟨x, y, rfl, r⟩ := ok_cmp o h p; exact r
  case isN => exact ok_isN o h p
  case notN => exact ok_notN o h p
  case inn => exact ok_in o h p
  case nin => exact ok_nin o h p
  case idx => exact ok_idx o h p
  case slT => exact ok_slT o h p
  case slH => exact ok_slH o h p
  case slB => exact ok_slB o h p
  case index => exact ok_index o h p
  case tindex => exact ok_tindex o h p
  case len => exact ok_len o h p
  case tuple => exact ok_tuple o h p
  case list => exact ok_list o h p
  case allB => exact ok_all o h p
  case anyB => exact ok_any o h p
  case min2 => exact ok_min2 o h p
  case max2 => exact ok_max2 o h p
  case intOf => exact ok_int o h p
  case absI => exact ok_abs o h p
  case srt => exact ok_srt o h p
  case srtSet => exact ok_srtSet e h p q
  case minL => exact ok_mm o h p
  case maxL => exact ok_mm o h p
  case lrg => exact ok_lrg o h p
  case lrg2 => exact ok_lrg2 o h p
  case trg => exact ok_trg o h p
  case rev => exact ok_rev o h p
  case lenSet => exact ok_lenSet o h p
  case lenSetP => exact ok_lenSetP e h p q
  case isInt => obtain ⟨x, rfl, r⟩ := ok_isA rfl o h p; exact r
  case isBool => obtain ⟨x, rfl, r⟩ := ok_isA rfl o h p; exact r
  case isTup => obtain ⟨x, rfl, r⟩ := ok_isA rfl o h p; exact r
  case isStr => obtain ⟨x, rfl, r⟩ := ok_isA rfl o h p; exact r
  case isList => obtain ⟨x, rfl, r⟩ := ok_isA rfl o h p; exact r
  all_goals (cases p)
end
end Nv


set_option Elab.async false
set_option linter.all false
set_option maxRecDepth 100000
/-! NvD: dicts. -/
namespace Nv
open PySem L2

theorem intsD_id : ∀ ns : List Int, intsD (ns.map .int) = some ns
  | [] => rfl
  | n :: ns => by
    show (intsD (ns.map .int)).map (n :: ·) = _
    rw [intsD_id ns]
    rfl
theorem intsD_eq : ∀ {es : List D} {ns : List Int}, intsD es = some ns → es = ns.map .int
  | [], ns, e => by
    cases e
    rfl
  | .int i :: es, ns, e => by
    simp only [intsD, Option.map_eq_some_iff] at e
    obtain ⟨ms, e1, e2⟩ := e
    subst e2
    rw [intsD_eq e1]
    rfl
  | .none :: r, bs, e => by simp [intsD] at e
  | .bool _ :: r, bs, e => by simp [intsD] at e
  | .str _ :: r, bs, e => by simp [intsD] at e
  | .list _ :: r, bs, e => by simp [intsD] at e
  | .tuple _ :: r, bs, e => by simp [intsD] at e
  | .dict _ :: r, bs, e => by simp [intsD] at e
theorem keyOf_tup (ns : List Int) : keyOf (.tuple (ns.map .int)) = some (.inr ns) := by
  show (intsD (ns.map .int)).map Sum.inr = _
  rw [intsD_id]
  rfl
theorem map_inl_inj : ∀ {a b : List Int}, a.map (Sum.inl : Int → Key) = b.map Sum.inl → a = b
  | [], [], _ => rfl
  | x :: a, y :: b, h => by
    simp only [List.map_cons, List.cons.injEq, Sum.inl.injEq] at h
    rw [h.1, map_inl_inj h.2]
  | [], _ :: _, h => by cases h
  | _ :: _, [], h => by cases h
/-- one answers just if the other does -/
def OptR (R : V → D → Prop) : Option V → Option D → Prop
  | some v, some d => R v d
  | none, none => True
  | _, _ => False
section
variable {K : PySem.W.Frag} {F H : Hp}
theorem rpd_val (i : Int) : ∀ {kvs : List (Key × V)} {es : List (D × D)}, RpD K F kvs es → OptR (Rp K F) (valV kvs (.inl i)) (valD (.inl i) es)
  | _, _, .nil => trivial
  | _, _, .cons (i := j) r h => by
    by_cases e : j = i
    · subst e
      rw [valV_pos rfl]
      unfold valD
      rw [if_pos (show keyOf (.int j) = some (.inl j) from rfl)]
      exact r
    · rw [valV_neg (fun z => e (by simpa using z))]
      unfold valD
      rw [if_neg (fun z => e (by simpa [keyOf] using z))]
      exact rpd_val i h
theorem rpt_val (ns : List Int) : ∀ {kvs : List (List Key × V)} {es : List (D × D)}, RpT K F kvs es → OptR (Rp K F) (valV kvs (ns.map Sum.inl)) (valD (.inr ns) es)
  | _, _, .nil => trivial
  | _, _, .cons (ks := ks) r h => by
    by_cases e : ks = ns
    · subst e
      rw [valV_pos rfl]
      unfold valD
      rw [if_pos (keyOf_tup _)]
      exact r
    · rw [valV_neg (fun z => e (map_inl_inj z))]
      unfold valD
      rw [if_neg (fun z => e (by rw [keyOf_tup] at z; simpa using z))]
      exact rpt_val ns h
theorem rpd_len : ∀ {kvs : List (Key × V)} {es : List (D × D)}, RpD K F kvs es → kvs.length = es.length
  | _, _, .nil => rfl
  | _, _, .cons _ h => congrArg (· + 1) (rpd_len h)
theorem rpt_len : ∀ {kvs : List (List Key × V)} {es : List (D × D)}, RpT K F kvs es → kvs.length = es.length
  | _, _, .nil => rfl
  | _, _, .cons _ h => congrArg (· + 1) (rpt_len h)
theorem rpd_any (i : Int) : ∀ {kvs : List (Key × V)} {es : List (D × D)}, RpD K F kvs es → (kvs.any fun kv => decide (kv.1 = .inl i)) = es.any (fun p => decide (keyOf p.1 = keyOf (.int i)))
  | _, _, .nil => rfl
  | _, _, .cons (i := j) r h => by
    rw [List.any_cons, List.any_cons, rpd_any i h]
    congr 1
    simp [keyOf]
theorem rpt_any (ns : List Int) : ∀ {kvs : List (List Key × V)} {es : List (D × D)}, RpT K F kvs es → (kvs.any fun kv => decide (kv.1 = ns.map Sum.inl)) = es.any (fun p => decide (keyOf p.1 = keyOf (.tuple (ns.map .int))))
  | _, _, .nil => rfl
  | _, _, .cons (ks := ks) r h => by
    rw [List.any_cons, List.any_cons, rpt_any ns h]
    congr 1
    rw [keyOf_tup, keyOf_tup]
    simp only [Option.some.injEq, Sum.inr.injEq, decide_eq_decide]
    exact ⟨map_inl_inj, fun z => by rw [z]⟩
theorem rpd_repl (i : Int) {v : V} {d : D} (rv : Rp K F v d) : ∀ {kvs : List (Key × V)} {es : List (D × D)}, RpD K F kvs es → RpD K F (kvs.map fun kv => if kv.1 = .inl i then (kv.1, v) else kv) (es.map fun p => if keyOf p.1 = keyOf (.int i) then (p.1, d) else p)
  | _, _, .nil => .nil
  | _, _, .cons (i := j) r h => by
    rw [List.map_cons, List.map_cons]
    by_cases e : j = i
    · subst e
      rw [if_pos rfl, if_pos rfl]
      exact .cons rv (rpd_repl _ rv h)
    · rw [if_neg (fun z => e (by simpa using z)), if_neg (fun z => e (by simpa [keyOf] using z))]
      exact .cons r (rpd_repl i rv h)
theorem rpt_repl (ns : List Int) {v : V} {d : D} (rv : Rp K F v d) : ∀ {kvs : List (List Key × V)} {es : List (D × D)}, RpT K F kvs es → RpT K F (kvs.map fun kv => if kv.1 = ns.map Sum.inl then (kv.1, v) else kv) (es.map fun p => if keyOf p.1 = keyOf (.tuple (ns.map .int)) then (p.1, d) else p)
  | _, _, .nil => .nil
  | _, _, .cons (ks := ks) r h => by
    rw [List.map_cons, List.map_cons]
    by_cases e : ks = ns
    · subst e
      rw [if_pos rfl, if_pos rfl]
      exact .cons rv (rpt_repl _ rv h)
    · rw [if_neg (fun z => e (map_inl_inj z)), if_neg (fun z => e (by rw [keyOf_tup, keyOf_tup] at z; simpa using z))]
      exact .cons r (rpt_repl ns rv h)
theorem rpd_app {v : V} {d : D} (i : Int) (rv : Rp K F v d) : ∀ {kvs : List (Key × V)} {es : List (D × D)}, RpD K F kvs es → RpD K F (kvs ++ [(.inl i, v)]) (es ++ [(.int i, d)])
  | _, _, .nil => .cons rv .nil
  | _, _, .cons r h => .cons r (rpd_app i rv h)
theorem rpt_app {v : V} {d : D} (ns : List Int) (rv : Rp K F v d) : ∀ {kvs : List (List Key × V)} {es : List (D × D)}, RpT K F kvs es → RpT K F (kvs ++ [(ns.map Sum.inl, v)]) (es ++ [(.tuple (ns.map .int), d)])
  | _, _, .nil => .cons rv .nil
  | _, _, .cons r h => .cons r (rpt_app ns rv h)
theorem rpd_put {kvs : List (Key × V)} {es : List (D × D)} (i : Int) {v : V} {d : D} (h : RpD K F kvs es) (rv : Rp K F v d) : RpD K F (putK kvs (.inl i) v) (putD (.int i) d es) := by
  unfold putK putD
  rw [rpd_any i h]
  split
  · exact rpd_repl i rv h
  · exact rpd_app i rv h
theorem rpt_put {kvs : List (List Key × V)} {es : List (D × D)} (ns : List Int) {v : V} {d : D} (h : RpT K F kvs es) (rv : Rp K F v d) : RpT K F (putK kvs (ns.map Sum.inl) v) (putD (.tuple (ns.map .int)) d es) := by
  unfold putK putD
  rw [rpt_any ns h]
  split
  · exact rpt_repl ns rv h
  · exact rpt_app ns rv h
/-! ### what stands at a dict's address -/
inductive DicO (K : PySem.W.Frag) (F : Hp) : HO → Bool → List (D × D) → Prop
  | dk {kvs es} : RpD K F kvs es → DicO K F (.dK kvs) false es
  | dt {kvs es} : RpT K F kvs es → DicO K F (.dT kvs) true es
theorem dictOf_dk {kvs : List (Key × V)} {es : List (D × D)} (h : RpD K F kvs es) {p : Bool × List (D × D)} (e : dictOf (.dict es) = some p) : p = (false, es) := by
  cases h with
  | nil => cases e; rfl
  | cons r h => cases e; rfl
theorem vw_dict {v : V} {d : D} {p : Bool × List (D × D)} (ex : Ex F H) (h : Vw K F H v d) (e : dictOf d = some p) : ∃ a o, v = .ref a ∧ H a = some o ∧ DicO K F o p.1 p.2 := by
  cases h with
  | imm h =>
    cases h with
    | dk h1 h2 => rw [dictOf_dk h2 e]; exact ⟨_, _, rfl, ex _ _ h1, .dk h2⟩
    | dt h1 h2 => cases e; exact ⟨_, _, rfl, ex _ _ h1, .dt h2⟩
    | scr ns h1 => cases e
    | _ => cases e
  | own h1 h2 =>
    cases h2 with
    | dk h2 => rw [dictOf_dk h2 e]; exact ⟨_, _, rfl, h1, .dk h2⟩
    | dt h2 => cases e; exact ⟨_, _, rfl, h1, .dt h2⟩
    | _ => cases e
theorem key_at {t : Bool} {k : D} {q : Sum Int (List Int)} {y : V} (ex : Ex F H) (h : Rp K F y k) (e : keyOk t k = some q) :
    (∃ i, t = false ∧ k = .int i ∧ q = .inl i ∧ y = kV (.inl i)) ∨ ∃ b ns, t = true ∧ k = .tuple (ns.map .int) ∧ q = .inr ns ∧ y = .ref b ∧ H b = some (.tup ((ns.map Sum.inl).map kV)) := by
  unfold keyOk at e
  split at e
  · rename_i i hk
    cases e
    left
    cases h <;> first | (cases hk; done) | skip
    · cases hk
      exact ⟨_, rfl, rfl, rfl, rfl⟩
    · simp [keyOf] at hk
  · rename_i ns hk
    cases e
    right
    cases h <;> first | (cases hk; done) | skip
    rename_i a vs ds h1 h2 h3
    simp only [keyOf, Option.map_eq_some_iff, Sum.inr.injEq, exists_eq_right] at hk
    obtain ⟨k1, k2⟩ := intsD_map h3 hk
    subst k1 k2
    refine ⟨a, ns, rfl, rfl, rfl, rfl, ?_⟩
    rw [ex _ _ (h1.2 (noStr_ints ns)), List.map_map]
    rfl
  · cases e
theorem get_ok {v y : V} {c k d : D} (ex : Ex F H) (hv : Vw K F H v c) (hk : Rp K F y k) (p : pGet c k = some d) : ∃ a u, v = .ref a ∧ DGet H a y (some u) ∧ Rp K F u d := by
  unfold pGet at p
  obtain ⟨⟨t, es⟩, e1, p⟩ := Option.bind_eq_some_iff.mp p
  obtain ⟨q, e2, p⟩ := Option.bind_eq_some_iff.mp p
  obtain ⟨a, o, rfl, ho, dd⟩ := vw_dict ex hv e1
  rcases key_at ex hk e2 with ⟨i, rfl, rfl, rfl, rfl⟩ | ⟨b, ns, rfl, rfl, rfl, rfl, hb⟩
  · cases dd with
    | dk h =>
      have r := rpd_val i h
      rw [p] at r
      cases hq : valV _ (Sum.inl i : Key) with
      | none => rw [hq] at r; exact r.elim
      | some u =>
        rw [hq] at r
        exact ⟨a, u, rfl, by rw [← hq]; exact DGet.k ho, r⟩
  · cases dd with
    | dt h =>
      have r := rpt_val ns h
      rw [p] at r
      cases hq : valV _ (ns.map Sum.inl : List Key) with
      | none => rw [hq] at r; exact r.elim
      | some u =>
        rw [hq] at r
        exact ⟨a, u, rfl, by rw [← hq]; exact DGet.t ho hb, r⟩
theorem has_ok {neg : Bool} {v y : V} {c k d : D} (ex : Ex F H) (hv : Vw K F H v c) (hk : Rp K F y k) (p : pHas neg c k = some d) : ∃ a o, v = .ref a ∧ DGet H a y o ∧ d = .bool (if neg then !o.isSome else o.isSome) := by
  unfold pHas at p
  obtain ⟨⟨t, es⟩, e1, p⟩ := Option.bind_eq_some_iff.mp p
  obtain ⟨q, e2, p⟩ := Option.map_eq_some_iff.mp p
  obtain ⟨a, o, rfl, ho, dd⟩ := vw_dict ex hv e1
  rcases key_at ex hk e2 with ⟨i, rfl, rfl, rfl, rfl⟩ | ⟨b, ns, rfl, rfl, rfl, rfl, hb⟩
  · cases dd with
    | dk h =>
      have r := rpd_val i h
      refine ⟨a, _, rfl, DGet.k ho, ?_⟩
      rw [← p]
      generalize valV _ (Sum.inl i : Key) = x at r ⊢
      generalize valD _ _ = z at r ⊢
      cases x <;> cases z <;> first | rfl | exact r.elim
  · cases dd with
    | dt h =>
      have r := rpt_val ns h
      refine ⟨a, _, rfl, DGet.t ho hb, ?_⟩
      rw [← p]
      generalize valV _ (ns.map Sum.inl : List Key) = x at r ⊢
      generalize valD _ _ = z at r ⊢
      cases x <;> cases z <;> first | rfl | exact r.elim
theorem put_ok {y v : V} {a : Addr} {o : HO} {c c' k d : D} (ex : Ex F H) (ho : H a = some o) (hc : Cont K F o c) (hk : Rp K F y k) (hv : Rp K F v d) (p : pPut c k d = some c') : ∃ o', DPut H a y v (upd H a o') ∧ Cont K F o' c' := by
  unfold pPut at p
  obtain ⟨⟨t, es⟩, e1, p⟩ := Option.bind_eq_some_iff.mp p
  obtain ⟨q, e2, p⟩ := Option.bind_eq_some_iff.mp p
  split at p
  · rename_i hl
    cases p
    cases hc with
    | lst => cases e1
    | dk h =>
      cases dictOf_dk h e1
      rcases key_at ex hk e2 with ⟨i, _, rfl, rfl, rfl⟩ | ⟨b, ns, z, _⟩
      · exact ⟨_, DPut.k ho (by rw [rpd_len h]; exact hl), .dk (rpd_put i h hv)⟩
      · cases z
    | dt h =>
      cases e1
      rcases key_at ex hk e2 with ⟨i, z, _⟩ | ⟨b, ns, _, rfl, rfl, rfl, hb⟩
      · cases z
      · exact ⟨_, DPut.t ho hb (by rw [rpt_len h]; exact hl), .dt (rpt_put ns h hv)⟩
  · cases p
theorem cont_empty (t : Bool) : Cont K F (if t then .dT [] else .dK []) (emptyD t) := by
  cases t
  · exact .dk .nil
  · exact .dt .nil
end

/-! ### dict([((i, j), v), ..]) -/
def mergeT (kvs : List (List Key × V)) : List (List Key × V) := kvs.foldl (fun m p => putK m p.1 p.2) []
def PairT (K : PySem.W.Frag) (H : Hp) (p : Addr) (q : Addr × List Key × V) : Prop := SqT K H p [.ref q.1, q.2.2] ∧ H q.1 = some (.tup (q.2.1.map kV))
def rDictT (K : PySem.W.Frag) : List V → Hp → VK → Prop := fun xs H Q => ∃ (a : Addr) (ps : List Addr) (qs : List (Addr × List Key × V)), xs = [.ref a] ∧ SqL K H a (ps.map V.ref) ∧ Paired (PairT K H) ps qs ∧
  ∀ p, H p = none → Q (.ref p) (upd H p (.dT (mergeT (qs.map (·.2)))))
/-- a list of pairs, read -/
theorem pairs_kv {K : PySem.W.Frag} {F H : Hp} (ex : Ex F H) : ∀ {ds : List D} {vs : List V} {kvs : List (D × D)}, RpA K F vs ds → pairsKV ds = some kvs →
    ∃ (ps : List Addr) (qs : List (Addr × List Key × V)), vs = ps.map V.ref ∧ Paired (PairT K H) ps qs ∧ ∀ {m : List (List Key × V)} {es : List (D × D)}, RpT K F m es → RpT K F ((qs.map (·.2)).foldl (fun m p => putK m p.1 p.2) m) (kvs.foldl (fun m p => putD p.1 p.2 m) es)
  | [], vs, kvs, h, e => by
    cases h
    cases e
    exact ⟨[], [], rfl, .nil, fun h => h⟩
  | d :: ds, vs, kvs, h, e => by
    cases h with
    | cons h1 h2 =>
      unfold pairsKV at e
      split at e
      · rename_i z
        cases z
      · rename_i k v r hd
        injection hd with hd1 hd2
        subst hd1 hd2
        split at e
        · rename_i ns hk
          obtain ⟨kvs', e1, rfl⟩ := Option.map_eq_some_iff.mp e
          obtain ⟨ps, qs, i1, i2, i3⟩ := pairs_kv ex h2 e1
          cases h1 with
          | tup t1 t2 t3 =>
            cases t3 with
            | cons a1 a2 =>
              cases a2 with
              | cons b1 b2 =>
                cases b2
                rcases key_at (t := true) ex a1 (show keyOk true k = some (.inr ns) by unfold keyOk; rw [hk]) with ⟨i, z, _⟩ | ⟨b, ms, _, rfl, z, rfl, hb⟩
                · cases z
                · cases z
                  subst i1
                  refine ⟨_ :: ps, (b, ns.map Sum.inl, _) :: qs, rfl, .cons ⟨ex_t ex t1.1, hb⟩ i2, fun hm => ?_⟩
                  rw [List.map_cons, List.foldl_cons, List.foldl_cons]
                  exact i3 (rpt_put ns hm b1)
        · cases e
      · cases e
section
variable {X : Cx}
theorem pairsT_of {pins : List (Addr × Obj)} {σ : L2.St} {H : Hp} {s : Shared} (I : Inv X pins σ H s) : ∀ {ps : List Addr} {qs : List (Addr × List Key × V)}, Paired (PairT X.K H) ps qs →
    ∃ prs : List (List Key × Addr × Value), prs.length = ps.length ∧ KT H (qs.map (·.2)) prs ∧ ∀ (j : Nat) (q : List Key × Addr × Value), prs[j]? = some q → ∃ b : Addr, ps[j]? = some b ∧ s.heap.IsTuple b #[.ref q.2.1, q.2.2] ∧ H q.2.1 = some (.tup (q.1.map kV))
  | _, _, .nil => ⟨[], rfl, .nil, fun j q e => by simp at e⟩
  | _, _, .cons (a := p) (b := qq) h t => by
    obtain ⟨prs, hl, r, hp⟩ := pairsT_of I t
    obtain ⟨h1, h2⟩ := h
    obtain ⟨its, rv, ht, _⟩ := I.tuple h1
    obtain ⟨u, y, ei, ru, ry⟩ := vals2 rv
    subst ei
    cases ru
    refine ⟨(qq.2.1, qq.1, y) :: prs, by rw [List.length_cons, List.length_cons, hl], .cons ⟨rfl, h2, ry⟩ r, fun j q e => ?_⟩
    cases j with
    | zero =>
      have e' : (qq.2.1, qq.1, y) = q := Option.some.inj e
      subst e'
      exact ⟨p, rfl, ht, h2⟩
    | succ j =>
      obtain ⟨b, e1, e2, e3⟩ := hp j q (by simpa using e)
      exact ⟨b, by simpa using e1, e2, e3⟩
theorem KT_merge {H : Hp} : ∀ {kvs : List (List Key × V)} {prs : List (List Key × Addr × Value)} {m : List (List Key × V)} {xs : List (List Key × Addr × Value)}, KT H kvs prs → KT H m xs → KT H (kvs.foldl (fun m p => putK m p.1 p.2) m) (prs.foldl (fun acc p => storedH acc p.1 p.2.1 p.2.2) xs)
  | _, _, m, xs, .nil, h => h
  | _, _, m, xs, .cons (a := p) (b := q) h t, hm => by
    rw [List.foldl_cons, List.foldl_cons]
    refine KT_merge t ?_
    obtain ⟨h1, h2, h3⟩ := h
    rw [← h1]
    exact KT.put hm p.1 h2 h3
theorem merge_len : ∀ (kvs m : List (List Key × V)), (kvs.foldl (fun m p => putK m p.1 p.2) m).length ≤ m.length + kvs.length
  | [], m => Nat.le_refl _
  | p :: kvs, m => by
    rw [List.foldl_cons, List.length_cons]
    have h1 := merge_len kvs (putK m p.1 p.2)
    have h2 : (putK m p.1 p.2).length ≤ m.length + 1 := by
      unfold putK
      split
      · rw [List.length_map]; omega
      · simp
    omega
theorem in1_room {A : Around} (hu : A.units + 65 < cLine) : A.in1.units + 1 < cLine := by
  have h1 : A.in1.units = A.units + 1 := rfl
  omega
theorem call_dictT (hcalm : X.calm = true) (hu : X.A.units + 65 < cLine) : CallR X (.type "dict") (rDictT X.K) := by
  intro pins s σ H xs us Q I r q
  obtain ⟨a, ps, qs, ex, hq, hp, q⟩ := q
  subst ex
  obtain ⟨u, eu, rx⟩ := vals1 r
  subst eu
  cases rx
  obtain ⟨its, rv, pl, hz⟩ := I.list hq
  have ei := refs_at rv
  subst ei
  rw [List.length_map] at hz
  obtain ⟨prs, hl, kt, hpr⟩ := pairsT_of I hp
  obtain ⟨o, n, ho, hc, hd, hdat⟩ := pl
  have hlt : ∀ (j : Nat) (q : List Key × Addr × Value), prs[j]? = some q → q.2.1 < s.heap.objs.size := fun j q e => by
    obtain ⟨b, _, _, e3⟩ := hpr j q e
    exact (I.hok _ _ e3).lt
  have hPI : PairItems s.heap ((ps.map Value.ref).toArray) (fun j => ps.getD j 0) (prs.map fun q => (Value.ref q.2.1, q.2.2)) := by
    refine ⟨by simp [hl], fun j k v hj => ?_⟩
    rw [List.getElem?_map] at hj
    obtain ⟨q, hq1, hq2⟩ := Option.map_eq_some_iff.mp hj
    cases hq2
    obtain ⟨b, e1, e2, e3⟩ := hpr j q hq1
    have hb : ps.getD j 0 = b := by rw [List.getD_eq_getElem?_getD, e1]; rfl
    refine ⟨?_, .inl ?_⟩
    · show (ps.map Value.ref).toArray[j]? = _
      rw [List.getElem?_toArray, List.getElem?_map, e1]
      show some (Value.ref b) = some (.ref (ps.getD j 0))
      rw [hb]
    · show s.heap.IsTuple (ps.getD j 0) _
      rw [hb]
      exact e2
  have hok := I.ok.hd hcalm
  refine call_dict_pairsH (knd := tupleKind (mixKind X.prog X.w)) (ps := prs) (PairArg.list a ((ps.map Value.ref).toArray) (fun j => ps.getD j 0) (prs.map fun q => (Value.ref q.2.1, q.2.2))) hok (tupleKind_room_in1 (in1_room hu)) ⟨⟨o, n, ho, hc, hd, hdat⟩, hPI⟩ ?_ ?_ ?_ fun h' tk hd' k => ?_
  · refine ⟨by rw [List.length_map], fun i key v hrel => ?_⟩
    have hrel : (prs.map fun q => (Value.ref q.2.1, q.2.2))[i]? = some (key, v) := hrel
    rw [List.getElem?_map] at hrel
    obtain ⟨q, hq1, hq2⟩ := Option.map_eq_some_iff.mp hrel
    cases hq2
    exact ⟨q.1, q.2.1, hq1, rfl⟩
  · intro h' hk x hx
    obtain ⟨j, hj⟩ := List.mem_iff_getElem?.mp hx
    obtain ⟨b, _, _, e3⟩ := hpr j x hj
    obtain ⟨oo, items, nn, z1, z2, z3, z4⟩ := key_of I.hok e3
    exact ⟨oo, items, nn, hk _ _ (Nat.ne_of_lt (Heap.lt_size z1)) (by simp) z1, z2, z3, z4⟩
  · rw [List.length_map, hl]
    exact hz
  · obtain ⟨oo, es, ep, y1, y2, y3, y4, y5, y6⟩ := hd'
    have hm : (s.heap.objs.size == sysModules) = false := beq_eq_false_iff_ne.mpr (Nat.ne_of_gt I.big)
    have hml := merge_len (qs.map (·.2)) []
    have hqs : qs.length = ps.length := (Paired.length hp).symm
    have hlen : (mergeT (qs.map (·.2))).length ≤ sizeLine := by
      unfold mergeT
      rw [List.length_map, List.length_nil] at hml
      omega
    have hkt : KT H (mergeT (qs.map (·.2))) (storedAllH [] prs) := KT_merge kt .nil
    have hfr := I.hok.fresh (Nat.le_refl s.heap.objs.size)
    exact ⟨.ref s.heap.objs.size, upd H s.heap.objs.size (.dT (mergeT (qs.map (·.2)))), I.laid (t' := tk) (fun b o e => k b o (by simp) e) (Nat.le_refl _)
      (show ObjOk X.prog X.w _ _ _ (.dT (mergeT (qs.map (·.2)))) from ⟨hlen, hm, storedAllH [] prs, KT.keeps hkt (fun b ys e => by
        rw [upd_ne (fun z => by rw [z, hfr] at e; cases e)]
        exact e), oo, es, ep, y1, y2, y3, y4, y6⟩), rfl, q _ hfr⟩
end

/-! ### xs.extend(..) of a list, of a tuple -/
def rExt (K : PySem.W.Frag) : V → List V → Hp → VK → Prop := fun x vs H Q => ∃ (a b : Addr) (us ws : List V), x = .ref a ∧ vs = [.ref b] ∧ H a = some (.lst us) ∧ (H b = some (.lst ws) ∨ SqT K H b ws) ∧ us.length + ws.length ≤ sizeLine ∧ Q .non (upd H a (.lst (us ++ ws)))
theorem meets_extT (p q : Addr) (xs ys : Array Value) (n m : Nat) (dd : Option Addr) (sl : Array (Option Value)) (e1 : ¬(!xs.isEmpty && Builtin.List.listTooLong (xs.size + ys.size)) = true) (e2 : xs.size ≤ sizeLine) (e3 : xs.size + ys.size ≤ sizeLine + 1) :
    Meets (Builtin.«list.extend» ⟨[.ref p, .ref q], []⟩) (fun _ R s => s.heap.get? p = some { cls := .type "list", dict := none, data := .seq xs n, slots := #[] } ∧ s.heap.get? q = some { cls := .type "tuple", dict := dd, data := .seq ys m, slots := sl } ∧
      R (.ok (.ret Value.none)) { s with heap := s.heap.update p (Obj.mapSeq fun x => x ++ ys), toks := s.toks }) :=
  .of_wp fun prog w A R s h => by
    obtain ⟨hp, g, d, tk, os⟩ := s
    obtain ⟨h1, h2, h⟩ := h
    have k1 := AutoSeq1.idx_int
    have k2 := AutoSeq1.sub_tuple_tuple
    have k3 := AutoSeq1.sub_list_list
    have k4 := AutoSeq1.sub_tuple_list
    have k5 := AutoSeq1.sub_list_tuple
    have e4 : (xs ++ ys).size ≤ sizeLine + 1 := by rw [Array.size_append]; exact e3
    wp_walk using (wpAny_updateSeq h1 rfl (hz := e2) (_hz' := e4)), AutoSeq1.wpAny_loadPart' h1, AutoSeq1.wpAny_loadPart' h2
    exact ⟨_, rfl, h⟩
theorem mt_ext {X : Cx} : MtM X "list.extend" (rExt X.K) := by
  intro pins s σ H x vs v us Q I rx rv h
  obtain ⟨a, b, xs, ws, rfl, rfl, hA, hB, hz, q⟩ := h
  rcases hB with hB | hB
  · exact mt_extend pins s σ H (.ref a) [.ref b] v us Q I rx rv ⟨a, b, xs, ws, rfl, rfl, hA, hB, hz, q⟩
  · cases rx
    obtain ⟨u, rfl, ru⟩ := rv.one
    cases ru
    obtain ⟨z, its, n, r, hl, e⟩ := I.lstM hA
    obtain ⟨its2, r2, ⟨o, e2, ec, m, ed⟩, hl2⟩ := I.tuple hB
    obtain ⟨oc, od, odt, osl⟩ := o
    simp only at ec ed
    subst ec ed
    have hsz : its.toArray.size + its2.toArray.size ≤ sizeLine := by
      have := r.length
      have := r2.length
      rw [List.size_toArray, List.size_toArray]
      omega
    have hlong : ¬ (!its.toArray.isEmpty && Builtin.List.listTooLong (its.toArray.size + its2.toArray.size)) = true := by
      rw [notLongL hsz, Bool.and_false]
      decide
    refine call_meets F.slot_list_extend ⟨_, e, rfl⟩ F.entry_list_extend (F.args_list_extend_2 _ _) (meets_extT a b its.toArray its2.toArray n m od osl hlong (by omega) (by omega)) ⟨e, e2, ?_⟩
    refine ⟨.non, _, I.lset (its' := its ++ its2) hA e (by simp) (r.append r2) ?_, rfl, q⟩
    rw [List.length_append]
    exact hz
end Nv

set_option Elab.async false
set_option linter.all false
set_option maxRecDepth 100000
set_option maxHeartbeats 1000000
/-! NvZ: zip of a list or a tuple with a list or a tuple, its pairs stored whole or part by part. -/
namespace Nv
open PySem PySem.Spec PyProof.Rows L2
abbrev ZipV (h : Heap) (zp ti to_ : Addr) (f0 f1 : Value) : Prop := h.get? zp = some { cls := .type "zip", dict := none, data := .fields #[f0, f1, .bool false, .ref ti, .ref to_], slots := #[] }
def ItAt (t : Bool) (h : Heap) (it l : Addr) (k : Nat) : Prop := if t then h.IsTupleIter it l k else h.IsListIter it l k
def SqAt (t : Bool) (h : Heap) (l : Addr) (xs : Array Value) : Prop := if t then h.IsTuple l xs else h.IsList l xs
theorem ItAt.mv {t : Bool} {h g : Heap} {it l : Addr} {k : Nat} (x : ItAt t h it l k) (f : ∀ o, h.get? it = some o → g.get? it = some o) : ItAt t g it l k := by
  cases t
  · exact Heap.IsListIter.at x f
  · exact Heap.IsTupleIter.at x f
theorem SqAt.mv {t : Bool} {h g : Heap} {l : Addr} {xs : Array Value} (x : SqAt t h l xs) (f : ∀ o, h.get? l = some o → g.get? l = some o) : SqAt t g l xs := by
  cases t
  · exact Heap.IsList.at x f
  · exact Heap.IsTuple.at x f
theorem ItAt.lt {t : Bool} {h : Heap} {it l : Addr} {k : Nat} (x : ItAt t h it l k) : it < h.objs.size := by
  cases t
  · obtain ⟨_, e, _⟩ := x; exact Heap.lt_size e
  · obtain ⟨_, e, _⟩ := x; exact Heap.lt_size e
theorem ItAt.obj {t : Bool} {h : Heap} {it l : Addr} {k : Nat} (x : ItAt t h it l k) : ∃ o, h.get? it = some o ∧ ∀ v, o.data ≠ .cell v := by
  cases t
  · obtain ⟨o, e, _, d⟩ := x; exact ⟨o, e, fun v q => by rw [d] at q; cases q⟩
  · obtain ⟨o, e, _, d⟩ := x; exact ⟨o, e, fun v q => by rw [d] at q; cases q⟩
section
variable {prog : Program} {w : World} {A : Around} {E : Value → Shared → Prop} {s : Shared}
theorem draw_item {t : Bool} {it l : Addr} {k : Nat} {xs : Array Value} {x : Value} {Q : Value → Shared → Prop} (hi : ItAt t s.heap it l k) (hl : SqAt t s.heap l xs) (e : xs[k]? = some x)
    (q : ∀ g, ItAt t g it l (k + 1) → Heap.SameBut it s.heap g → Q x { s with heap := g }) : wpAny (model prog w) A (Builtin.SmallTypes.nextOf (.ref it)) Q E s := by
  cases t
  · exact wpAny_nextOf_list_item hi hl e q
  · exact RZ.nextOf_tuple_item hi hl e q
theorem draw_end {t : Bool} {it l : Addr} {k : Nat} {xs : Array Value} {Q : Value → Shared → Prop} (hh : A.handled = none) (hi : ItAt t s.heap it l k) (hl : SqAt t s.heap l xs) (e : xs[k]? = none)
    (q : ∀ g x, Heap.ExtBut it s.heap g → (∃ o, g.get? x = some o ∧ o.cls = .type "StopIteration") → E (.ref x) { s with heap := g }) : wpAny (model prog w) A (Builtin.SmallTypes.nextOf (.ref it)) Q E s := by
  cases t
  · exact wpAny_nextOf_list_end hh hi hl e q
  · exact RZ.nextOf_tuple_end hh hi hl e q
theorem wp_alive {M : Model} {a : Addr} {Q : Option Obj → Shared → Prop} (h : Q (s.heap.get? a) s) : wpAny M A (loadIfAlive a) Q E s := fun _ _ _ => h
theorem free_ask {zp ti to_ : Addr} {f0 : Value} {b : Bool} {Q : Bool → Shared → Prop} (gz : ZipV s.heap zp ti to_ f0 (.bool b)) (hf : f0 = .none ∨ ∃ n : Int, f0 = rawInt n) (q1 : Q true s)
    (q2 : ∀ g, ZipV g zp ti to_ f0 (.bool true) → Heap.SameBut zp s.heap g → Q false { s with heap := g }) : wpAny (model prog w) A (Builtin.SmallTypes.ownedTupleIsFree (.ref zp)) Q E s := by
  unfold Builtin.SmallTypes.ownedTupleIsFree
  refine wpAny_bind (wpAny_field gz rfl (x := f0) rfl ?_)
  rcases hf with rfl | ⟨n, rfl⟩
  · exact wpAny_pure q1
  · refine wpAny_bind (wp_alive ?_)
    cases e : s.heap.get? n.toNat with
    | none => exact wpAny_pure q1
    | some o =>
      show wpAny _ _ (field (.ref zp) 1 >>= _) _ _ _
      refine wpAny_bind (wpAny_field gz rfl (x := .bool b) rfl ?_)
      cases b with
      | true => exact wpAny_pure (q2 s.heap gz (Heap.SameBut.refl _ _))
      | false =>
        refine wpAny_bind (m := setField (.ref zp) 1 (.bool true)) (wpAny_setField_rec gz (by simp) fun g g1 g2 => wpAny_pure (q2 g g1 g2))
/-- the zip object, its iterators at k -/
structure ZSt (t u : Bool) (zp ti to_ ia ib a b : Addr) (k : Nat) (h : Heap) : Prop where
  rc : ∃ f0 q, ZipV h zp ti to_ f0 (.bool q) ∧ (f0 = .none ∨ ∃ n : Int, f0 = rawInt n)
  pi : IsPair h ti (.ref ia) (.ref ib)
  po : ∃ c d, IsPair h to_ c d
  s1 : ItAt t h ia a k
  s2 : ItAt u h ib b k
theorem zn_item {t u : Bool} {zp ti to_ ia ib a b : Addr} {k : Nat} {xs ys : Array Value} {x y : Value} {Q : Value → Shared → Prop} (D : ZipApart zp ti to_ ia ib a b) (Z : ZSt t u zp ti to_ ia ib a b k s.heap) (p1 : SqAt t s.heap a xs) (p2 : SqAt u s.heap b ys) (hx : xs[k]? = some x) (hy : ys[k]? = some y)
    (q : ∀ g, ZSt t u zp ti to_ ia ib a b (k + 1) g → IsPair g s.heap.objs.size x y → (∀ c o, c ≠ zp → c ≠ to_ → c ≠ ia → c ≠ ib → s.heap.get? c = some o → g.get? c = some o) → Q (.ref s.heap.objs.size) { s with heap := g }) :
    wpAny (model prog w) A (Builtin.«zip.__next__» ⟨[.ref zp], []⟩) (fun fin r => ∃ v, fin = .done (.ret v) ∧ Q v r) E s := by
  obtain ⟨⟨f0, fb, gz, hf⟩, gti, ⟨c0, d0, gto⟩, g1, g2⟩ := Z
  show wpAny _ _ (field (.ref zp) 2 >>= _) _ _ _
  refine wpAny_bind (wpAny_field gz rfl (x := .bool false) rfl ?_)
  show wpAny _ _ (field (.ref zp) 3 >>= _) _ _ _
  refine wpAny_bind (wpAny_field gz rfl (x := .ref ti) rfl ?_)
  refine wpAny_bind (wpAny_seqItems gti rfl ?_)
  show wpAny _ _ (Builtin.SmallTypes.ownedTupleIsFree (.ref zp) >>= _) _ _ _
  refine wpAny_bind (free_ask gz hf ?_ fun ha za ka => ?_)
  · simp only [if_true]
    refine wpAny_bind (wpAny_rule ?_)
    refine wpAny_bind (wpAny_field gz rfl (x := .ref to_) rfl ?_)
    refine wpAny_bind (wpAny_setField_rec gz (by simp) fun ha za ka => ?_)
    replace za : ZipV ha zp ti to_ .ellipsis (.bool fb) := za
    refine wpAny_bind ?_
    simp only [List.forIn_cons, List.forIn_nil, List.zipIdx_nil, List.zipIdx_cons]
    refine wpAny_bind (wpAny_bind (wpAny_onRaise (?_)))
    show wpAny _ _ (Builtin.SmallTypes.nextOf (.ref ia) >>= _) _ _ _
    refine wpAny_bind (draw_item (g1.mv (ka.extBut _ · D.i1z)) (p1.mv (ka.extBut _ · D.l1z)) hx fun hb a1 kb => wpAny_pure ?_)
    have to1 : IsPair hb to_ c0 d0 := kb.extBut _ _ D.TOi1 (ka.extBut _ _ D.TOz gto)
    refine wpAny_bind (wpAny_seqItems to1 rfl ?_)
    refine wpAny_bind (wpAny_updateSeq_pair to1 fun hc to2 kc => ?_)
    replace to2 : IsPair hc to_ x d0 := to2
    refine wpAny_bind (wpAny_letGo (wpAny_pure (?_)))
    refine wpAny_bind (wpAny_bind (wpAny_onRaise (?_)))
    show wpAny _ _ (Builtin.SmallTypes.nextOf (.ref ib) >>= _) _ _ _
    refine wpAny_bind (draw_item (g2.mv fun o e => kc.extBut _ _ D.TOi2.symm (kb.extBut _ _ D.i12.symm (ka.extBut _ _ D.i2z e))) (p2.mv fun o e => kc.extBut _ _ D.l2TO (kb.extBut _ _ D.l2i1 (ka.extBut _ _ D.l2z e))) hy fun hd b1 kd => wpAny_pure ?_)
    have to3 : IsPair hd to_ x d0 := kd.extBut _ _ D.TOi2 to2
    refine wpAny_bind (wpAny_seqItems to3 rfl ?_)
    refine wpAny_bind (wpAny_updateSeq_pair to3 fun he to4 ke => ?_)
    replace to4 : IsPair he to_ x y := to4
    refine wpAny_bind (wpAny_letGo (wpAny_pure (wpAny_pure (?_))))
    refine wpAny_bind (wpAny_seqItems to4 rfl ?_)
    refine wpAny_bind (wpAny_newTuple (?_))
    have sz : he.objs.size = s.heap.objs.size := by rw [ke.1, kd.1, kc.1, kb.1, ka.1]
    have ze : ZipV he zp ti to_ .ellipsis (.bool fb) := ke.extBut _ _ D.TOz.symm (kd.extBut _ _ D.i2z.symm (kc.extBut _ _ D.TOz.symm (kb.extBut _ _ D.i1z.symm za)))
    have kk : ∀ c o, c ≠ zp → c ≠ to_ → c ≠ ia → c ≠ ib → s.heap.get? c = some o → he.get? c = some o := fun c o n1 n2 n3 n4 e => ke.extBut _ _ n2 (kd.extBut _ _ n4 (kc.extBut _ _ n2 (kb.extBut _ _ n3 (ka.extBut _ _ n1 e))))
    have a5 : ItAt t he ia a (k + 1) := a1.mv fun o e => ke.extBut _ _ D.TOi1.symm (kd.extBut _ _ D.i12 (kc.extBut _ _ D.TOi1.symm e))
    have b5 : ItAt u he ib b (k + 1) := b1.mv fun o e => ke.extBut _ _ D.TOi2.symm e
    have zlt : zp < he.objs.size := Heap.lt_size ze
    show wpAny _ _ (Builtin.SmallTypes.ownedTupleHandOut (.ref zp) (.ref he.objs.size) >>= _) _ _ _
    refine wpAny_bind ?_
    unfold Builtin.SmallTypes.ownedTupleHandOut
    have zf : ZipV (he.push { cls := .type "tuple", data := .seq #[x, y] }) zp ti to_ .ellipsis (.bool fb) := Heap.get?_push_of_some _ ze
    refine wpAny_bind (wpAny_setField_rec zf (by simp) fun hg zg kg => ?_)
    replace zg : ZipV hg zp ti to_ (rawInt he.objs.size) (.bool fb) := zg
    refine wpAny_setField_rec zg (by simp) fun hh zh kh => ?_
    replace zh : ZipV hh zp ti to_ (rawInt he.objs.size) (.bool false) := zh
    have up : ∀ c o, c ≠ zp → he.get? c = some o → hh.get? c = some o := fun c o n1 e => kh.extBut _ _ n1 (kg.extBut _ _ n1 (Heap.get?_push_of_some _ e))
    have tn : IsPair hh he.objs.size x y := kh.extBut _ _ (Nat.ne_of_gt zlt) (kg.extBut _ _ (Nat.ne_of_gt zlt) (Heap.get?_push_size _ rfl))
    refine wpAny_pure ⟨_, rfl, ?_⟩
    show Q (.ref he.objs.size) _
    rw [sz]
    rw [sz] at tn
    exact q hh ⟨⟨_, _, zh, .inr ⟨_, rfl⟩⟩, up _ _ D.TIz (kk _ _ D.TIz D.TITO D.TIi1 D.TIi2 gti), ⟨x, y, up _ _ D.TOz to4⟩, a5.mv fun o e => up _ o D.i1z e, b5.mv fun o e => up _ o D.i2z e⟩ tn fun c o n1 n2 n3 n4 e => up c o n1 (kk c o n1 n2 n3 n4 e)
  · simp only [Bool.false_eq_true, if_false]
    refine wpAny_bind ?_
    rw [← Array.forIn_toList]
    simp only [List.forIn_cons, List.forIn_nil]
    refine wpAny_bind (wpAny_bind (wpAny_holding (?_)))
    show wpAny _ _ (Builtin.SmallTypes.nextOf (.ref ia) >>= _) _ _ _
    refine wpAny_bind (draw_item (g1.mv (ka.extBut _ · D.i1z)) (p1.mv (ka.extBut _ · D.l1z)) hx fun hb a1 kb => wpAny_pure ?_)
    refine wpAny_pure ?_
    refine wpAny_bind (wpAny_bind (wpAny_holding (?_)))
    show wpAny _ _ (Builtin.SmallTypes.nextOf (.ref ib) >>= _) _ _ _
    refine wpAny_bind (draw_item (g2.mv fun o e => kb.extBut _ _ D.i12.symm (ka.extBut _ _ D.i2z e)) (p2.mv fun o e => kb.extBut _ _ D.l2i1 (ka.extBut _ _ D.l2z e)) hy fun hd b1 kd => wpAny_pure ?_)
    refine wpAny_pure (wpAny_pure ?_)
    refine wpAny_bind (wpAny_newTuple (?_) (show 2 ≤ sizeLine by decide))
    have sz : hd.objs.size = s.heap.objs.size := by rw [kd.1, kb.1, ka.1]
    have zd : ZipV hd zp ti to_ f0 (.bool true) := kd.extBut _ _ D.i2z.symm (kb.extBut _ _ D.i1z.symm za)
    have kk : ∀ c o, c ≠ zp → c ≠ to_ → c ≠ ia → c ≠ ib → s.heap.get? c = some o → (hd.push { cls := .type "tuple", data := .seq #[x, y] }).get? c = some o := fun c o n1 n2 n3 n4 e => Heap.get?_push_of_some _ (kd.extBut _ _ n4 (kb.extBut _ _ n3 (ka.extBut _ _ n1 e)))
    have up : ∀ c o, hd.get? c = some o → (hd.push { cls := .type "tuple", data := .seq #[x, y] }).get? c = some o := fun c o e => Heap.get?_push_of_some _ e
    refine wpAny_pure ⟨_, rfl, ?_⟩
    show Q (.ref hd.objs.size) _
    have tn : IsPair (hd.push { cls := .type "tuple", data := .seq #[x, y] }) hd.objs.size x y := Heap.get?_push_size _ rfl
    rw [sz] at tn ⊢
    exact q _ ⟨⟨_, _, up _ _ zd, hf⟩, kk _ _ D.TIz D.TITO D.TIi1 D.TIi2 gti, ⟨c0, d0, up _ _ (kd.extBut _ _ D.TOi2 (kb.extBut _ _ D.TOi1 (ka.extBut _ _ D.TOz gto)))⟩, a1.mv fun o e => up _ o (kd.extBut _ _ D.i12 e), b1.mv fun o e => up _ o e⟩ tn kk
theorem zn_end {t u : Bool} {zp ti to_ ia ib a b : Addr} {k : Nat} {xs ys : Array Value} {Q : Fin → Shared → Prop} (hH : A.handled = none) (D : ZipApart zp ti to_ ia ib a b) (Z : ZSt t u zp ti to_ ia ib a b k s.heap) (p1 : SqAt t s.heap a xs) (p2 : SqAt u s.heap b ys) (hend : xs[k]? = none ∨ ys[k]? = none)
    (q : ∀ g x, (∀ c o, c ≠ zp → c ≠ to_ → c ≠ ia → c ≠ ib → s.heap.get? c = some o → g.get? c = some o) → (∃ o, g.get? x = some o ∧ o.cls = .type "StopIteration") → E (.ref x) { s with heap := g }) :
    wpAny (model prog w) A (Builtin.«zip.__next__» ⟨[.ref zp], []⟩) Q E s := by
  obtain ⟨⟨f0, fb, gz, hf⟩, gti, ⟨c0, d0, gto⟩, g1, g2⟩ := Z
  show wpAny _ _ (field (.ref zp) 2 >>= _) _ _ _
  refine wpAny_bind (wpAny_field gz rfl (x := .bool false) rfl ?_)
  show wpAny _ _ (field (.ref zp) 3 >>= _) _ _ _
  refine wpAny_bind (wpAny_field gz rfl (x := .ref ti) rfl ?_)
  refine wpAny_bind (wpAny_seqItems gti rfl ?_)
  show wpAny _ _ (Builtin.SmallTypes.ownedTupleIsFree (.ref zp) >>= _) _ _ _
  refine wpAny_bind (free_ask gz hf ?_ fun ha za ka => ?_)
  · simp only [if_true]
    refine wpAny_bind (wpAny_rule ?_)
    refine wpAny_bind (wpAny_field gz rfl (x := .ref to_) rfl ?_)
    refine wpAny_bind (wpAny_setField_rec gz (by simp) fun ha za ka => ?_)
    replace za : ZipV ha zp ti to_ .ellipsis (.bool fb) := za
    refine wpAny_bind ?_
    simp only [List.forIn_cons, List.forIn_nil, List.zipIdx_nil, List.zipIdx_cons]
    refine wpAny_bind (wpAny_bind (wpAny_onRaise (?_)))
    show wpAny _ _ (Builtin.SmallTypes.nextOf (.ref ia) >>= _) _ _ _
    cases hx : xs[k]? with
    | none =>
      refine wpAny_bind (draw_end hH (g1.mv (ka.extBut _ · D.i1z)) (p1.mv (ka.extBut _ · D.l1z)) hx fun hb e kb he => ?_)
      obtain ⟨oe, e1, e2⟩ := he
      have zb : ZipV hb zp ti to_ .ellipsis (.bool fb) := kb _ _ D.i1z.symm za
      have ez : e ≠ zp := fun z => by subst z; rw [zb] at e1; cases e1; simp at e2
      exact wpAny_setField_rec zb (by simp) fun hc _ kc => q hc e (fun c o n1 _ n3 _ x => kc.extBut _ _ n1 (kb _ _ n3 (ka.extBut _ _ n1 x))) ⟨oe, kc.extBut _ _ ez e1, e2⟩
    | some x =>
      have hy : ys[k]? = none := hend.resolve_left (by rw [hx]; exact fun z => nomatch z)
      refine wpAny_bind (draw_item (g1.mv (ka.extBut _ · D.i1z)) (p1.mv (ka.extBut _ · D.l1z)) hx fun hb a1 kb => wpAny_pure ?_)
      have to1 : IsPair hb to_ c0 d0 := kb.extBut _ _ D.TOi1 (ka.extBut _ _ D.TOz gto)
      refine wpAny_bind (wpAny_seqItems to1 rfl ?_)
      refine wpAny_bind (wpAny_updateSeq_pair to1 fun hc to2 kc => ?_)
      refine wpAny_bind (wpAny_letGo (wpAny_pure (?_)))
      refine wpAny_bind (wpAny_bind (wpAny_onRaise (?_)))
      show wpAny _ _ (Builtin.SmallTypes.nextOf (.ref ib) >>= _) _ _ _
      refine wpAny_bind (draw_end hH (g2.mv fun o e => kc.extBut _ _ D.TOi2.symm (kb.extBut _ _ D.i12.symm (ka.extBut _ _ D.i2z e))) (p2.mv fun o e => kc.extBut _ _ D.l2TO (kb.extBut _ _ D.l2i1 (ka.extBut _ _ D.l2z e))) hy fun hd e kd he => ?_)
      obtain ⟨oe, e1, e2⟩ := he
      have zd : ZipV hd zp ti to_ .ellipsis (.bool fb) := kd _ _ D.i2z.symm (kc.extBut _ _ D.TOz.symm (kb.extBut _ _ D.i1z.symm za))
      have ez : e ≠ zp := fun z => by subst z; rw [zd] at e1; cases e1; simp at e2
      exact wpAny_setField_rec zd (by simp) fun hg _ kg => q hg e (fun c o n1 n2 n3 n4 x => kg.extBut _ _ n1 (kd _ _ n4 (kc.extBut _ _ n2 (kb.extBut _ _ n3 (ka.extBut _ _ n1 x))))) ⟨oe, kg.extBut _ _ ez e1, e2⟩
  · simp only [Bool.false_eq_true, if_false]
    refine wpAny_bind ?_
    rw [← Array.forIn_toList]
    simp only [List.forIn_cons, List.forIn_nil]
    refine wpAny_bind (wpAny_bind (wpAny_holding (?_)))
    show wpAny _ _ (Builtin.SmallTypes.nextOf (.ref ia) >>= _) _ _ _
    cases hx : xs[k]? with
    | none =>
      exact wpAny_bind (draw_end hH (g1.mv (ka.extBut _ · D.i1z)) (p1.mv (ka.extBut _ · D.l1z)) hx fun hb e kb he => q hb e (fun c o n1 _ n3 _ x => kb _ _ n3 (ka.extBut _ _ n1 x)) he)
    | some x =>
      have hy : ys[k]? = none := hend.resolve_left (by rw [hx]; exact fun z => nomatch z)
      refine wpAny_bind (draw_item (g1.mv (ka.extBut _ · D.i1z)) (p1.mv (ka.extBut _ · D.l1z)) hx fun hb a1 kb => wpAny_pure ?_)
      refine wpAny_pure ?_
      refine wpAny_bind (wpAny_bind (wpAny_holding (?_)))
      show wpAny _ _ (Builtin.SmallTypes.nextOf (.ref ib) >>= _) _ _ _
      exact wpAny_bind (draw_end hH (g2.mv fun o e => kb.extBut _ _ D.i12.symm (ka.extBut _ _ D.i2z e)) (p2.mv fun o e => kb.extBut _ _ D.l2i1 (ka.extBut _ _ D.l2z e)) hy fun hd e kd he => q hd e (fun c o n1 _ n3 n4 x => kd _ _ n4 (kb.extBut _ _ n3 (ka.extBut _ _ n1 x))) he)
theorem zp_type {t u : Bool} {zp ti to_ ia ib a b : Addr} {k : Nat} (Z : ZSt t u zp ti to_ ia ib a b k s.heap) : s.TypeIs (.ref zp) "zip" := by
  obtain ⟨⟨f0, q, gz, _⟩, _⟩ := Z
  exact ⟨_, gz, rfl⟩
theorem zpn_item {t u : Bool} {zp ti to_ ia ib a b : Addr} {k : Nat} {xs ys : Array Value} {x y : Value} {Q : Option Value → Shared → Prop} (D : ZipApart zp ti to_ ia ib a b) (Z : ZSt t u zp ti to_ ia ib a b k s.heap) (p1 : SqAt t s.heap a xs) (p2 : SqAt u s.heap b ys) (hx : xs[k]? = some x) (hy : ys[k]? = some y)
    (q : ∀ g, ZSt t u zp ti to_ ia ib a b (k + 1) g → IsPair g s.heap.objs.size x y → (∀ c o, c ≠ zp → c ≠ to_ → c ≠ ia → c ≠ ib → s.heap.get? c = some o → g.get? c = some o) → Q (some (.ref s.heap.objs.size)) { s with heap := g }) :
    wpAny (model prog w) A (pyNext (.ref zp)) Q E s := by
  have hT := zp_type Z
  unfold pyNext
  refine wpAny_bind (wpAny_attempt (wpAny_callSpecial?_slot (name := Str.ofString "__next__") hT F.slot_zip_next ?_))
  exact wpAny_call_entry F.slot_zip_next hT F.entry_zip_next (zn_item D Z p1 p2 hx hy fun g b1 b2 b3 => wpAny_pure (q g b1 b2 b3)) (F.args_zip_next_1 _)
theorem zpn_end {t u : Bool} {zp ti to_ ia ib a b : Addr} {k : Nat} {xs ys : Array Value} {Q : Option Value → Shared → Prop} (hH : A.handled = none) (D : ZipApart zp ti to_ ia ib a b) (Z : ZSt t u zp ti to_ ia ib a b k s.heap) (p1 : SqAt t s.heap a xs) (p2 : SqAt u s.heap b ys) (hend : xs[k]? = none ∨ ys[k]? = none)
    (q : ∀ g, (∀ c o, c ≠ zp → c ≠ to_ → c ≠ ia → c ≠ ib → s.heap.get? c = some o → g.get? c = some o) → Q none { s with heap := g }) : wpAny (model prog w) A (pyNext (.ref zp)) Q E s := by
  have hT := zp_type Z
  unfold pyNext
  refine wpAny_bind (wpAny_attempt (wpAny_callSpecial?_slot (name := Str.ofString "__next__") hT F.slot_zip_next ?_))
  refine wpAny_call_entry F.slot_zip_next hT F.entry_zip_next (zn_end hH D Z p1 p2 hend fun g e kk he => ?_) (F.args_zip_next_1 _)
  obtain ⟨o, e1, e2⟩ := he
  exact wpAny_bind (wpAny_isInstance (T := "StopIteration") (b := true) ⟨o, e1, e2⟩ isSubtype_stop (wpAny_pure (q _ kk)))
/-- ahead of the store -/
theorem zp_go {t u : Bool} {zp ti to_ ia ib a b : Addr} {k : Nat} {tg : Expr} {v : Value} {Q : Unit → Shared → Prop} (D : ZipApart zp ti to_ ia ib a b) (Z : ZSt t u zp ti to_ ia ib a b k s.heap) (q : ∀ g, ZSt t u zp ti to_ ia ib a b k g → Heap.SameBut zp s.heap g → Q () { s with heap := g }) :
    wpAny (model prog w) A (letOwnedTupleGo tg (.ref zp) v) Q E s := by
  have same : Q () s := q s.heap Z (Heap.SameBut.refl _ _)
  have main : ∀ T : Addr, wpAny (model prog w) A (do
      let o ← load zp
      match o.cls, o.data with
      | .type n, .fields vs =>
        if ["enumerate", "zip", "dict_itemiterator", "dict_reverseitemiterator", "odict_iterator", "itertools.zip_longest", "itertools.pairwise"].contains n && vs[0]? == some (rawInt T) then
          rule "for.unpacks-the-owned-tuple"
          updateField zp 0 .none
      | _, _ => pure ()) Q E s := by
    intro T
    obtain ⟨⟨f0, fb, gz, hf⟩, gti, ⟨c0, d0, gto⟩, g1, g2⟩ := Z
    refine wpAny_bind (wpAny_load gz ?_)
    refine wpAny_ite ?_
    split
    · refine wpAny_bind (wpAny_rule ?_)
      show wpAny _ _ (setField (.ref zp) 0 .none) _ _ _
      exact wpAny_setField_rec gz (by simp) fun g z1 k1 => q g ⟨⟨.none, fb, z1, .inl rfl⟩, k1.extBut _ _ D.TIz gti, ⟨c0, d0, k1.extBut _ _ D.TOz gto⟩, g1.mv fun o e => k1.extBut _ _ D.i1z e, g2.mv fun o e => k1.extBut _ _ D.i2z e⟩ k1
    · exact wpAny_pure same
  unfold letOwnedTupleGo
  cases tg <;> first
    | exact wpAny_pure same
    | (cases v <;> first | exact wpAny_pure same | exact main _)
end
end Nv

set_option Elab.async false
set_option linter.all false
set_option maxRecDepth 100000
set_option maxHeartbeats 1000000
/-! NvZ2: zip as an iterator of the hand layer. -/
namespace Nv
open PySem PySem.Spec PyProof.Rows L2
/-! a list, then a tuple -/
abbrev zmA (h : Heap) (a : Addr) : Heap := h.push { cls := .type "list_iterator", data := .fields #[.ref a, .int 0 0] }
abbrev zmB (h : Heap) (a b : Addr) : Heap := (zmA h a).push { cls := .type "tuple_iterator", data := .fields #[.ref b, .int 0 0] }
abbrev zmC (h : Heap) (a b : Addr) : Heap := (zmB h a b).push { cls := .type "tuple", data := .seq #[.ref h.objs.size, .ref (zmA h a).objs.size] }
abbrev zmD (h : Heap) (a b : Addr) : Heap := (zmC h a b).push { cls := .type "tuple", data := .seq #[.none, .none] }
abbrev zmE (h : Heap) (a b : Addr) : Heap := (zmD h a b).push { cls := .type "zip", data := .fields #[.none, .bool false, .bool false, .ref (zmB h a b).objs.size, .ref (zmC h a b).objs.size] }
theorem meets_zipM (a b : Addr) (xs ys : Array Value) :
    Meets (Builtin.«zip.__new__» ⟨[.type "zip", .ref a, .ref b], []⟩) (fun _ R s => s.heap.IsList a xs ∧ s.heap.IsTuple b ys ∧
      R (.ok (.ret (.ref (zmD s.heap a b).objs.size))) { s with heap := zmE s.heap a b }) :=
  .of_wp fun prog w A R s h => by
    obtain ⟨hp, g, d, tk, os⟩ := s
    obtain ⟨ha, hb, h⟩ := h
    have k1 := sub_zip
    have kA : Heap.IsList (Shared.heap ⟨hp, g, d, tk, os⟩) a xs := ha
    have kB : Heap.IsTuple (Shared.heap ⟨hp.push { cls := .type "list_iterator", data := .fields #[.ref a, .int 0 0] }, g, d, tk, os⟩) b ys := Heap.IsTuple.push hb _
    wp_walk using wpAny_pyIter_list kA, wpAny_pyIter_tuple kB
    exact ⟨_, rfl, h⟩
section
variable {prog : Program} {w : World} {A : Around} {E : Value → Shared → Prop} {s : Shared}
theorem call_zipM {a b : Addr} {xs ys : Array Value} {Q : Value → Shared → Prop} (ha : s.heap.IsList a xs) (hb : s.heap.IsTuple b ys)
    (q : ∀ g, ZSt false true (s.heap.objs.size + 4) (s.heap.objs.size + 2) (s.heap.objs.size + 3) s.heap.objs.size (s.heap.objs.size + 1) a b 0 g → (∀ c o, s.heap.get? c = some o → g.get? c = some o) → Q (.ref (s.heap.objs.size + 4)) { s with heap := g }) :
    wpAny (model prog w) A (call (.type "zip") [.ref a, .ref b]) Q E s := by
  refine callType_new F.called_zip (by decide) (F.typeCall_zip_2 _ _) (F.newCall_zip_2 _ _) (fun ob => F.args_object_init_3 ob _ _) F.entry_zip_new (meets_zipM a b xs ys) ⟨ha, hb, ?_⟩
  have n1 : (zmA s.heap a).objs.size = s.heap.objs.size + 1 := Heap.size_push ..
  have n2 : (zmB s.heap a b).objs.size = s.heap.objs.size + 2 := by rw [Heap.size_push, n1]
  have n3 : (zmC s.heap a b).objs.size = s.heap.objs.size + 3 := by rw [Heap.size_push, n2]
  have n4 : (zmD s.heap a b).objs.size = s.heap.objs.size + 4 := by rw [Heap.size_push, n3]
  have p5 : (zmE s.heap a b).get? (zmD s.heap a b).objs.size = some _ := Heap.get?_push_size _ rfl
  have p4 : (zmE s.heap a b).get? (zmC s.heap a b).objs.size = some _ := Heap.get?_push_of_some _ (Heap.get?_push_size _ rfl)
  have p3 : (zmE s.heap a b).get? (zmB s.heap a b).objs.size = some _ := Heap.get?_push_of_some _ (Heap.get?_push_of_some _ (Heap.get?_push_size _ rfl))
  have p2 : (zmE s.heap a b).get? (zmA s.heap a).objs.size = some _ := Heap.get?_push_of_some _ (Heap.get?_push_of_some _ (Heap.get?_push_of_some _ (Heap.get?_push_size _ rfl)))
  have p1 : (zmE s.heap a b).get? s.heap.objs.size = some _ := Heap.get?_push_of_some _ (Heap.get?_push_of_some _ (Heap.get?_push_of_some _ (Heap.get?_push_of_some _ (Heap.get?_push_size _ rfl))))
  have kk : ∀ c o, s.heap.get? c = some o → (zmE s.heap a b).get? c = some o := fun c o e => Heap.get?_push_of_some _ (Heap.get?_push_of_some _ (Heap.get?_push_of_some _ (Heap.get?_push_of_some _ (Heap.get?_push_of_some _ e))))
  show _ ∧ _
  rw [n2, n3, n4] at p5
  rw [n1, n2] at p3
  rw [n3] at p4
  rw [n1] at p2
  rw [n4]
  exact ⟨⟨_, p5, rfl⟩, q _ ⟨⟨_, _, p5, .inl rfl⟩, p3, ⟨_, _, p4⟩, ⟨_, p1, rfl, rfl⟩, ⟨_, p2, rfl, rfl⟩⟩ kk⟩
/-- of the three kinds -/
theorem call_zipG {t u : Bool} {a b : Addr} {xs ys : Array Value} {Q : Value → Shared → Prop} (htu : t = true → u = true) (huu : t = false → True) (ha : SqAt t s.heap a xs) (hb : SqAt u s.heap b ys)
    (q : ∀ g, ZSt t u (s.heap.objs.size + 4) (s.heap.objs.size + 2) (s.heap.objs.size + 3) s.heap.objs.size (s.heap.objs.size + 1) a b 0 g → (∀ c o, s.heap.get? c = some o → g.get? c = some o) → Q (.ref (s.heap.objs.size + 4)) { s with heap := g }) :
    wpAny (model prog w) A (call (.type "zip") [.ref a, .ref b]) Q E s := by
  cases t with
  | true =>
    cases htu rfl
    exact RZ.call_zipT ha hb fun g z1 z2 z3 z4 z5 _ kk => q g ⟨⟨_, _, z1, .inl rfl⟩, z2, ⟨_, _, z3⟩, z4, z5⟩ kk
  | false =>
    cases u with
    | true => exact call_zipM ha hb q
    | false => exact call_zip_2 ha hb fun g z1 z2 z3 z4 z5 _ kk => q g ⟨⟨_, _, z1, .inl rfl⟩, z2, ⟨_, _, z3⟩, z4, z5⟩ kk
end
def SqK (t : Bool) (K : PySem.W.Frag) (H : Hp) (a : Addr) (xs : List V) : Prop := if t then SqT K H a xs else SqL K H a xs
theorem SqK.at_ {X : Cx} {pins : List (Addr × Obj)} {σ : L2.St} {H : Hp} {s : Shared} {t : Bool} {a : Addr} {xs : List V} (I : Inv X pins σ H s) (h : SqK t X.K H a xs) : ∃ its : List Value, Vals xs its ∧ SqAt t s.heap a its.toArray ∧ a < s.heap.objs.size := by
  cases t
  · obtain ⟨its, rv, p, _⟩ := I.list h
    exact ⟨its, rv, p.isList, p.lt⟩
  · obtain ⟨its, rv, p, _⟩ := I.tuple h
    obtain ⟨o, ho, r⟩ := p
    exact ⟨its, rv, ⟨o, ho, r⟩, Heap.lt_size ho⟩
theorem SqK.inj {X : Cx} {pins : List (Addr × Obj)} {σ : L2.St} {H : Hp} {s : Shared} {t : Bool} {a : Addr} {xs ys : List V} (I : Inv X pins σ H s) (h : SqK t X.K H a xs) (h' : SqK t X.K H a ys) : xs = ys := by
  cases t
  · exact I.list_inj h h'
  · exact I.tuple_inj h h'
/-- the sequences at a and b, the items in new pairs -/
def Itq (t u : Bool) (K : PySem.W.Frag) (a b : Addr) : L2.It :=
  ⟨fun i H => ∃ (xs ys : List V) (x y : V), SqK t K H a xs ∧ SqK u K H b ys ∧ xs[i]? = some x ∧ ys[i]? = some y,
    fun i H v H' => ∃ T x y, v = .ref T ∧ H T = none ∧ H' = upd H T (.tup [x, y]) ∧ (∀ xs, SqK t K H a xs → xs[i]? = some x) ∧ ∀ ys, SqK u K H b ys → ys[i]? = some y,
    fun i H => ∃ xs ys : List V, SqK t K H a xs ∧ SqK u K H b ys ∧ (xs.length ≤ i ∨ ys.length ≤ i)⟩
theorem mem5 {zp ti to_ ia ib c : Addr} (h : c ∈ [zp, ti, to_, ia, ib]) : c = zp ∨ c = ti ∨ c = to_ ∨ c = ia ∨ c = ib := by simpa using h
theorem ZSt.keep {t u : Bool} {zp ti to_ ia ib a b : Addr} {k : Nat} {h g : Heap} (Z : ZSt t u zp ti to_ ia ib a b k h) (f : ∀ c ∈ [zp, ti, to_, ia, ib], ∀ o, h.get? c = some o → g.get? c = some o) : ZSt t u zp ti to_ ia ib a b k g := by
  obtain ⟨⟨f0, fb, gz, hf⟩, gti, ⟨c0, d0, gto⟩, g1, g2⟩ := Z
  exact ⟨⟨f0, fb, f zp (by simp) _ gz, hf⟩, f ti (by simp) _ gti, ⟨c0, d0, f to_ (by simp) _ gto⟩, g1.mv fun o q => f ia (by simp) o q, g2.mv fun o q => f ib (by simp) o q⟩
theorem ZSt.obj {t u : Bool} {zp ti to_ ia ib a b : Addr} {k : Nat} {h : Heap} (Z : ZSt t u zp ti to_ ia ib a b k h) : ∀ c ∈ [zp, ti, to_, ia, ib], ∃ o, h.get? c = some o ∧ ∀ v, o.data ≠ .cell v := fun c hc => by
  obtain ⟨⟨f0, fb, gz, hf⟩, gti, ⟨c0, d0, gto⟩, g1, g2⟩ := Z
  rcases mem5 hc with q | q | q | q | q
  · rw [q]; exact ⟨_, gz, fun v q => nomatch q⟩
  · rw [q]; exact ⟨_, gti, fun v q => nomatch q⟩
  · rw [q]; exact ⟨_, gto, fun v q => nomatch q⟩
  · rw [q]; exact g1.obj
  · rw [q]; exact g2.obj
theorem turn_zq {t u : Bool} {P : Program} {w : World} {K : PySem.W.Frag} {tg : Expr} {a b zp ti to_ ia ib : Addr} (D : ZipApart zp ti to_ ia ib a b) : Turn P w K tg (Itq t u K a b) [zp, ti, to_, ia, ib] zp (fun i h => ZSt t u zp ti to_ ia ib a b i h) where
  mem := by simp
  obj := fun i h Z => Z.obj
  keep := fun i h h' Z f => Z.keep f
  item := by
    intro X hP hw hK hc i pins s σ H E I hf Z hg
    subst hP hw hK
    obtain ⟨xs, ys, x, y, qx, qy, hx, hy⟩ := hg
    obtain ⟨its, rv, p1, _⟩ := qx.at_ I
    obtain ⟨its2, rv2, p2, _⟩ := qy.at_ I
    obtain ⟨v1, e1, r1⟩ := rv.get hx
    obtain ⟨v2, e2, r2⟩ := rv2.get hy
    have lt5 : ∀ c ∈ [zp, ti, to_, ia, ib], c < s.heap.objs.size := fun c hc => by
      obtain ⟨o, e, _⟩ := Z.obj c hc
      exact Heap.lt_size e
    refine zpn_item D Z p1 p2 (x := v1) (y := v2) (by simpa using e1) (by simpa using e2) fun g Z1 hT kk => ?_
    refine ⟨_, rfl, zp_go (s := { s with heap := g }) D Z1 fun g' Z2 sb => ?_⟩
    have hzs : zp < s.heap.objs.size := lt5 zp (by simp)
    have hT2 : g'.get? s.heap.objs.size = some { cls := .type "tuple", data := .seq #[v1, v2] } := (sb.2 _ (Nat.ne_of_gt hzs)).trans hT
    have new : ObjOk X.prog X.w (upd H s.heap.objs.size (.tup [x, y])) g' s.heap.objs.size (.tup [x, y]) := ⟨by show 2 ≤ sizeLine; decide, [v1, v2], .cons r1 (.cons r2 .nil), ⟨_, hT2, rfl, _, rfl⟩⟩
    have I1 : Inv X pins σ (upd H s.heap.objs.size (.tup [x, y])) { s with heap := g' } := I.turnedNew (t' := s.toks) (ch := [zp, ti, to_, ia, ib]) (fun c o hb e => by
      have n1 : c ≠ zp := fun z => hb (by simp [z])
      exact (sb.2 c n1).trans (kk c o n1 (fun z => hb (by simp [z])) (fun z => hb (by simp [z])) (fun z => hb (by simp [z])) e)) hf (Nat.le_refl _) new
    refine ⟨.ref s.heap.objs.size, _, I1, rfl, ⟨_, x, y, rfl, I.hok.fresh (Nat.le_refl _), rfl, fun l hl => by rw [hl.inj I qx]; exact hx, fun l hl => by rw [hl.inj I qy]; exact hy⟩, Z2, fun c hcm => ?_⟩
    rw [upd_ne (Nat.ne_of_lt (lt5 c hcm))]
    exact (hf c hcm).1
  done := by
    intro X hP hw hK hc i pins s σ H E I hf Z hg
    subst hP hw hK
    obtain ⟨xs, ys, qx, qy, hend⟩ := hg
    obtain ⟨its, rv, p1, _⟩ := qx.at_ I
    obtain ⟨its2, rv2, p2, _⟩ := qy.at_ I
    have l1 := rv.length
    have l2 := rv2.length
    have he : its.toArray[i]? = none ∨ its2.toArray[i]? = none := by
      rcases hend with q | q
      · left; simp; omega
      · right; simp; omega
    refine zpn_end (I.ok.hd hc) D Z p1 p2 he fun g kk => ⟨rfl, I.turnedL (t' := s.toks) (ch := [zp, ti, to_, ia, ib]) (fun c o hb e => ?_) hf⟩
    exact kk c o (fun z => hb (by simp [z])) (fun z => hb (by simp [z])) (fun z => hb (by simp [z])) (fun z => hb (by simp [z])) e
  self := fun A i s Q E Z h => by
    obtain ⟨⟨f0, fb, gz, hf⟩, _⟩ := Z
    have hT : s.TypeIs (.ref zp) "zip" := ⟨_, gz, rfl⟩
    refine wpAny_pyIter_slot hT F.slot_zip_iter (wpAny_call_entry F.slot_zip_iter hT F.entry_zip_iter ?_ (F.args_zip_iter_1 _))
    show wpAny _ _ (PySem.ret (.ref zp)) _ _ s
    exact wpAny_pure ⟨_, rfl, "zip", _, hT, F.slot_zip_next.lookup, h⟩
def iZipQ (K : PySem.W.Frag) (ta : TA) : TI := fun σ H R => ta σ H fun vs H1 => ∃ (t u : Bool) (a b : Addr) (xs ys : List V), (t = true → u = true) ∧ vs = [.ref a, .ref b] ∧ SqK t K H1 a xs ∧ SqK u K H1 b ys ∧ R (Itq t u K a b) H1
theorem pi_zipQ {X : Cx} {e e2 : Expr} {ta : TA} {p pos : Pos} {tg : Expr} (hg : Gl X "zip") (hm : X.mg "zip" = none) (ha : PA X [e, e2] ta)
    (hs : starEach [e, e2] X.env = (false, eval e X.env) :: starEach [e2] X.env := by rfl) (hpl : (backTo pos (starEach [e2] X.env)).any (·.1) = false := by rfl) :
    PI X tg (.Call (.Name "zip" p) [e, e2] [] pos) (iZipQ X.K ta) := by
  refine ⟨fun pins s σ H R I h => ?_⟩
  refine Call_ (ld_blt I hg hm PyProof.Rows.boot_zip (PyProof.Rows.callWith_type1 (thn (ha.run pos pins s σ H _ I h) fun us s1 ⟨vs, H1, I1, r1, q1⟩ => ?_) hs hpl))
  obtain ⟨t, u, a, b, xs, ys, htu, ex, qx, qy, q⟩ := q1
  subst ex
  cases r1 with
  | cons ra rr =>
    cases rr with
    | cons rb rr =>
      cases rr
      cases ra
      cases rb
      have fr : ∀ c, c ∈ [s1.heap.objs.size + 4, s1.heap.objs.size + 2, s1.heap.objs.size + 3, s1.heap.objs.size, s1.heap.objs.size + 1] → FpOk X pins H1 c := fun c hcm => by
        have hle : s1.heap.objs.size ≤ c := by
          rcases mem5 hcm with z | z | z | z | z
          · rw [z]; exact Nat.le_add_right s1.heap.objs.size 4
          · rw [z]; exact Nat.le_add_right s1.heap.objs.size 2
          · rw [z]; exact Nat.le_add_right s1.heap.objs.size 3
          · rw [z]; exact Nat.le_refl s1.heap.objs.size
          · rw [z]; exact Nat.le_add_right s1.heap.objs.size 1
        exact I1.fpOk hle (I1.hok.fresh hle)
      obtain ⟨its, rv, p1, lt1⟩ := qx.at_ I1
      obtain ⟨its2, rv2, p2, lt2⟩ := qy.at_ I1
      refine call_zipG htu (fun _ => trivial) p1 p2 fun g Z kk => ?_
      have D := PySem.W.ktu_apart s1.heap.objs.size a b lt1 lt2
      have I2 : Inv X pins σ H1 { s1 with heap := g } := I1.kept (t' := s1.toks) kk
      have T := turn_zq (t := t) (u := u) (P := X.prog) (w := X.w) (K := X.K) (tg := tg) D
      exact T.self _ 0 _ _ _ Z ⟨s1.heap.objs.size + 4, [s1.heap.objs.size + 4, s1.heap.objs.size + 2, s1.heap.objs.size + 3, s1.heap.objs.size, s1.heap.objs.size + 1], _, _, H1, rfl, I2, T, Z, fr, q⟩
end Nv

set_option Elab.async false
set_option linter.all false
set_option maxRecDepth 100000
/-! Nv4: the readings of expressions, their law. -/
namespace Nv
open PySem L2

/-! ### what a def promises -/
inductive ArgsOk (K : PySem.W.Frag) (F H : Hp) : List Bool → List V → List D → Prop
  | nil : ArgsOk K F H [] [] []
  | im {v : V} {d : D} {ms vs ds} : Rp K F v d → ArgsOk K F H ms vs ds → ArgsOk K F H (false :: ms) (v :: vs) (d :: ds)
  | mu {a : Addr} {o : HO} {d : D} {ms vs ds} : F a = none → H a = some o → Cont K F o d → ArgsOk K F H ms vs ds → ArgsOk K F H (true :: ms) (.ref a :: vs) (d :: ds)
inductive OutsOk (K : PySem.W.Frag) (F H : Hp) : List Bool → List V → List D → Prop
  | nil : OutsOk K F H [] [] []
  | im {v : V} {ms vs ds} : OutsOk K F H ms vs ds → OutsOk K F H (false :: ms) (v :: vs) ds
  | mu {a : Addr} {o : HO} {d : D} {ms vs ds} : F a = none → H a = some o → Cont K F o d → OutsOk K F H ms vs ds → OutsOk K F H (true :: ms) (.ref a :: vs) (d :: ds)
def ownAddrs : List Bool → List V → List Addr
  | true :: ms, .ref a :: vs => a :: ownAddrs ms vs
  | _ :: ms, _ :: vs => ownAddrs ms vs
  | _, _ => []
def EndF (K : PySem.W.Frag) (cls : Nat → Value) (ms : List Bool) (vs : List V) (F H : Hp) (r : Fr) (Q : VK) (E : XK) : Prop := match r with
  | .ok d outs => ∀ v F' H', Stp (· ∈ ownAddrs ms vs) F H F' H' → Rp K F' v d → OutsOk K F' H' ms vs outs → Q v H'
  | .exc c outs => ∀ F' H', Stp (· ∈ ownAddrs ms vs) F H F' H' → OutsOk K F' H' ms vs outs → E (cls c) none H'
  | .stuck => False
def spF (K : PySem.W.Frag) (cls : Nat → Value) (ms : List Bool) (fn : Fn) : Sp := fun vs H Q E => ∃ F ds, Ex F H ∧ ArgsOk K F H ms vs ds ∧ (ownAddrs ms vs).Nodup ∧ EndF K cls ms vs F H (fn ds) Q E

/-! ### readings -/
def tTgs : List Nat → TGs
  | [] => gNil
  | i :: is => gCons (gName i) (tTgs is)
def tTgN (K : PySem.W.Frag) : List Nat → TG
  | _ :: i :: is => gTup K 2 (gCons (gName i) (gCons (gTup K is.length (tTgs is)) gNil))
  | _ => fun _ _ _ _ => False
def tTg (K : PySem.W.Frag) (tg : List Nat) (one : Bool) : TG := if one then (match tg with | [i] => gName i | _ => fun _ _ _ _ => False) else if tg.head? = some 1000000 then tTgN K tg else gTup K tg.length (tTgs tg)
def iSeq (K : PySem.W.Frag) (tl : TE) : TI := fun σ H R => tl σ H fun x H1 => ∃ a, x = .ref a ∧ (((∃ xs, SqL K H1 a xs) ∧ R (Itl K a) H1) ∨ ((∃ xs, SqT K H1 a xs) ∧ R (Itt K a) H1))
def rLeLe : R2 := rI0 fun i j => .bl (decide (i ≤ j))
abbrev E0F : XK := fun _ _ _ => False

/-- whose method it is -/
def mthTy : Op → String
  | .index => "list"
  | _ => "str"
/-- where the module's constants and defs stand -/
structure Gv where
  gl : Nat → V
  fa : Nat → V
def tCs : List V → TA
  | [] => tNil
  | v :: vs => tCons (tC v) (tCs vs)
/-- the arguments, then a new dict -/
def tApN (ta : TA) (t : Bool) : TA := fun σ H Q => ta σ H fun vs H1 => ∀ p, H1 p = none → Q (vs ++ [.ref p]) (upd H1 p (if t then .dT [] else .dK []))
/-- [x[k] for k in x] -/
def tValsE (K : PySem.W.Frag) (i t : Nat) : TE := tLockE (tLc (iKeys (tVar i)) (tTg K [t] true) tYes (tDGet (tVar i) (tVar t)) [t])
def tDInB (neg : Bool) (tk td : TE) : TE := if neg then tDNotIn tk td else tDIn tk td
mutual
def tE (K : PySem.W.Frag) (cls : Nat → Value) (G : Gam) (gv : Gv) (E0 : XK) : E → TE
  | .var i => tVar i
  | .move i => tVar i
  | .cst d => (match d with
    | .none => tC .non
    | .bool b => tC (.bl b)
    | .int i => tC (.int i)
    | .str x => tC (.str x)
    | _ => fun _ _ _ => False)
  | .glob n => tC (gv.gl n)
  | .op k as => tCB (rd K k) (tAs K cls G gv E0 as)
  | .and a b => tAndV (tE K cls G gv E0 a) (tE K cls G gv E0 b)
  | .or a b => tOrV (tE K cls G gv E0 a) (tE K cls G gv E0 b)
  | .orT a b => tOrT K (tE K cls G gv E0 a) (tE K cls G gv E0 b)
  | .not a => tNotV (tE K cls G gv E0 a)
  | .ite c a b => tIf (tT K cls G gv E0 c) (tE K cls G gv E0 a) (tE K cls G gv E0 b)
  | .leLe a b c => tChain rLeLe rLeLe (tE K cls G gv E0 a) (tE K cls G gv E0 b) (tE K cls G gv E0 c)
  | .tup as => tTup (tAs K cls G gv E0 as)
  | .lst as => tLst (tAs K cls G gv E0 as)
  | .call f as => (match G.fn f with
    | some (ms, fn) => tCall (spF K cls ms fn) [] E0 (tAs K cls G gv E0 as)
    | none => fun _ _ _ => False)
  | .sel fs ix as => fun σ H Q => tOp (rIx K) (tLst (tCs (fs.map gv.fa))) (tE K cls G gv E0 ix) σ H fun y H1 => ∃ n ms fn, n ∈ fs ∧ y = gv.fa n ∧ G.fn n = some (ms, fn) ∧ tAs K cls G gv E0 as σ H1 fun vs H2 => spF K cls ms fn (vs ++ []) H2 Q E0
  | .pop i e => tBM K "list" rPopAt (tVar i) (tCons (tE K cls G gv E0 e) tNil)
  | .slB a lo hi => tSl (fun x l u H Q => rSlL K x l u H Q ∨ rSlA K x l u H Q) (tA K cls G gv E0 a) (tPart (tE K cls G gv E0 lo)) (tPart (tE K cls G gv E0 hi))
  | .mth k a as => tBM K (mthTy k) (fun x xs H Q => rd K k (x :: xs) H Q) (tA K cls G gv E0 a) (tAs K cls G gv E0 as)
  | .dget a k => tDGet (tA K cls G gv E0 a) (tE K cls G gv E0 k)
  | .din neg k a => tDInB neg (tE K cls G gv E0 k) (tA K cls G gv E0 a)
  | .vals i t => tValsE K i t
  | .lcO elt tg one en i cond => tLc (if en then iEnum K (tCons (tVar i) tNil) else iSeq K (tVar i)) (tTg K tg one) (tO K cls G gv cond) (tE K cls G gv E0F elt) tg
  | .callF f as => (match G.fn f with
    | some (ms, fn) => tCall (spF K cls ms fn) [] E0 (tAs K cls G gv E0 as)
    | none => fun _ _ _ => False)
  | .callN t f as => (match G.fn f with
    | some (ms, fn) => tCall (spF K cls ms fn) [] E0 (tApN (tAs K cls G gv E0 as) t)
    | none => fun _ _ _ => False)
  | .lc elt tg one it cond => tLc (tI K cls G gv E0 it) (tTg K tg one) (tO K cls G gv cond) (tE K cls G gv E0F elt) tg
def tT (K : PySem.W.Frag) (cls : Nat → Value) (G : Gam) (gv : Gv) (E0 : XK) : E → TT
  | .and a b => tAnd (tT K cls G gv E0 a) (tT K cls G gv E0 b)
  | .or a b => tOr (tT K cls G gv E0 a) (tT K cls G gv E0 b)
  | .not a => tNot (tT K cls G gv E0 a)
  | .var i => tB (tVar i)
  | .op k as => tB (tCB (rd K k) (tAs K cls G gv E0 as))
  | .leLe a b c => tB (tChain rLeLe rLeLe (tE K cls G gv E0 a) (tE K cls G gv E0 b) (tE K cls G gv E0 c))
  | .call f as => (match G.fn f with
    | some (ms, fn) => tB (tCall (spF K cls ms fn) [] E0 (tAs K cls G gv E0 as))
    | none => fun _ _ _ => False)
  | .din neg k a => tB (tDInB neg (tE K cls G gv E0 k) (tA K cls G gv E0 a))
  | _ => fun _ _ _ => False
def tO (K : PySem.W.Frag) (cls : Nat → Value) (G : Gam) (gv : Gv) : Option E → TT
  | none => tYes
  | some c => tT K cls G gv E0F c
def tA (K : PySem.W.Frag) (cls : Nat → Value) (G : Gam) (gv : Gv) (E0 : XK) : A → TE
  | .imm e => tE K cls G gv E0 e
  | .own i => tVar i
def tAs (K : PySem.W.Frag) (cls : Nat → Value) (G : Gam) (gv : Gv) (E0 : XK) : List A → TA
  | [] => tNil
  | a :: as => tCons (tA K cls G gv E0 a) (tAs K cls G gv E0 as)
def tI (K : PySem.W.Frag) (cls : Nat → Value) (G : Gam) (gv : Gv) (E0 : XK) : It → TI
  | .seq a => iSeq K (tA K cls G gv E0 a)
  | .rng a => iRng1 (tCons (tA K cls G gv E0 a) tNil)
  | .rng2 a b => iRng2 (tCons (tA K cls G gv E0 a) (tCons (tA K cls G gv E0 b) tNil))
  | .zip a b => iZipQ K (tCons (tA K cls G gv E0 a) (tCons (tA K cls G gv E0 b) tNil))
  | .enum a => iEnum K (tCons (tA K cls G gv E0 a) tNil)
  | .dk i => iKeys (tVar i)
end
end Nv

set_option Elab.async false
set_option linter.all false
set_option maxRecDepth 100000
/-! Nv5: the law of expressions. -/
namespace Nv
open PySem L2

section
variable {K : PySem.W.Frag} {M : Addr → Prop} {F H F' H' : Hp} {env : En} {σ : L2.St}

/-! ### the slots -/
theorem good_step (g : Good K M env σ F H) (s : Stp (fun _ => False) F H F' H') : Good K M env σ F' H' := by
  refine ⟨s.x, g.len, fun i d e => ?_, fun i d e => ?_, g.sep, fun a h => s.t a (g.there a h)⟩
  · obtain ⟨v, h1, h2⟩ := g.im i d e
    exact ⟨v, h1, h2.mono s.f⟩
  · obtain ⟨a, o, h1, h2, h3, h4, h5⟩ := g.mu i d e
    exact ⟨a, o, h1, h2, s.n a (fun z => z) (by rw [h4]; exact fun z => nomatch z) h3, s.k a o (fun z => z) h4, h5.mono s.f⟩
theorem good_slots {env' : En} {σ' : L2.St} (g : Good K M env σ F H) (hl : σ'.length = env'.length) (h : ∀ (i : Nat) (s : Sl), env'[i]? = some s → s ≠ .no → env[i]? = some s ∧ σ'[i]? = σ[i]?) : Good K M env' σ' F H := by
  refine ⟨g.ex, hl, fun i d e => ?_, fun i d e => ?_, fun i j di dj a e1 e2 h1 h2 => ?_, g.there⟩
  · obtain ⟨h1, h2⟩ := h i _ e (fun z => nomatch z)
    rw [h2]
    exact g.im i d h1
  · obtain ⟨h1, h2⟩ := h i _ e (fun z => nomatch z)
    rw [h2]
    exact g.mu i d h1
  · obtain ⟨h3, h4⟩ := h i _ e1 (fun z => nomatch z)
    obtain ⟨h5, h6⟩ := h j _ e2 (fun z => nomatch z)
    rw [h4] at h1
    rw [h6] at h2
    exact g.sep i j di dj a h3 h5 h1 h2
theorem good_set (g : Good K M env σ F H) {i : Nat} {v : V} {d : D} (r : Rp K F v d) : Good K M (setE env i d) (σ.set i (some v)) F H := by
  unfold setE
  have hl : (σ.set i (some v)).length = (env.set i (Sl.im d)).length := by rw [List.length_set, List.length_set]; exact g.len
  by_cases hi : i < env.length
  · have hi' : i < σ.length := by rw [g.len]; exact hi
    refine ⟨g.ex, hl, fun j e h => ?_, fun j e h => ?_, fun j k dj dk a e1 e2 h1 h2 => ?_, g.there⟩
    · by_cases hj : i = j
      · subst hj
        rw [List.getElem?_set_self hi] at h
        cases h
        exact ⟨v, List.getElem?_set_self hi', r⟩
      · rw [List.getElem?_set_ne hj] at h
        rw [List.getElem?_set_ne hj]
        exact g.im j e h
    · by_cases hj : i = j
      · subst hj
        rw [List.getElem?_set_self hi] at h
        cases h
      · rw [List.getElem?_set_ne hj] at h
        rw [List.getElem?_set_ne hj]
        exact g.mu j e h
    · by_cases hj : i = j
      · subst hj
        rw [List.getElem?_set_self hi] at e1
        cases e1
      · by_cases hk : i = k
        · subst hk
          rw [List.getElem?_set_self hi] at e2
          cases e2
        · rw [List.getElem?_set_ne hj] at e1 h1
          rw [List.getElem?_set_ne hk] at e2 h2
          exact g.sep j k dj dk a e1 e2 h1 h2
  · have hi' : ¬ i < σ.length := by rw [g.len]; exact hi
    rw [List.set_eq_of_length_le (by omega), List.set_eq_of_length_le (by omega)]
    exact g
/-- an owned slot: a new owned object, or a new content of the same -/
theorem good_setM {i : Nat} {a : Addr} {o : HO} {d : D} {M' : Addr → Prop} (g : Good K M env σ F H) (hM : ∀ p, M p → M' p) (hM' : ∀ p, M' p → M p ∨ p = a) (ha : M' a) (hF : F a = none) (hH : H a = some o) (hc : Cont K F o d)
    (hs : ∀ (j : Nat) (dj : D), j ≠ i → env[j]? = some (Sl.mu dj) → σ[j]? ≠ some (some (V.ref a))) : Good K M' (setM env i d) (σ.set i (some (.ref a))) F H := by
  unfold setM
  have hl : (σ.set i (some (V.ref a))).length = (env.set i (Sl.mu d)).length := by rw [List.length_set, List.length_set]; exact g.len
  have ht : ∀ p, M' p → H p ≠ none := fun p hp => by
    rcases hM' p hp with z | z
    · exact g.there p z
    · rw [z, hH]; exact fun z => nomatch z
  by_cases hi : i < env.length
  · have hi' : i < σ.length := by rw [g.len]; exact hi
    refine ⟨g.ex, hl, fun j e h => ?_, fun j e h => ?_, fun j k dj dk b e1 e2 h1 h2 => ?_, ht⟩
    · by_cases hj : i = j
      · subst hj
        rw [List.getElem?_set_self hi] at h
        cases h
      · rw [List.getElem?_set_ne hj] at h
        rw [List.getElem?_set_ne hj]
        exact g.im j e h
    · by_cases hj : i = j
      · subst hj
        rw [List.getElem?_set_self hi] at h
        cases h
        exact ⟨a, o, List.getElem?_set_self hi', ha, hF, hH, hc⟩
      · rw [List.getElem?_set_ne hj] at h
        rw [List.getElem?_set_ne hj]
        obtain ⟨b, u, h1, h2, h3⟩ := g.mu j e h
        exact ⟨b, u, h1, hM _ h2, h3⟩
    · by_cases hj : i = j
      · subst hj
        rw [List.getElem?_set_self hi'] at h1
        cases h1
        by_cases hk : i = k
        · exact hk
        · rw [List.getElem?_set_ne hk] at e2 h2
          exact absurd h2 (hs k dk (fun z => hk z.symm) e2)
      · rw [List.getElem?_set_ne hj] at e1 h1
        by_cases hk : i = k
        · subst hk
          rw [List.getElem?_set_self hi'] at h2
          cases h2
          exact absurd h1 (hs j dj (fun z => hj z.symm) e1)
        · rw [List.getElem?_set_ne hk] at e2 h2
          exact g.sep j k dj dk b e1 e2 h1 h2
  · have hi' : ¬ i < σ.length := by rw [g.len]; exact hi
    rw [List.set_eq_of_length_le (by omega), List.set_eq_of_length_le (by omega)]
    exact ⟨g.ex, g.len, g.im, fun j e h => by
      obtain ⟨b, u, h1, h2, h3⟩ := g.mu j e h
      exact ⟨b, u, h1, hM _ h2, h3⟩, g.sep, ht⟩
/-- an owned object is known from now on -/
theorem good_freezeAt {i : Nat} {a : Addr} {o : HO} {d : D} {v : V} (g : Good K M env σ F H) (hF : F a = none) (hH : H a = some o) (hv : σ[i]? = some (some (.ref a))) (r : Rp K (upd F a o) (.ref a) d)
    (hs : ∀ (j : Nat) (dj : D), j ≠ i → env[j]? = some (Sl.mu dj) → σ[j]? ≠ some (some (V.ref a))) : Good K M (setE env i d) σ (upd F a o) H := by
  unfold setE
  have hx : Ex F (upd F a o) := Ex.new hF
  refine ⟨fun b u q => ?_, by rw [List.length_set]; exact g.len, fun j e h => ?_, fun j e h => ?_, fun j k dj dk b e1 e2 h1 h2 => ?_, g.there⟩
  · by_cases hb : b = a
    · subst hb
      rw [upd_same] at q
      rw [← q]
      exact hH
    · rw [upd_ne hb] at q
      exact g.ex _ _ q
  · by_cases hj : i = j
    · subst hj
      rw [List.getElem?_set] at h
      simp only [if_true] at h
      split at h
      · cases h
        exact ⟨_, hv, r⟩
      · cases h
    · rw [List.getElem?_set_ne hj] at h
      obtain ⟨w, h1, h2⟩ := g.im j e h
      exact ⟨w, h1, h2.mono hx⟩
  · by_cases hj : i = j
    · subst hj
      rw [List.getElem?_set] at h
      simp only [if_true] at h
      split at h <;> cases h
    · rw [List.getElem?_set_ne hj] at h
      obtain ⟨b, u, h1, h2, h3, h4, h5⟩ := g.mu j e h
      have hb : b ≠ a := fun z => hs j e (fun w => hj w.symm) h (by rw [h1, z])
      exact ⟨b, u, h1, h2, by rw [upd_ne hb]; exact h3, h4, h5.mono hx⟩
  · have ne : ∀ (k : Nat) (dk : D), (env.set i (Sl.im d))[k]? = some (Sl.mu dk) → env[k]? = some (Sl.mu dk) := fun k dk h => by
      by_cases hj : i = k
      · subst hj
        rw [List.getElem?_set] at h
        simp only [if_true] at h
        split at h <;> cases h
      · rw [List.getElem?_set_ne hj] at h
        exact h
    exact g.sep j k dj dk b (ne j dj e1) (ne k dk e2) h1 h2

/-! ### killed slots -/
theorem kill_get (is : List Nat) : ∀ (env : En) (i : Nat), (killE env is)[i]? = if i ∈ is then (env[i]?).map (fun _ => Sl.no) else env[i]? := by
  induction is with
  | nil => intro env i; simp [killE]
  | cons j is ih =>
    intro env i
    have e : killE env (j :: is) = killE (env.set j .no) is := rfl
    rw [e, ih]
    by_cases hi : i ∈ is
    · rw [if_pos hi, if_pos (List.mem_cons_of_mem _ hi)]
      by_cases hj : j = i
      · subst hj
        rw [List.getElem?_set]
        simp only [if_true]
        split
        · rename_i h; rw [List.getElem?_eq_getElem h]; rfl
        · rename_i h; rw [List.getElem?_eq_none (by omega)]
      · rw [List.getElem?_set_ne hj]
    · rw [if_neg hi]
      by_cases hj : j = i
      · subst hj
        rw [if_pos List.mem_cons_self, List.getElem?_set]
        simp only [if_true]
        split
        · rename_i h; rw [List.getElem?_eq_getElem h]; rfl
        · rename_i h; rw [List.getElem?_eq_none (by omega)]; rfl
      · rw [List.getElem?_set_ne hj, if_neg]
        simp only [List.mem_cons, not_or]
        exact ⟨fun z => hj z.symm, hi⟩
theorem kill_len (is : List Nat) : ∀ (env : En), (killE env is).length = env.length := by
  induction is with
  | nil => intro env; rfl
  | cons j is ih =>
    intro env
    have e : killE env (j :: is) = killE (env.set j .no) is := rfl
    rw [e, ih, List.length_set]
theorem wipe_get {i : Nat} : ∀ {is : List Nat}, i ∉ is → (wipe σ is)[i]? = σ[i]?
  | [], _ => rfl
  | j :: is, h => by
    have h' : i ≠ j ∧ i ∉ is := by simpa using h
    unfold wipe
    rw [List.getElem?_set_ne (Ne.symm h'.1), wipe_get h'.2]
theorem good_kill (g : Good K M env σ F H) (is : List Nat) : Good K M (killE env is) σ F H := by
  refine good_slots g (by rw [kill_len]; exact g.len) fun i s h hs => ?_
  rw [kill_get] at h
  by_cases hi : i ∈ is
  · rw [if_pos hi] at h
    obtain ⟨u, h1, h2⟩ := Option.map_eq_some_iff.mp h
    exact absurd h2.symm hs
  · rw [if_neg hi] at h
    exact ⟨h, rfl⟩
theorem good_wipe (g : Good K M env σ F H) (is : List Nat) : Good K M (killE env is) (wipe σ is) F H := by
  refine good_slots g (by rw [kill_len, wipe_length]; exact g.len) fun i s h hs => ?_
  rw [kill_get] at h
  by_cases hi : i ∈ is
  · rw [if_pos hi] at h
    obtain ⟨u, h1, h2⟩ := Option.map_eq_some_iff.mp h
    exact absurd h2.symm hs
  · rw [if_neg hi] at h
    exact ⟨h, wipe_get hi⟩

/-! ### targets -/
theorem wipe_set {i : Nat} {x : Option V} : ∀ {is : List Nat}, i ∈ is → wipe (σ.set i x) is = wipe σ is := by
  intro is
  induction is with
  | nil => intro h; cases h
  | cons j is ih =>
    intro h
    unfold wipe
    by_cases hj : i = j
    · subst hj
      by_cases hm : i ∈ is
      · rw [ih hm]
      · have : ∀ is : List Nat, i ∉ is → (wipe (σ.set i x) is).set i none = (wipe σ is).set i none := by
          intro is
          induction is with
          | nil => intro _; unfold wipe; rw [List.set_set]
          | cons k is ih2 =>
            intro hk
            have hk' : i ≠ k ∧ i ∉ is := by simpa using hk
            unfold wipe
            rw [List.set_comm _ _ (Ne.symm hk'.1), ih2 hk'.2, List.set_comm _ _ hk'.1]
        exact this is hm
    · have hm : i ∈ is := by
        rcases List.mem_cons.mp h with z | z
        · exact absurd z hj
        · exact z
      rw [ih hm]
theorem tgs_ok : ∀ (tg : List Nat) (ds : List D) (vs : List V) (env : En) (σ : L2.St) (Q : L2.St → Hp → Prop), tg.length = ds.length → Good K M env σ F H → RpA K F vs ds →
    (∀ σ', Good K M ((tg.zip ds).foldl (fun e p => setE e p.1 p.2) env) σ' F H → (∀ is : List Nat, (∀ i ∈ tg, i ∈ is) → wipe σ' is = wipe σ is) → Q σ' H) → tTgs tg vs σ H Q
  | [], [], vs, env, σ, Q, _, g, r, h => by
    cases r
    exact ⟨rfl, h σ g fun _ _ => rfl⟩
  | i :: tg, d :: ds, vs, env, σ, Q, hl, g, r, h => by
    cases r with
    | cons r1 r2 =>
      refine ⟨_, _, rfl, ?_⟩
      refine tgs_ok tg ds _ (setE env i d) _ Q (by simpa using hl) (good_set g r1) r2 fun σ' g' hw => h σ' g' fun is his => ?_
      rw [hw is fun j hj => his j (List.mem_cons_of_mem _ hj)]
      exact wipe_set (his i List.mem_cons_self)
  | [], _ :: _, _, _, _, _, hl, _, _, _ => by cases hl
  | _ :: _, [], _, _, _, _, hl, _, _, _ => by cases hl
theorem tg_ok {tg : List Nat} {one : Bool} {d : D} {v : V} {env' : En} {Q : L2.St → Hp → Prop} (g : Good K M env σ F H) (r : Rp K F v d) (e : tgE tg one d env = some env')
    (h : ∀ σ', Good K M env' σ' F H → (∀ is : List Nat, (∀ i ∈ tg, i ∈ is) → wipe σ' is = wipe σ is) → Q σ' H) : tTg K tg one v σ H Q := by
  unfold tgE at e
  unfold tTg
  cases one with
  | true =>
    simp only [if_true] at e ⊢
    split at e
    · rename_i i
      cases e
      exact h _ (good_set g r) fun is his => wipe_set (his i List.mem_cons_self)
    · cases e
  | false =>
    simp only [Bool.false_eq_true, if_false] at e ⊢
    split at e
    · rename_i hm
      rw [if_pos hm]
      unfold tgN at e
      split at e
      · rename_i m i is x ds
        split at e
        · rename_i hl
          cases e
          cases r with
          | tup h1 h2 h3 =>
            cases h3 with
            | cons r1 h3 =>
              cases h3 with
              | cons r2 h4 =>
                cases h4
                cases r2 with
                | tup k1 k2 k3 =>
                  refine ⟨_, _, rfl, ex_t g.ex h1.1, rfl, _, _, rfl, _, _, rfl, ?_⟩
                  refine ⟨_, _, rfl, ex_t g.ex k1.1, by rw [k3.length, hl], ?_⟩
                  refine tgs_ok is ds _ (setE env i x) _ _ hl.symm (good_set g r1) k3 fun σ' g' hw => ⟨rfl, h σ' g' fun js his => ?_⟩
                  rw [hw js fun j hj => his j (List.mem_cons_of_mem _ (List.mem_cons_of_mem _ hj))]
                  exact wipe_set (his i (List.mem_cons_of_mem _ List.mem_cons_self))
        · cases e
      · cases e
    rename_i hm
    rw [if_neg hm]
    split at e
    · rename_i ds
      split at e
      · rename_i hl
        cases e
        cases r with
        | tup h1 h2 h3 =>
          refine ⟨_, _, rfl, ex_t g.ex h1.1, by rw [h3.length, hl], ?_⟩
          exact tgs_ok tg ds _ env σ Q hl.symm g h3 h
      · cases e
    · cases e
end
end Nv

set_option Elab.async false
set_option linter.all false
set_option maxRecDepth 100000
/-! Nv6: the law of expressions, the steps. -/
namespace Nv
open PySem L2

def frE : E → Bool
  | .lst _ => true
  | .lc _ _ _ _ _ => true
  | .vals _ _ => true
  | .callF _ _ => true
  | .lcO _ _ _ _ _ _ => true
  | .op k _ => freshOp k
  | .slB _ _ _ => true
  | .mth k _ _ => freshOp k
  | _ => false

section
variable (K : PySem.W.Frag) (cls : Nat → Value) (M : Addr → Prop) (E0 : XK)
def PostE (fr : Bool) (σ : L2.St) (F H : Hp) (r : R D) (Q : VK) : Prop := match r with
  | .ok d env' => ∀ v F' H', Stp M F H F' H' → Good K M env' σ F' H' → Res K fr H F' H' v d → Q v H'
  | .exc c env' => ∀ F' H', Stp M F H F' H' → Good K M env' σ F' H' → E0 (cls c) none H'
  | .stuck => False
def PostT (σ : L2.St) (F H : Hp) (r : R D) (Q : Bool → Hp → Prop) : Prop := match r with
  | .ok d env' => ∃ b, d = .bool b ∧ ∀ F' H', Stp M F H F' H' → Good K M env' σ F' H' → Q b H'
  | .exc c env' => ∀ F' H', Stp M F H F' H' → Good K M env' σ F' H' → E0 (cls c) none H'
  | .stuck => False
def OpdOk (σ : L2.St) (F : Hp) : Sum D Nat → V → Prop
  | .inl d, v => Rp K F v d
  | .inr i, v => σ[i]? = some (some v)
def PostA (σ : L2.St) (F H : Hp) (r : R (Sum D Nat)) (Q : VK) : Prop := match r with
  | .ok s env' => ∀ v F' H', Stp M F H F' H' → Good K M env' σ F' H' → OpdOk K σ F' s v → Q v H'
  | .exc c env' => ∀ F' H', Stp M F H F' H' → Good K M env' σ F' H' → E0 (cls c) none H'
  | .stuck => False
def PostAs (σ : L2.St) (F H : Hp) (r : R (List (Sum D Nat))) (Q : List V → Hp → Prop) : Prop := match r with
  | .ok ss env' => ∀ vs F' H', Stp M F H F' H' → Good K M env' σ F' H' → Paired (OpdOk K σ F') ss vs → Q vs H'
  | .exc c env' => ∀ F' H', Stp M F H F' H' → Good K M env' σ F' H' → E0 (cls c) none H'
  | .stuck => False
/-- an iterator that yields data -/
def ItOk (J : L2.It) (ds : List D) (F : Hp) : Prop := ∀ F' H', Ex F F' → Ex F' H' →
  (∀ (i : Nat) (d : D), ds[i]? = some d → J.go i H' ∧ ∀ x H2, J.yld i H' x H2 → ∃ F2, Stp (fun _ => False) F' H' F2 H2 ∧ Rp K F2 x d) ∧ (∀ i : Nat, ds.length ≤ i → J.stop i H')
def PostI (σ : L2.St) (F H : Hp) (r : R (List D)) (Q : L2.It → Hp → Prop) : Prop := match r with
  | .ok ds env' => ∀ J F' H', Stp M F H F' H' → Good K M env' σ F' H' → ItOk K J ds F' → ds.length ≤ sizeLine → Q J H'
  | .exc c env' => ∀ F' H', Stp M F H F' H' → Good K M env' σ F' H' → E0 (cls c) none H'
  | .stuck => False
end

section
variable {K : PySem.W.Frag} {cls : Nat → Value} {M : Addr → Prop} {E0 : XK} {F H F1 H1 F' H' : Hp} {env : En} {σ : L2.St} {fr : Bool}
theorem not_there {s : Stp M F H F1 H1} {p : Addr} (h : H1 p = none) : H p = none := by
  cases q : H p with
  | none => rfl
  | some o => exact absurd h (s.t p (by rw [q]; exact fun z => nomatch z))
theorem Res.back {v : V} {d : D} (s : Stp M F H F1 H1) (r : Res K fr H1 F' H' v d) : Res K fr H F' H' v d := by
  cases fr with
  | false => exact r
  | true =>
    cases d with
    | list es =>
      obtain ⟨p, vs, ds, h1, h2, h3, h4⟩ := r
      exact ⟨p, vs, ds, h1, h2, not_there (s := s) h3, h4⟩
    | _ => exact r
theorem PostE.shift {r : R D} {Q : VK} (s : Stp M F H F1 H1) (p : PostE K cls M E0 fr σ F H r Q) : PostE K cls M E0 fr σ F1 H1 r Q := by
  cases r with
  | ok d env' => exact fun v F' H' s' g q => p v F' H' (s.trans s') g (q.back s)
  | exc c env' => exact fun F' H' s' g => p F' H' (s.trans s') g
  | stuck => exact p
theorem PostT.shift {r : R D} {Q : Bool → Hp → Prop} (s : Stp M F H F1 H1) (p : PostT K cls M E0 σ F H r Q) : PostT K cls M E0 σ F1 H1 r Q := by
  cases r with
  | ok d env' =>
    obtain ⟨b, e, p⟩ := p
    exact ⟨b, e, fun F' H' s' g => p F' H' (s.trans s') g⟩
  | exc c env' => exact fun F' H' s' g => p F' H' (s.trans s') g
  | stuck => exact p
theorem PostA.shift {r : R (Sum D Nat)} {Q : VK} (s : Stp M F H F1 H1) (p : PostA K cls M E0 σ F H r Q) : PostA K cls M E0 σ F1 H1 r Q := by
  cases r with
  | ok d env' => exact fun v F' H' s' g q => p v F' H' (s.trans s') g q
  | exc c env' => exact fun F' H' s' g => p F' H' (s.trans s') g
  | stuck => exact p
theorem PostAs.shift {r : R (List (Sum D Nat))} {Q : List V → Hp → Prop} (s : Stp M F H F1 H1) (p : PostAs K cls M E0 σ F H r Q) : PostAs K cls M E0 σ F1 H1 r Q := by
  cases r with
  | ok d env' => exact fun v F' H' s' g q => p v F' H' (s.trans s') g q
  | exc c env' => exact fun F' H' s' g => p F' H' (s.trans s') g
  | stuck => exact p
theorem PostI.shift {r : R (List D)} {Q : L2.It → Hp → Prop} (s : Stp M F H F1 H1) (p : PostI K cls M E0 σ F H r Q) : PostI K cls M E0 σ F1 H1 r Q := by
  cases r with
  | ok d env' => exact fun v F' H' s' g q => p v F' H' (s.trans s') g q
  | exc c env' => exact fun F' H' s' g => p F' H' (s.trans s') g
  | stuck => exact p
theorem res_sc {v : V} {d : D} (h : ∀ ds, d ≠ .list ds) (r : Res K fr H F' H' v d) : Rp K F' v d := by
  cases fr with
  | false => exact r
  | true =>
    cases d with
    | list es => exact absurd rfl (h es)
    | _ => exact r
theorem res_bool {v : V} {b : Bool} (r : Res K fr H F' H' v (.bool b)) : v = .bl b := by
  have h := res_sc (fun ds z => by cases z) r
  cases h
  rfl
theorem res_int {v : V} {b : Int} (r : Res K fr H F' H' v (.int b)) : v = .int b := by
  have h := res_sc (fun ds z => by cases z) r
  cases h
  rfl
theorem ex_none {p : Addr} (e : Ex F H) (h : H p = none) : F p = none := by
  cases q : F p with
  | none => rfl
  | some u =>
    rw [e _ _ q] at h
    cases h
/-- a new list is known from now on -/
theorem good_fz {p : Addr} {o : HO} (g : Good K M env σ F H) (hM : ¬ M p) (hF : F p = none) (hH : H p = some o) : Good K M env σ (upd F p o) H := by
  have hx : Ex F (upd F p o) := Ex.new hF
  refine ⟨fun b u q => ?_, g.len, fun i d e => ?_, fun i d e => ?_, g.sep, g.there⟩
  · by_cases hb : b = p
    · subst hb
      rw [upd_same] at q
      rw [← q]
      exact hH
    · rw [upd_ne hb] at q
      exact g.ex _ _ q
  · obtain ⟨v, h1, h2⟩ := g.im i d e
    exact ⟨v, h1, h2.mono hx⟩
  · obtain ⟨a, u, h1, h2, h3, h4, h5⟩ := g.mu i d e
    exact ⟨a, u, h1, h2, by rw [upd_ne (fun z => hM (by rw [← z]; exact h2))]; exact h3, h4, h5.mono hx⟩
theorem freeze {v : V} {d : D} {env' : En} (g0 : Good K M env σ F H) (s : Stp M F H F' H') (g : Good K M env' σ F' H') (r : Res K fr H F' H' v d) : ∃ F2, Stp M F H F2 H' ∧ Good K M env' σ F2 H' ∧ Rp K F2 v d := by
  unfold Res at r
  split at r
  · obtain ⟨p, vs, ds, rfl, e, h3, h4, h5, h6, h7⟩ := r
    cases e
    exact ⟨upd F' p (.lst vs), s.freeze h3 h5 h4, good_fz g (fun z => g0.there p z h3) h4 h5, .lst upd_same h6 (h7.mono (Ex.new h4))⟩
  · exact ⟨F', s, g, r⟩
theorem PostE.fz {r : R D} {Q : VK} (g : Good K M env σ F H) (p : PostE K cls M E0 false σ F H r Q) : PostE K cls M E0 fr σ F H r Q := by
  cases r with
  | ok d env' =>
    intro v F' H' s g' r
    obtain ⟨F2, s2, g2, r2⟩ := freeze g s g' r
    exact p v F2 H' s2 g2 r2
  | exc c env' => exact p
  | stuck => exact p

/-! ### operands -/
theorem getA_some {i : Nat} {d : D} (e : getA env i = some d) : env[i]? = some (.im d) ∨ env[i]? = some (.mu d) := by
  unfold getA at e
  split at e
  · rename_i h
    cases e
    exact .inl h
  · rename_i h
    cases e
    exact .inr h
  · cases e
theorem getE_some {i : Nat} {d : D} (e : getE env i = some d) : env[i]? = some (.im d) := by
  unfold getE at e
  split at e
  · rename_i h
    cases e
    exact h
  · cases e
theorem getM_some {i : Nat} {d : D} (e : getM env i = some d) : env[i]? = some (.mu d) := by
  unfold getM at e
  split at e
  · rename_i h
    cases e
    exact h
  · cases e
theorem vw_of : ∀ {ss : List (Sum D Nat)} {vs : List V} {ds : List D}, Good K M env σ F H → Paired (OpdOk K σ F) ss vs → resolve env ss = some ds → VwA K F H vs ds
  | [], _, ds, _, f, e => by
    cases f
    cases e
    exact .nil
  | .inl d :: ss, _, ds, g, f, e => by
    cases f with
    | cons f1 f2 =>
      simp only [resolve, Option.map_eq_some_iff] at e
      obtain ⟨es, e1, e2⟩ := e
      subst e2
      exact .cons (.imm f1) (vw_of g f2 e1)
  | .inr i :: ss, _, ds, g, f, e => by
    cases f with
    | cons f1 f2 =>
      simp only [resolve, Option.bind_eq_some_iff, Option.map_eq_some_iff] at e
      obtain ⟨d, e0, es, e1, e2⟩ := e
      subst e2
      refine .cons ?_ (vw_of g f2 e1)
      rcases getA_some e0 with h | h
      · obtain ⟨v, h1, h2⟩ := g.im i d h
        have f1' : σ[i]? = some (some _) := f1
        rw [h1] at f1'
        cases f1'
        exact .imm h2
      · obtain ⟨a, o, h1, h2, h3, h4, h5⟩ := g.mu i d h
        have f1' : σ[i]? = some (some _) := f1
        rw [h1] at f1'
        cases f1'
        exact .own h4 h5
theorem nodupB_iff : ∀ {l : List Nat}, nodupB l = true → l.Nodup
  | [], _ => List.nodup_nil
  | x :: xs, h => by
    simp only [nodupB, Bool.and_eq_true, Bool.not_eq_true', List.contains_eq_mem, decide_eq_false_iff_not] at h
    exact List.nodup_cons.mpr ⟨h.1, nodupB_iff h.2⟩
theorem opd_mono {ss : List (Sum D Nat)} {vs : List V} (e : Ex F F') (f : Paired (OpdOk K σ F) ss vs) : Paired (OpdOk K σ F') ss vs := by
  induction f with
  | nil => exact .nil
  | cons h _ ih =>
    refine .cons ?_ ih
    rename_i s v _ _ _
    cases s with
    | inl d => exact Rp.mono e _ _ h
    | inr i => exact h
/-- the owned arguments' addresses -/
theorem own_mem : ∀ {ss : List (Sum D Nat)} {vs : List V} {a : Addr}, Paired (OpdOk K σ F) ss vs → a ∈ ownAddrs (modesOf ss) vs → ∃ i, i ∈ ownsOf ss ∧ σ[i]? = some (some (.ref a))
  | [], _, a, f, h => by
    cases f
    cases h
  | .inl d :: ss, _, a, f, h => by
    cases f with
    | cons f1 f2 =>
      rename_i v vs
      have h' : a ∈ ownAddrs (modesOf ss) vs := by simpa [modesOf, ownAddrs] using h
      obtain ⟨j, h1, h2⟩ := own_mem f2 h'
      exact ⟨j, h1, h2⟩
  | .inr i :: ss, _, a, f, h => by
    cases f with
    | cons f1 f2 =>
      rename_i v vs
      cases v with
      | ref b =>
        simp only [modesOf, ownAddrs, List.mem_cons] at h
        rcases h with h | h
        · subst h
          exact ⟨i, List.mem_cons_self, f1⟩
        · obtain ⟨j, h1, h2⟩ := own_mem f2 h
          exact ⟨j, List.mem_cons_of_mem _ h1, h2⟩
      | _ =>
        obtain ⟨j, h1, h2⟩ := own_mem f2 (by simpa [modesOf, ownAddrs] using h)
        exact ⟨j, List.mem_cons_of_mem _ h1, h2⟩
theorem args_ok : ∀ {ss : List (Sum D Nat)} {vs : List V} {ds : List D}, Good K M env σ F H → Paired (OpdOk K σ F) ss vs → resolveM env ss = some ds → (ownsOf ss).Nodup →
    ArgsOk K F H (modesOf ss) vs ds ∧ (ownAddrs (modesOf ss) vs).Nodup ∧ ∀ a ∈ ownAddrs (modesOf ss) vs, M a
  | [], _, ds, _, f, e, _ => by
    cases f
    cases e
    exact ⟨.nil, List.nodup_nil, fun a h => by cases h⟩
  | .inl d :: ss, _, ds, g, f, e, nd => by
    cases f with
    | cons f1 f2 =>
      simp only [resolveM, Option.map_eq_some_iff] at e
      obtain ⟨es, e1, e2⟩ := e
      subst e2
      obtain ⟨h1, h2, h3⟩ := args_ok g f2 e1 nd
      exact ⟨.im f1 h1, by simpa [modesOf, ownAddrs] using h2, by simpa [modesOf, ownAddrs] using h3⟩
  | .inr i :: ss, _, ds, g, f, e, nd => by
    cases f with
    | cons f1 f2 =>
      simp only [resolveM, Option.bind_eq_some_iff, Option.map_eq_some_iff] at e
      obtain ⟨d, e0, es, e1, e2⟩ := e
      subst e2
      have nd' : i ∉ ownsOf ss ∧ (ownsOf ss).Nodup := List.nodup_cons.mp nd
      obtain ⟨h1, h2, h3⟩ := args_ok g f2 e1 nd'.2
      have hm := getM_some e0
      obtain ⟨a, o, k1, k2, k3, k4, k5⟩ := g.mu i d hm
      have f1' : σ[i]? = some (some _) := f1
      rw [k1] at f1'
      cases f1'
      refine ⟨.mu k3 k4 k5 h1, ?_, ?_⟩
      · simp only [modesOf, ownAddrs]
        refine List.nodup_cons.mpr ⟨fun hmem => ?_, h2⟩
        obtain ⟨j, hj, hs⟩ := own_mem f2 hmem
        have : ∀ {ss : List (Sum D Nat)} {ds : List D} {j : Nat}, resolveM env ss = some ds → j ∈ ownsOf ss → ∃ dj, env[j]? = some (.mu dj) := by
          intro ss
          induction ss with
          | nil => intro ds j _ h; cases h
          | cons s ss ih =>
            intro ds j e h
            cases s with
            | inl d =>
              simp only [resolveM, Option.map_eq_some_iff] at e
              obtain ⟨es, e1, _⟩ := e
              exact ih e1 h
            | inr k =>
              simp only [resolveM, Option.bind_eq_some_iff, Option.map_eq_some_iff] at e
              obtain ⟨d, e0, es, e1, _⟩ := e
              rcases List.mem_cons.mp h with z | z
              · subst z
                exact ⟨d, getM_some e0⟩
              · exact ih e1 z
        obtain ⟨dj, hdj⟩ := this e1 hj
        exact nd'.1 (by rw [g.sep i j d dj a hm hdj k1 hs]; exact hj)
      · intro b hb
        simp only [modesOf, ownAddrs, List.mem_cons] at hb
        rcases hb with z | z
        · rw [z]; exact k2
        · exact h3 b z
theorem resolveM_mu : ∀ {ss : List (Sum D Nat)} {ds : List D} {j : Nat}, resolveM env ss = some ds → j ∈ ownsOf ss → ∃ dj, env[j]? = some (.mu dj)
  | [], _, _, _, h => by cases h
  | .inl d :: ss, ds, j, e, h => by
    simp only [resolveM, Option.map_eq_some_iff] at e
    obtain ⟨es, e1, _⟩ := e
    exact resolveM_mu e1 h
  | .inr k :: ss, ds, j, e, h => by
    simp only [resolveM, Option.bind_eq_some_iff, Option.map_eq_some_iff] at e
    obtain ⟨d, e0, es, e1, _⟩ := e
    rcases List.mem_cons.mp h with z | z
    · subst z
      exact ⟨d, getM_some e0⟩
    · exact resolveM_mu e1 z
theorem putOuts_get : ∀ {is : List Nat} {ds : List D} {env env' : En}, is.Nodup → putOuts is ds env = some env' → env'.length = env.length ∧ (∀ j, j ∉ is → env'[j]? = env[j]?) ∧
    ∀ (k j : Nat) (d : D), is[k]? = some j → ds[k]? = some d → j < env.length → env'[j]? = some (.mu d)
  | [], [], env, env', _, e => by
    cases e
    exact ⟨rfl, fun _ _ => rfl, fun k j d h => by simp at h⟩
  | i :: is, d :: ds, env, env', nd, e => by
    have nd' := List.nodup_cons.mp nd
    obtain ⟨h1, h2, h3⟩ := putOuts_get (env := setM env i d) nd'.2 e
    have hl : (setM env i d).length = env.length := by unfold setM; rw [List.length_set]
    refine ⟨h1.trans hl, fun j hj => ?_, fun k j e hk hd hlt => ?_⟩
    · have hj' : j ≠ i ∧ j ∉ is := by simpa using hj
      rw [h2 j hj'.2]
      unfold setM
      rw [List.getElem?_set_ne (Ne.symm hj'.1)]
    · cases k with
      | zero =>
        simp at hk hd
        subst hk hd
        rw [h2 _ nd'.1]
        unfold setM
        rw [List.getElem?_set_self hlt]
      | succ k => exact h3 k j e (by simpa using hk) (by simpa using hd) (by rw [hl]; exact hlt)
  | [], _ :: _, _, _, _, e => by cases e
  | _ :: _, [], _, _, _, e => by cases e
theorem putOuts_len : ∀ {is : List Nat} {ds : List D} {env env' : En}, putOuts is ds env = some env' → is.length = ds.length
  | [], [], _, _, _ => rfl
  | i :: is, d :: ds, env, env', e => by simp [putOuts_len (env := setM env i d) e]
  | [], _ :: _, _, _, e => by cases e
  | _ :: _, [], _, _, e => by cases e
theorem outs_at : ∀ {ss : List (Sum D Nat)} {vs : List V} {outs : List D} {k j : Nat}, Paired (OpdOk K σ F) ss vs → OutsOk K F' H' (modesOf ss) vs outs → (ownsOf ss)[k]? = some j →
    ∃ a o e, outs[k]? = some e ∧ σ[j]? = some (some (.ref a)) ∧ F' a = none ∧ H' a = some o ∧ Cont K F' o e
  | [], _, _, k, j, f, r, h => by simp [ownsOf] at h
  | .inl d :: ss, _, _, k, j, f, r, h => by
    cases f with
    | cons f1 f2 =>
      cases r with
      | im r2 => exact outs_at f2 r2 h
  | .inr i :: ss, _, _, k, j, f, r, h => by
    cases f with
    | cons f1 f2 =>
      cases r with
      | mu r0 r1 r2 r3 =>
        cases k with
        | zero =>
          simp [ownsOf] at h
          subst h
          exact ⟨_, _, _, rfl, f1, r0, r1, r2⟩
        | succ k =>
          obtain ⟨a, o, e, h1, h2⟩ := outs_at f2 r3 (k := k) (by simpa [ownsOf] using h)
          exact ⟨a, o, e, by simpa using h1, h2⟩
/-- behind a call the slots are good -/
theorem good_call {ss : List (Sum D Nat)} {vs : List V} {ds outs : List D} {env' : En} (g : Good K M env σ F H) (f : Paired (OpdOk K σ F) ss vs) (e : resolveM env ss = some ds) (nd : (ownsOf ss).Nodup)
    (s : Stp (· ∈ ownAddrs (modesOf ss) vs) F H F' H') (o : OutsOk K F' H' (modesOf ss) vs outs) (p : putOuts (ownsOf ss) outs env = some env') : Good K M env' σ F' H' := by
  obtain ⟨p1, p2, p3⟩ := putOuts_get nd p
  have look : ∀ (j : Nat) (s : Sl), env'[j]? = some s → (j ∉ ownsOf ss ∧ env[j]? = some s) ∨ ∃ a u e, j ∈ ownsOf ss ∧ s = .mu e ∧ σ[j]? = some (some (.ref a)) ∧ F' a = none ∧ H' a = some u ∧ Cont K F' u e := by
    intro j s h
    by_cases hj : j ∈ ownsOf ss
    · obtain ⟨k, hk⟩ := List.getElem?_of_mem hj
      obtain ⟨a, u, e, h1, h2, h3, h4, h5⟩ := outs_at f o hk
      have hlt : j < env.length := by
        rw [← p1]
        exact (List.getElem?_eq_some_iff.mp h).1
      rw [p3 k j e hk h1 hlt] at h
      cases h
      exact .inr ⟨a, u, e, hj, rfl, h2, h3, h4, h5⟩
    · rw [p2 j hj] at h
      exact .inl ⟨hj, h⟩
  have mus : ∀ (j : Nat) (d : D), env'[j]? = some (.mu d) → ∃ d0, env[j]? = some (.mu d0) := by
    intro j d h
    rcases look j _ h with ⟨_, h⟩ | ⟨a, u, e, hj, _⟩
    · exact ⟨d, h⟩
    · rename_i es
      exact resolveM_mu ‹resolveM env ss = some ds› hj
  refine ⟨s.x, by rw [p1]; exact g.len, fun i d h => ?_, fun i d h => ?_, fun i j di dj a h1 h2 h3 h4 => ?_, fun a h => s.t a (g.there a h)⟩
  · rcases look i _ h with ⟨_, h⟩ | ⟨a, u, e, hj, q, _⟩
    · obtain ⟨v, h1, h2⟩ := g.im i d h
      exact ⟨v, h1, h2.mono s.f⟩
    · cases q
  · rcases look i _ h with ⟨hn, h⟩ | ⟨a, u, e', hj, q, h1, h2, h3, h4⟩
    · obtain ⟨a, u, h1, h2, h3, h4, h5⟩ := g.mu i d h
      have hn2 : a ∉ ownAddrs (modesOf ss) vs := fun hm => by
        obtain ⟨j, h6, h7⟩ := own_mem f hm
        obtain ⟨dj, h8⟩ := resolveM_mu e h6
        exact hn (by rw [g.sep i j d dj a h h8 h1 h7]; exact h6)
      exact ⟨a, u, h1, h2, s.n a hn2 (by rw [h4]; exact fun z => nomatch z) h3, s.k a u hn2 h4, h5.mono s.f⟩
    · cases q
      obtain ⟨d0, h5⟩ := resolveM_mu e hj
      obtain ⟨b, u', k1, k2, _⟩ := g.mu i d0 h5
      rw [h1] at k1
      cases k1
      exact ⟨a, u, h1, k2, h2, h3, h4⟩
  · obtain ⟨ei, hi⟩ := mus i di h1
    obtain ⟨ej, hj⟩ := mus j dj h2
    exact g.sep i j ei ej a hi hj h3 h4
end
end Nv

set_option Elab.async false
set_option linter.all false
set_option maxRecDepth 100000
/-! Nv7: the law of expressions. -/
namespace Nv
open PySem L2

section
variable {K : PySem.W.Frag} {cls : Nat → Value} {M : Addr → Prop} {E0 : XK} {F H F1 H1 F' H' : Hp} {env : En} {σ : L2.St} {fr : Bool}
/-- a slot's list becomes known -/
theorem good_move {i : Nat} {d : D} (g : Good K M env σ F H) (e : getA env i = some d) : ∃ v F', σ[i]? = some (some v) ∧ Stp M F H F' H ∧ Good K M (setE env i d) σ F' H ∧ Rp K F' v d := by
  rcases getA_some e with h | h
  · obtain ⟨v, h1, h2⟩ := g.im i d h
    refine ⟨v, F, h1, Stp.refl g.ex, ?_, h2⟩
    have e1 : setE env i d = env := by
      unfold setE
      obtain ⟨hl, he⟩ := List.getElem?_eq_some_iff.mp h
      rw [← he]
      exact List.set_getElem_self hl
    rw [e1]
    exact g
  · obtain ⟨a, o, h1, h2, h3, h4, h5⟩ := g.mu i d h
    have r : Rp K (upd F a o) (.ref a) d := by
      cases h5 with
      | lst k1 k2 => exact .lst upd_same k1 (k2.mono (Ex.new h3))
      | dk k1 => exact .dk upd_same (k1.mono (Ex.new h3))
      | dt k1 => exact .dt upd_same (k1.mono (Ex.new h3))
    refine ⟨.ref a, upd F a o, h1, ⟨Ex.new h3, fun b u q => ?_, fun b hb h6 h7 => ?_, fun _ _ _ q => q, fun _ q => q⟩, ?_, r⟩
    · by_cases hb : b = a
      · subst hb
        rw [upd_same] at q
        rw [← q]
        exact h4
      · rw [upd_ne hb] at q
        exact g.ex _ _ q
    · rw [upd_ne (fun z => hb (by rw [z]; exact h2))]
      exact h7
    · exact good_freezeAt (v := .non) g h3 h4 h1 r fun j dj hj hm hs => hj (g.sep j i dj d a hm h hs h1)
theorem upd_there {o : HO} {p : Addr} (h : H p ≠ none) : ∀ a, upd H p o a ≠ none ↔ H a ≠ none := fun a => by
  by_cases ha : a = p
  · subst ha
    rw [upd_same]
    exact ⟨fun _ => h, fun _ z => nomatch z⟩
  · rw [upd_ne ha]

def BodyOk (K : PySem.W.Frag) (M : Addr → Prop) (σ : L2.St) (F1 H1 : Hp) (r : R (Option D)) (Qn : Hp → Prop) (Qy : VK) : Prop := match r with
  | .ok none env' => ∀ F' H', Stp M F1 H1 F' H' → Good K M env' σ F' H' → Qn H'
  | .ok (some d) env' => ∀ v F' H', Stp M F1 H1 F' H' → Good K M env' σ F' H' → Rp K F' v d → Qy v H'
  | _ => False
def LcPost (K : PySem.W.Frag) (M : Addr → Prop) (σ : L2.St) (F H : Hp) (r : R (List D)) (Q : VK) : Prop := match r with
  | .ok ds env2 => ∀ p vs F' H', H p = none → Stp M F H F' H' → Good K M env2 σ F' H' → F' p = none → H' p = some (.lst vs) → vs.length ≤ sizeLine → RpA K F' vs ds → Q (.ref p) H'
  | _ => False
/-- a comprehension over data -/
theorem lc_ok {items : List D} {tg : List Nat} {one : Bool} {body : D → En → R (Option D)} {wi : TI} {tt : TT} {te : TE} {env1 : En} {rfin : R (List D)} {Q : VK}
    (g0 : Good K M env σ F H) (hz : items.length ≤ sizeLine) {J : L2.It} (hJ : ∀ F' H', Stp M F H F' H' → (∀ (i : Nat) (d : D), items[i]? = some d → J.go i H' ∧ ∀ x H2, J.yld i H' x H2 → ∃ F2, Stp (fun _ => False) F' H' F2 H2 ∧ Rp K F2 x d) ∧ (∀ i : Nat, items.length ≤ i → J.stop i H')) (hr : (compR body items [] (killE env tg)).noexc = rfin)
    (hb : ∀ (x : D) (e e1 : En) (σ1 : L2.St) (F1 H1 : Hp) (Qn : Hp → Prop) (Qy : VK), tgE tg one x e = some e1 → Good K M e1 σ1 F1 H1 →
      BodyOk K M (wipe σ1 tg) F1 H1 (body x e) Qn Qy → tt σ1 H1 fun b H3 => if b = true then te σ1 H3 Qy else Qn H3)
    (ht : ∀ x e, tgE tg one x e = none → body x e = .stuck)
    (q : LcPost K M (wipe σ tg) F H rfin Q) :
    ∀ Dn, H Dn = none → ∃ W : Nat → Nat → Hp → Prop, (∃ m, W 0 m (upd H Dn (.lst []))) ∧ ∀ i m H, W i m H →
      (J.stop i H ∧ Q (.ref Dn) H) ∨ (J.go i H ∧ ∃ Nx : Hp → Prop, (∀ H', Nx H' → ∃ m', m' < m ∧ W (i + 1) m' H') ∧ ∀ x H', J.yld i H x H' → tTg K tg one x (wipe σ tg) H' fun σ2 H2 => wipe σ2 tg = wipe σ tg ∧ tt σ2 H2 fun b H3 =>
        if b = true then te σ2 H3 fun y H4 => ∃ acc, H4 Dn = some (.lst acc) ∧ acc.length < sizeLine ∧ Nx (upd H4 Dn (.lst (acc ++ [y]))) else Nx H3) := by
  intro Dn hDn
  have nM : ¬ M Dn := fun z => g0.there Dn z hDn
  have hFD : F Dn = none := ex_none g0.ex hDn
  -- the state ahead of turn i
  let W : Nat → Nat → Hp → Prop := fun i m Hc => m = items.length - i ∧ i ≤ items.length ∧ ∃ Fc envc vs ds, Stp M F H Fc Hc ∧ Good K M envc (wipe σ tg) Fc Hc ∧ Hc Dn = some (.lst vs) ∧ Fc Dn = none ∧ RpA K Fc vs ds ∧ vs.length ≤ i ∧
    (compR body (items.drop i) ds envc).noexc = rfin
  refine ⟨W, ⟨items.length, by simp, Nat.zero_le _, F, killE env tg, [], [], Stp.lay g0.ex hDn, ?_, upd_same, hFD, .nil, Nat.zero_le _, by simpa using hr⟩, ?_⟩
  · have g1 := good_wipe g0 tg
    exact good_step g1 (Stp.lay g1.ex hDn)
  · rintro i m Hc ⟨hm, hi, Fc, envc, vs, ds, s, g, hD, hF, r, hl, hc⟩
    obtain ⟨go, stop⟩ := hJ Fc Hc s
    by_cases hlt : i < items.length
    · have hx : items[i]? = some items[i] := List.getElem?_eq_getElem hlt
      obtain ⟨hgo, hy⟩ := go i _ hx
      refine .inr ⟨hgo, fun H' => W (i + 1) (items.length - (i + 1)) H', fun H' w => ⟨items.length - (i + 1), by omega, w⟩, fun x H2 y => ?_⟩
      obtain ⟨F2, s2, r2⟩ := hy x H2 y
      have g2 := good_step g s2
      have s2M : Stp M Fc Hc F2 H2 := s2.sub fun _ z => z.elim
      have ed : items.drop i = items[i] :: items.drop (i + 1) := List.drop_eq_getElem_cons hlt
      rw [ed] at hc
      simp only [compR] at hc
      cases et : tgE tg one items[i] envc with
      | none =>
        rw [ht _ _ et] at hc
        simp only [R.bind_stuck, R.noexc] at hc
        rw [← hc] at q
        exact q.elim
      | some e1 =>
        refine tg_ok g2 r2 et fun σ2 g3 hw => ?_
        have hwt : wipe σ2 tg = wipe σ tg := by
          rw [hw tg fun i h => h]
          have : ∀ is : List Nat, (∀ i ∈ is, i ∈ tg) → wipe (wipe σ is) tg = wipe σ tg := by
            intro is
            induction is with
            | nil => intro _; rfl
            | cons j is ih =>
              intro h
              have e : wipe σ (j :: is) = (wipe σ is).set j none := rfl
              rw [e, wipe_set (h j List.mem_cons_self)]
              exact ih fun i hi => h i (List.mem_cons_of_mem _ hi)
          exact this tg fun _ h => h
        refine ⟨hwt, ?_⟩
        have hD2 : H2 Dn = some (.lst vs) := s2.k Dn _ (fun z => z) hD
        have hF2 : F2 Dn = none := s2.n Dn (fun z => z) (by rw [hD]; exact fun z => nomatch z) hF
        refine hb _ _ _ _ F2 H2 _ _ et g3 ?_
        cases eb : body items[i] envc with
        | ok o env' =>
          unfold BodyOk
          rw [eb] at hc
          simp only [R.bind_ok] at hc
          cases o with
          | none =>
            intro F3 H3 s3 g4
            rw [hwt] at g4
            refine ⟨rfl, hlt, F3, env', vs, ds, (s.trans s2M).trans s3, g4, s3.k Dn _ nM hD2, s3.n Dn nM (by rw [hD2]; exact fun z => nomatch z) hF2, r.mono (s2.f.trans s3.f), by omega, hc⟩
          | some d =>
            intro v F3 H3 s3 g4 rv
            rw [hwt] at g4
            have hD3 : H3 Dn = some (.lst vs) := s3.k Dn _ nM hD2
            have hF3 : F3 Dn = none := s3.n Dn nM (by rw [hD2]; exact fun z => nomatch z) hF2
            refine ⟨vs, hD3, by omega, rfl, hlt, F3, env', vs ++ [v], ds ++ [d], ?_, ?_, upd_same, hF3, (r.mono (s2.f.trans s3.f)).append (.cons rv .nil), by simp; omega, hc⟩
            · have s4 := (s.trans s2M).trans s3
              refine ⟨s4.f, fun b u z => ?_, s4.n, fun b u h1 h2 => ?_, fun b h1 => ?_⟩
              · rw [upd_ne (fun w => by rw [w, hF3] at z; cases z)]
                exact s4.x b u z
              · rw [upd_ne (fun w => by rw [w, hDn] at h2; cases h2)]
                exact s4.k b u h1 h2
              · rw [upd_there (by rw [hD3]; exact fun z => nomatch z)]
                exact s4.t b h1
            · refine ⟨fun b u z => ?_, g4.len, g4.im, fun j e h => ?_, g4.sep, fun b h1 => ?_⟩
              · rw [upd_ne (fun w => by rw [w, hF3] at z; cases z)]
                exact g4.ex b u z
              · obtain ⟨b, u, k1, k2, k3, k4, k5⟩ := g4.mu j e h
                exact ⟨b, u, k1, k2, k3, by rw [upd_ne (fun w => nM (by rw [← w]; exact k2))]; exact k4, k5⟩
              · rw [upd_there (by rw [hD3]; exact fun z => nomatch z)]
                exact g4.there b h1
        | exc c env' =>
          rw [eb] at hc
          simp only [R.bind_exc, R.noexc] at hc
          rw [← hc] at q
          exact q.elim
        | stuck =>
          rw [eb] at hc
          simp only [R.bind_stuck, R.noexc] at hc
          rw [← hc] at q
          exact q.elim
    · have e : i = items.length := by omega
      refine .inl ⟨stop i (by omega), ?_⟩
      rw [e, List.drop_length] at hc
      simp only [compR, R.noexc_ok] at hc
      rw [← hc] at q
      exact q Dn vs Fc Hc hDn s g hF hD (by omega) r
end
end Nv

set_option Elab.async false
set_option linter.all false
set_option maxRecDepth 100000
/-! Nv8: the law of expressions, by recursion. -/
namespace Nv
open PySem L2

/-- what may stand as a test -/
def okT : E → Bool
  | .and a b => okT a && okT b
  | .or a b => okT a && okT b
  | .not a => okT a
  | .var _ => true
  | .op _ _ => true
  | .leLe _ _ _ => true
  | .call _ _ => true
  | .din _ _ _ => true
  | _ => false
mutual
def wfE : E → Bool
  | .op _ as => wfAs as
  | .and a b => wfE a && wfE b
  | .or a b => wfE a && wfE b
  | .orT a b => wfE a && wfE b
  | .not a => wfE a
  | .ite c a b => okT c && wfE c && wfE a && wfE b
  | .leLe a b c => wfE a && wfE b && wfE c
  | .tup as => wfAs as
  | .lst as => wfAs as
  | .call _ as => wfAs as
  | .sel fs ix as => decide (fs.length ≤ 64) && wfE ix && wfAs as
  | .pop _ e => wfE e
  | .slB a lo hi => wfA a && wfE lo && wfE hi
  | .mth _ a as => wfA a && wfAs as
  | .dget a k => wfA a && wfE k
  | .din _ k a => wfE k && wfA a
  | .callN _ _ as => wfAs as
  | .callF _ as => wfAs as
  | .lcO elt _ _ _ _ cond => wfE elt && wfO cond
  | .cst d => (match d with | .none => true | .bool _ => true | .int _ => true | .str _ => true | _ => false)
  | .lc elt _ _ it cond => wfE elt && wfI it && wfO cond
  | _ => true
def wfO : Option E → Bool
  | none => true
  | some c => okT c && wfE c
def wfA : A → Bool
  | .imm e => wfE e
  | .own _ => true
def wfAs : List A → Bool
  | [] => true
  | a :: as => wfA a && wfAs as
def wfI : It → Bool
  | .seq (.imm e) => wfE e
  | .seq (.own _) => false
  | .rng a => wfA a
  | .rng2 a b => wfA a && wfA b
  | .zip (.imm a) (.imm b) => wfE a && wfE b
  | .enum (.imm a) => wfE a
  | _ => false
end

section
variable {K : PySem.W.Frag} {cls : Nat → Value} {M : Addr → Prop} {E0 : XK} {F H F1 H1 F' H' : Hp} {env : En} {σ : L2.St} {fr : Bool}
theorem bind_ok {r : R D} {Q : VK} {f : D → En → R D} {k : VK} (h : PostE K cls M E0 fr σ F H (r.bind f) Q)
    (q : ∀ d env', r = .ok d env' → PostE K cls M E0 fr σ F H (f d env') Q → PostE K cls M E0 false σ F H (.ok d env') k) : PostE K cls M E0 false σ F H r k := by
  cases r with
  | ok d env' => exact q d env' rfl h
  | exc c env' => exact h
  | stuck => exact h
theorem bindAs_ok {r : R (List (Sum D Nat))} {Q : VK} {f : List (Sum D Nat) → En → R D} {k : List V → Hp → Prop} (h : PostE K cls M E0 fr σ F H (r.bind f) Q)
    (q : ∀ ss env', r = .ok ss env' → PostE K cls M E0 fr σ F H (f ss env') Q → PostAs K cls M E0 σ F H (.ok ss env') k) : PostAs K cls M E0 σ F H r k := by
  cases r with
  | ok d env' => exact q d env' rfl h
  | exc c env' => exact h
  | stuck => exact h
theorem postE_of {o : Option D} {Q : VK} (h : PostE K cls M E0 fr σ F H (R.of o env) Q) : ∃ d, o = some d ∧ ∀ v F' H', Stp M F H F' H' → Good K M env σ F' H' → Res K fr H F' H' v d → Q v H' := by
  cases o with
  | some d => exact ⟨d, rfl, h⟩
  | none => exact h.elim
/-- the items of a display -/
theorem disp_items : ∀ {ss : List (Sum D Nat)} {vs : List V} {ds : List D}, Paired (OpdOk K σ F) ss vs → resolve env ss = some ds → (ownsOf ss).isEmpty = true → RpA K F vs ds
  | [], _, ds, f, e, _ => by
    cases f
    cases e
    exact .nil
  | .inl d :: ss, _, ds, f, e, h => by
    cases f with
    | cons f1 f2 =>
      simp only [resolve, Option.map_eq_some_iff] at e
      obtain ⟨es, e1, e2⟩ := e
      subst e2
      exact .cons f1 (disp_items f2 e1 h)
  | .inr i :: ss, _, ds, f, e, h => by simp [ownsOf] at h
/-- lists and tuples are walked -/
theorem itok_list {a : Addr} {vs : List V} {ds : List D} (h : F a = some (.lst vs)) (r : RpA K F vs ds) : ItOk K (Itl K a) ds F := by
  intro F' H' e1 e2
  have hs : SqL K H' a vs := SqL.of (e2 _ _ (e1 _ _ h))
  refine ⟨fun i d hd => ?_, fun i hi => ⟨vs, hs, by rw [r.length]; exact hi⟩⟩
  obtain ⟨v, hv, rv⟩ := r.get hd
  refine ⟨⟨vs, v, hs, hv⟩, fun x H2 y => ?_⟩
  obtain ⟨rfl, y⟩ := y
  have := y vs hs
  rw [hv] at this
  cases this
  exact ⟨F', Stp.refl e2, rv.mono e1⟩
theorem itM_list {a : Addr} {vs : List V} {ds : List D} {F' H' : Hp} (h : H' a = some (.lst vs)) (e2 : Ex F' H') (r : RpA K F' vs ds) :
    (∀ (i : Nat) (d : D), ds[i]? = some d → (Itl K a).go i H' ∧ ∀ x H2, (Itl K a).yld i H' x H2 → ∃ F2, Stp (fun _ => False) F' H' F2 H2 ∧ Rp K F2 x d) ∧ (∀ i : Nat, ds.length ≤ i → (Itl K a).stop i H') := by
  have hs : SqL K H' a vs := SqL.of h
  refine ⟨fun i d hd => ?_, fun i hi => ⟨vs, hs, by rw [r.length]; exact hi⟩⟩
  obtain ⟨v, hv, rv⟩ := r.get hd
  refine ⟨⟨vs, v, hs, hv⟩, fun x H2 y => ?_⟩
  obtain ⟨rfl, y⟩ := y
  have := y vs hs
  rw [hv] at this
  cases this
  exact ⟨F', Stp.refl e2, rv⟩
theorem itok_tup {a : Addr} {vs : List V} {ds : List D} (h : SqT K F a vs) (r : RpA K F vs ds) : ItOk K (Itt K a) ds F := by
  intro F' H' e1 e2
  have hs : SqT K H' a vs := ex_t e2 (ex_t e1 h)
  refine ⟨fun i d hd => ?_, fun i hi => ⟨vs, hs, by rw [r.length]; exact hi⟩⟩
  obtain ⟨v, hv, rv⟩ := r.get hd
  refine ⟨⟨vs, v, hs, hv⟩, fun x H2 y => ?_⟩
  obtain ⟨rfl, y⟩ := y
  have := y vs hs
  rw [hv] at this
  cases this
  exact ⟨F', Stp.refl e2, rv.mono e1⟩
theorem itok_rng (lo : Int) (n : Nat) : ItOk K (Itr lo n) ((List.range n).map fun (i : Nat) => .int (lo + i)) F := by
  intro F' H' e1 e2
  refine ⟨fun i d hd => ?_, fun i hi => (by simpa using hi : n ≤ i)⟩
  rw [List.getElem?_map] at hd
  obtain ⟨j, h1, h2⟩ := Option.map_eq_some_iff.mp hd
  obtain ⟨hl, h3⟩ := List.getElem?_eq_some_iff.mp h1
  have hl' : i < n := by simpa using hl
  rw [List.getElem_range] at h3
  subst h3 h2
  refine ⟨hl', fun x H2 y => ?_⟩
  obtain ⟨rfl, rfl⟩ := y
  exact ⟨F', Stp.refl e2, .int _⟩
theorem pair_new {x y : V} {d e : D} {T : Addr} (e2 : Ex F H) (hT : H T = none) (r1 : Rp K F x d) (r2 : Rp K F y e) : ∃ F2, Stp (fun _ => False) F H F2 (upd H T (.tup [x, y])) ∧ Rp K F2 (.ref T) (.tuple [d, e]) := by
  refine ⟨upd F T (.tup [x, y]), Stp.new e2 hT, ?_⟩
  exact tup_at e2 hT (by show 2 ≤ sizeLine; decide) (.cons r1 (.cons r2 .nil))
theorem zip_get {xs ys : List D} {i : Nat} {d : D} (h : ((xs.zip ys).map fun p => PyData.tuple [p.1, p.2])[i]? = some d) : ∃ x y, xs[i]? = some x ∧ ys[i]? = some y ∧ d = .tuple [x, y] := by
  rw [List.getElem?_map] at h
  obtain ⟨p, h1, h2⟩ := Option.map_eq_some_iff.mp h
  obtain ⟨x, y⟩ := p
  have := List.getElem?_zip_eq_some.mp h1
  exact ⟨x, y, this.1, this.2, h2.symm⟩
theorem ex_k {t : Bool} {a : Addr} {xs : List V} (e : Ex F H) (h : SqK t K F a xs) : SqK t K H a xs := by
  cases t
  · exact ex_l e h
  · exact ex_t e h
theorem itok_zip {t u : Bool} {a b : Addr} {vs ws : List V} {ds es : List D} (h : SqK t K F a vs) (r : RpA K F vs ds) (h' : SqK u K F b ws) (r' : RpA K F ws es) : ItOk K (Itq t u K a b) ((ds.zip es).map fun p => .tuple [p.1, p.2]) F := by
  intro F' H' e1 e2
  have hs : SqK t K H' a vs := ex_k e2 (ex_k e1 h)
  have hs' : SqK u K H' b ws := ex_k e2 (ex_k e1 h')
  refine ⟨fun i d hd => ?_, fun i hi => ⟨vs, ws, hs, hs', ?_⟩⟩
  · obtain ⟨x, y, h1, h2, rfl⟩ := zip_get hd
    obtain ⟨v, hv, rv⟩ := r.get h1
    obtain ⟨w, hw, rw'⟩ := r'.get h2
    refine ⟨⟨vs, ws, v, w, hs, hs', hv, hw⟩, fun z H2 q => ?_⟩
    obtain ⟨T, x', y', rfl, hT, rfl, q1, q2⟩ := q
    have k1 := q1 vs hs
    have k2 := q2 ws hs'
    rw [hv] at k1
    rw [hw] at k2
    cases k1
    cases k2
    exact pair_new e2 hT (rv.mono e1) (rw'.mono e1)
  · rw [r.length, r'.length]
    simp only [List.length_map, List.length_zip] at hi
    omega
theorem itok_enum {a : Addr} {vs : List V} {ds : List D} (h : F a = some (.lst vs)) (r : RpA K F vs ds) : ItOk K (Ite K a) (((List.range ds.length).zip ds).map fun p => .tuple [.int p.1, p.2]) F := by
  intro F' H' e1 e2
  have hs : SqL K H' a vs := SqL.of (e2 _ _ (e1 _ _ h))
  refine ⟨fun i d hd => ?_, fun i hi => ⟨vs, hs, ?_⟩⟩
  · rw [List.getElem?_map] at hd
    obtain ⟨p, h1, h2⟩ := Option.map_eq_some_iff.mp hd
    obtain ⟨k, x⟩ := p
    have h3 := List.getElem?_zip_eq_some.mp h1
    obtain ⟨hl, h4⟩ := List.getElem?_eq_some_iff.mp h3.1
    rw [List.getElem_range] at h4
    have h4' : i = k := h4
    subst h4'
    obtain ⟨v, hv, rv⟩ := r.get h3.2
    refine ⟨⟨vs, v, hs, hv⟩, fun z H2 q => ?_⟩
    obtain ⟨T, x', rfl, hT, rfl, q1⟩ := q
    have k1 := q1 vs hs
    rw [hv] at k1
    cases k1
    rw [← h2]
    exact pair_new e2 hT (.int _) (rv.mono e1)
  · rw [r.length]
    simp only [List.length_map, List.length_zip, List.length_range, Nat.min_self] at hi
    exact hi
theorem itM_enum {a : Addr} {vs : List V} {ds : List D} {F' H' : Hp} (h : H' a = some (.lst vs)) (e2 : Ex F' H') (r : RpA K F' vs ds) :
    (∀ (i : Nat) (d : D), (((List.range ds.length).zip ds).map fun p => PyData.tuple [.int p.1, p.2])[i]? = some d → (Ite K a).go i H' ∧ ∀ x H2, (Ite K a).yld i H' x H2 → ∃ F2, Stp (fun _ => False) F' H' F2 H2 ∧ Rp K F2 x d) ∧
      (∀ i : Nat, (((List.range ds.length).zip ds).map fun p => PyData.tuple [.int p.1, p.2]).length ≤ i → (Ite K a).stop i H') := by
  have hs : SqL K H' a vs := SqL.of h
  refine ⟨fun i d hd => ?_, fun i hi => ⟨vs, hs, ?_⟩⟩
  · rw [List.getElem?_map] at hd
    obtain ⟨p, h1, h2⟩ := Option.map_eq_some_iff.mp hd
    obtain ⟨k, x⟩ := p
    have h3 := List.getElem?_zip_eq_some.mp h1
    obtain ⟨hl, h4⟩ := List.getElem?_eq_some_iff.mp h3.1
    rw [List.getElem_range] at h4
    have h4' : i = k := h4
    subst h4'
    obtain ⟨v, hv, rv⟩ := r.get h3.2
    refine ⟨⟨vs, v, hs, hv⟩, fun z H2 q => ?_⟩
    obtain ⟨T, x', rfl, hT, rfl, q1⟩ := q
    have k1 := q1 vs hs
    rw [hv] at k1
    cases k1
    rw [← h2]
    exact pair_new e2 hT (.int _) rv
  · rw [r.length]
    simp only [List.length_map, List.length_zip, List.length_range, Nat.min_self] at hi
    exact hi
/-- behind a comprehension -/
theorem back_get (is : List Nat) (env0 : En) : ∀ (env : En) (i : Nat), (backE is env0 env)[i]? = if i ∈ is then (env[i]?).map (fun _ => keepIm (env0.getD i .no)) else env[i]? := by
  induction is with
  | nil => intro env i; simp [backE]
  | cons j is ih =>
    intro env i
    have e : backE (j :: is) env0 env = backE is env0 (env.set j (keepIm (env0.getD j .no))) := rfl
    rw [e, ih]
    by_cases hi : i ∈ is
    · rw [if_pos hi, if_pos (List.mem_cons_of_mem _ hi)]
      by_cases hj : j = i
      · subst hj
        rw [List.getElem?_set]
        simp only [if_true]
        split
        · rename_i h; rw [List.getElem?_eq_getElem h]; rfl
        · rename_i h; rw [List.getElem?_eq_none (by omega)]
      · rw [List.getElem?_set_ne hj]
    · rw [if_neg hi]
      by_cases hj : j = i
      · subst hj
        rw [if_pos List.mem_cons_self, List.getElem?_set]
        simp only [if_true]
        split
        · rename_i h; rw [List.getElem?_eq_getElem h]; rfl
        · rename_i h; rw [List.getElem?_eq_none (by omega)]; rfl
      · rw [List.getElem?_set_ne hj, if_neg]
        simp only [List.mem_cons, not_or]
        exact ⟨fun z => hj z.symm, hi⟩
theorem back_len (is : List Nat) (env0 : En) : ∀ (env : En), (backE is env0 env).length = env.length := by
  induction is with
  | nil => intro env; rfl
  | cons j is ih =>
    intro env
    have e : backE (j :: is) env0 env = backE is env0 (env.set j (keepIm (env0.getD j .no))) := rfl
    rw [e, ih, List.length_set]
theorem good_back {tg : List Nat} {env2 : En} (g0 : Good K M env σ F H) (f : Ex F F') (g : Good K M env2 (wipe σ tg) F' H') : Good K M (backE tg env env2) σ F' H' := by
  have look : ∀ (i : Nat) (s : Sl), (backE tg env env2)[i]? = some s → s ≠ .no → (i ∈ tg ∧ ∃ d, s = .im d ∧ env[i]? = some (.im d)) ∨ (env2[i]? = some s ∧ (wipe σ tg)[i]? = σ[i]?) := by
    intro i s h hs
    rw [back_get] at h
    by_cases hi : i ∈ tg
    · rw [if_pos hi] at h
      obtain ⟨u, h1, h2⟩ := Option.map_eq_some_iff.mp h
      rw [List.getD_eq_getElem?_getD] at h2
      cases e : env[i]? with
      | none =>
        rw [e] at h2
        exact absurd h2.symm hs
      | some w =>
        rw [e] at h2
        cases w with
        | no => exact absurd h2.symm hs
        | mu d => exact absurd h2.symm hs
        | im d => exact .inl ⟨hi, d, h2.symm, rfl⟩
    · rw [if_neg hi] at h
      exact .inr ⟨h, wipe_get hi⟩
  refine ⟨g.ex, by rw [back_len, ← g.len, wipe_length], fun i d e => ?_, fun i d e => ?_, fun i j di dj a e1 e2 h1 h2 => ?_, g.there⟩
  · rcases look i _ e (fun z => nomatch z) with ⟨_, d', e1, e2⟩ | ⟨e1, e2⟩
    · cases e1
      obtain ⟨v, h1, h2⟩ := g0.im i d e2
      exact ⟨v, h1, h2.mono f⟩
    · rw [← e2]
      exact g.im i d e1
  · rcases look i _ e (fun z => nomatch z) with ⟨_, d', e1, e2⟩ | ⟨e1, e2⟩
    · cases e1
    · rw [← e2]
      exact g.mu i d e1
  · rcases look i _ e1 (fun z => nomatch z) with ⟨_, d', e3, _⟩ | ⟨e3, e4⟩
    · cases e3
    rcases look j _ e2 (fun z => nomatch z) with ⟨_, d', e5, _⟩ | ⟨e5, e6⟩
    · cases e5
    exact g.sep i j di dj a e3 e5 (by rw [e4]; exact h1) (by rw [e6]; exact h2)
/-- an owned object gets a new content -/
theorem good_chg {i : Nat} {a : Addr} {o : HO} {d d' : D} (g : Good K M env σ F H) (h : env[i]? = some (.mu d)) (hs : σ[i]? = some (some (.ref a))) (hc : Cont K F o d') :
    Good K M (setM env i d') σ F (upd H a o) ∧ Stp M F H F (upd H a o) := by
  obtain ⟨b, u, h1, h2, h3, h4, h5⟩ := g.mu i d h
  rw [hs] at h1
  cases h1
  have hx : Ex F (upd H a o) := fun b u q => by
    rw [upd_ne (fun w => by rw [w, h3] at q; cases q)]
    exact g.ex b u q
  have ht : ∀ b, H b ≠ none → upd H a o b ≠ none := fun b q => by
    by_cases hb : b = a
    · subst hb
      rw [upd_same]
      exact fun z => nomatch z
    · rw [upd_ne hb]
      exact q
  have ne : ∀ (j : Nat) (s : Sl), (env.set i (Sl.mu d'))[j]? = some s → (j = i ∧ s = .mu d') ∨ (j ≠ i ∧ env[j]? = some s) := fun j s q => by
    by_cases hj : i = j
    · subst hj
      rw [List.getElem?_set] at q
      simp only [if_true] at q
      split at q
      · cases q
        exact .inl ⟨rfl, rfl⟩
      · cases q
    · rw [List.getElem?_set_ne hj] at q
      exact .inr ⟨fun z => hj z.symm, q⟩
  refine ⟨⟨hx, by unfold setM; rw [List.length_set]; exact g.len, fun j e q => ?_, fun j e q => ?_, fun j k dj dk b q1 q2 k1 k2 => ?_, fun b q => ht b (g.there b q)⟩, ⟨Ex.refl F, hx, fun _ _ _ q => q, fun b u hb q => ?_, ht⟩⟩
  · rcases ne j _ q with ⟨_, z⟩ | ⟨_, z⟩
    · cases z
    · exact g.im j e z
  · rcases ne j _ q with ⟨rfl, z⟩ | ⟨hj, z⟩
    · cases z
      exact ⟨a, o, hs, h2, h3, upd_same, hc⟩
    · obtain ⟨b, u, k1, k2, k3, k4, k5⟩ := g.mu j e z
      have hb : b ≠ a := fun w => hj (g.sep j i e d a z h (by rw [k1, w]) hs)
      exact ⟨b, u, k1, k2, k3, by rw [upd_ne hb]; exact k4, k5⟩
  · have m1 : ∃ e, env[j]? = some (.mu e) := by
      rcases ne j _ q1 with ⟨rfl, _⟩ | ⟨_, z⟩
      · exact ⟨d, h⟩
      · exact ⟨_, z⟩
    have m2 : ∃ e, env[k]? = some (.mu e) := by
      rcases ne k _ q2 with ⟨rfl, _⟩ | ⟨_, z⟩
      · exact ⟨d, h⟩
      · exact ⟨_, z⟩
    obtain ⟨e1, m1⟩ := m1
    obtain ⟨e2, m2⟩ := m2
    exact g.sep j k e1 e2 b m1 m2 k1 k2
  · rw [upd_ne (fun w => hb (by rw [w]; exact h2))]
    exact q

theorem list_mu {i : Nat} (g : Good K M env σ F H) (h : isListM env i = true) : ∃ a vs ds, env[i]? = some (.mu (.list ds)) ∧ σ[i]? = some (some (.ref a)) ∧ H a = some (.lst vs) ∧ RpA K F vs ds ∧ vs.length ≤ sizeLine := by
  unfold isListM at h
  split at h
  · rename_i ds he
    obtain ⟨a, o, h1, h2, h3, h4, h5⟩ := g.mu i _ he
    cases h5 with
    | lst k1 k2 => exact ⟨a, _, ds, he, h1, h4, k2, k1⟩
  · cases h
theorem dict_mu {i : Nat} (g : Good K M env σ F H) (h : isDictM env i = true) : ∃ a o es, env[i]? = some (.mu (.dict es)) ∧ σ[i]? = some (some (.ref a)) ∧ H a = some o ∧ Cont K F o (.dict es) := by
  unfold isDictM at h
  split at h
  · rename_i ds he
    obtain ⟨a, o, h1, h2, h3, h4, h5⟩ := g.mu i _ he
    exact ⟨a, o, ds, he, h1, h4, h5⟩
  · cases h
end
end Nv

set_option Elab.async false
set_option linter.all false
set_option maxRecDepth 100000
/-! Nv9: the law of expressions. -/
namespace Nv
open PySem L2

theorem rng0 (j : Nat) : ((List.range j).map fun (i : Nat) => (PyData.int ((0 : Int) + (i : Int)))) = (List.range j).map fun (i : Nat) => PyData.int i := by
  refine List.map_congr_left fun i _ => ?_
  rw [Int.zero_add]

theorem fz_of_test {K : PySem.W.Frag} {cls : Nat → Value} {M : Addr → Prop} {E0 : XK} {F H : Hp} {env : En} {σ : L2.St} {fr : Bool} {r : R D} {Q : Bool → Hp → Prop} (g : Good K M env σ F H) (p : PostT K cls M E0 σ F H r Q) :
    PostE K cls M E0 fr σ F H r (fun x H1 => ∃ c, x = .bl c ∧ Q c H1) := by
  cases r with
  | ok d env' =>
    obtain ⟨b, rfl, q⟩ := p
    exact fun v F' H' s g' r => ⟨b, res_bool r, q F' H' s g'⟩
  | exc c env' => exact p
  | stuck => exact p
section
variable (K : PySem.W.Frag) (cls : Nat → Value) (G : Gam) (gv : Gv)
def EOk (x : E) : Prop := ∀ (M : Addr → Prop) (E0 : XK) (env : En) (σ : L2.St) (F H : Hp) (Q : VK), wfE x = true → Good K M env σ F H → PostE K cls M E0 (frE x) σ F H (ev G x env) Q → tE K cls G gv E0 x σ H Q
def TOk (x : E) : Prop := ∀ (M : Addr → Prop) (E0 : XK) (env : En) (σ : L2.St) (F H : Hp) (Q : Bool → Hp → Prop), okT x = true → wfE x = true → Good K M env σ F H → PostT K cls M E0 σ F H (ev G x env) Q → tT K cls G gv E0 x σ H Q
def AOk (a : A) : Prop := ∀ (M : Addr → Prop) (E0 : XK) (env : En) (σ : L2.St) (F H : Hp) (Q : VK), wfA a = true → Good K M env σ F H → PostA K cls M E0 σ F H (evA G a env) Q → tA K cls G gv E0 a σ H Q
def AsOk (as : List A) : Prop := ∀ (M : Addr → Prop) (E0 : XK) (env : En) (σ : L2.St) (F H : Hp) (Q : List V → Hp → Prop), wfAs as = true → Good K M env σ F H → PostAs K cls M E0 σ F H (evAs G as env) Q → tAs K cls G gv E0 as σ H Q
def IOk (it : It) : Prop := ∀ (M : Addr → Prop) (E0 : XK) (env : En) (σ : L2.St) (F H : Hp) (Q : L2.It → Hp → Prop), wfI it = true → Good K M env σ F H → PostI K cls M E0 σ F H (evIt G it env) Q → tI K cls G gv E0 it σ H Q
end
section
variable {K : PySem.W.Frag} {cls : Nat → Value} {G : Gam} {gv : Gv}
theorem c_var {i : Nat} : EOk K cls G gv (.var i) := by
    intro M E0 env σ F H Q w g p
    obtain ⟨d, e, q⟩ := postE_of (show PostE K cls M E0 false σ F H (R.of (getE env i) env) Q from p)
    obtain ⟨v, h1, h2⟩ := g.im i d (getE_some e)
    exact ⟨v, h1, q v F H (Stp.refl g.ex) g h2⟩
theorem c_move {i : Nat} : EOk K cls G gv (.move i) := by
    intro M E0 env σ F H Q w g p
    simp only [ev] at p
    cases e : getA env i with
    | none =>
      rw [e] at p
      exact p.elim
    | some d =>
      rw [e] at p
      obtain ⟨v, F', h1, s, g', r⟩ := good_move g e
      exact ⟨v, h1, p v F' H s g' r⟩
theorem c_cst {d : D} : EOk K cls G gv (.cst d) := by
    intro M E0 env σ F H Q w g p
    simp only [ev] at p
    cases d with
    | none => exact p _ F H (Stp.refl g.ex) g .non
    | bool b => exact p _ F H (Stp.refl g.ex) g (.bl b)
    | int b => exact p _ F H (Stp.refl g.ex) g (.int b)
    | str b => exact p _ F H (Stp.refl g.ex) g (.str b)
    | list b => simp [wfE] at w
    | tuple b => simp [wfE] at w
    | dict b => simp [wfE] at w
theorem c_glob {n : Nat} (hgl : ∀ n d, G.gl n = some d → ∀ F : Hp, Rp K F (gv.gl n) d) : EOk K cls G gv (.glob n) := by
    intro M E0 env σ F H Q w g p
    obtain ⟨d, e, q⟩ := postE_of (show PostE K cls M E0 false σ F H (R.of (G.gl n) env) Q from p)
    exact q _ F H (Stp.refl g.ex) g (hgl n d e F)
theorem c_op {k : Op} {as : List A} (es : AsOk K cls G gv as) : EOk K cls G gv (.op k as) := by
    intro M E0 env σ F H Q w g p
    simp only [ev] at p
    refine es M E0 env σ F H (fun vs H1 => rd K k vs H1 Q) (by simpa [wfE] using w) g (bindAs_ok p fun ss env' e p2 => ?_)
    intro vs F1 H1 s g1 f
    obtain ⟨d, e2, q⟩ := postE_of p2
    obtain ⟨ds, e3, e4⟩ := Option.bind_eq_some_iff.mp e2
    refine rd_ok (M := fun _ => False) g1.ex (vw_of g1 f e3) e4 fun v F' H' s2 r => ?_
    exact q v F' H' (s.trans (s2.sub fun _ z => z.elim)) (good_step g1 s2) (r.back s)
theorem c_and {a b : E} (ea : EOk K cls G gv a) (eb : EOk K cls G gv b) : EOk K cls G gv (.and a b) := by
    intro M E0 env σ F H Q w g p
    simp only [ev] at p
    simp only [wfE, Bool.and_eq_true] at w
    refine ea M E0 env σ F H _ w.1 g (PostE.fz g (bind_ok p fun d env' e p2 => ?_))
    intro v F1 H1 s g1 r
    cases d with
    | bool c =>
      cases r
      refine ⟨c, rfl, ?_⟩
      cases c with
      | true => exact iteT (eb M E0 env' σ F1 H1 Q w.2 g1 (PostE.fz g1 (p2.shift s)))
      | false => exact iteF (p2 _ F1 H1 s g1 (.bl false))
    | _ => exact p2.elim
theorem c_or {a b : E} (ea : EOk K cls G gv a) (eb : EOk K cls G gv b) : EOk K cls G gv (.or a b) := by
    intro M E0 env σ F H Q w g p
    simp only [ev] at p
    simp only [wfE, Bool.and_eq_true] at w
    refine ea M E0 env σ F H _ w.1 g (PostE.fz g (bind_ok p fun d env' e p2 => ?_))
    intro v F1 H1 s g1 r
    cases d with
    | bool c =>
      cases r
      refine ⟨c, rfl, ?_⟩
      cases c with
      | true => exact iteT (p2 _ F1 H1 s g1 (.bl true))
      | false => exact iteF (eb M E0 env' σ F1 H1 Q w.2 g1 (PostE.fz g1 (p2.shift s)))
    | _ => exact p2.elim
theorem truth_ok {K : PySem.W.Frag} {F H : Hp} {v : V} {d : D} {b : Bool} (e : Ex F H) (r : Rp K F v d) (h : truthD d = some b) : TruV K v H b := by
  cases d with
  | none =>
    cases r
    cases h
    rfl
  | list ds =>
    cases r with
    | @lst a vs _ h1 h2 h3 =>
      have hl := h3.length
      have hb : (!ds.isEmpty) = b := Option.some.inj h
      exact .inl ⟨vs, SqL.of (e _ _ h1), by rw [← hb]; cases h3 <;> rfl⟩
  | _ => cases h
theorem c_orT {a b : E} (ea : EOk K cls G gv a) (eb : EOk K cls G gv b) : EOk K cls G gv (.orT a b) := by
    intro M E0 env σ F H Q w g p
    simp only [ev] at p
    simp only [wfE, Bool.and_eq_true] at w
    refine ea M E0 env σ F H _ w.1 g (PostE.fz g (bind_ok p fun d env' e p2 => ?_))
    intro v F1 H1 s g1 r
    cases ht : truthD d with
    | none =>
      rw [ht] at p2
      exact p2.elim
    | some c =>
      rw [ht] at p2
      refine ⟨c, truth_ok g1.ex r ht, ?_⟩
      cases c with
      | true => exact iteT (p2 _ F1 H1 s g1 r)
      | false => exact iteF (eb M E0 env' σ F1 H1 Q w.2 g1 (PostE.fz g1 (p2.shift s)))
theorem c_not {a : E} (ea : EOk K cls G gv a) : EOk K cls G gv (.not a) := by
    intro M E0 env σ F H Q w g p
    simp only [ev] at p
    refine ea M E0 env σ F H _ (by simpa [wfE] using w) g (PostE.fz g (bind_ok p fun d env' e p2 => ?_))
    intro v F1 H1 s g1 r
    cases d with
    | bool c =>
      cases r
      exact ⟨c, rfl, p2 _ F1 H1 s g1 (.bl (!c))⟩
    | _ => exact p2.elim
theorem c_ite {a b c : E} (tc : TOk K cls G gv c) (ea : EOk K cls G gv a) (eb : EOk K cls G gv b) : EOk K cls G gv (.ite c a b) := by
    intro M E0 env σ F H Q w g p
    simp only [ev] at p
    simp only [wfE, Bool.and_eq_true] at w
    refine tc M E0 env σ F H _ w.1.1.1 w.1.1.2 g ?_
    cases e : ev G c env with
    | ok d env' =>
      rw [e] at p
      simp only [R.bind_ok] at p
      cases d with
      | bool k =>
        refine ⟨k, rfl, fun F1 H1 s g1 => ?_⟩
        cases k with
        | true => exact iteT (ea M E0 env' σ F1 H1 Q w.1.2 g1 (PostE.fz g1 (p.shift s)))
        | false => exact iteF (eb M E0 env' σ F1 H1 Q w.2 g1 (PostE.fz g1 (p.shift s)))
      | _ => exact p.elim
    | exc c env' =>
      rw [e] at p
      exact p
    | stuck =>
      rw [e] at p
      exact p.elim
theorem c_leLe {a b c : E} (ea : EOk K cls G gv a) (eb : EOk K cls G gv b) (ec : EOk K cls G gv c) : EOk K cls G gv (.leLe a b c) := by
    intro M E0 env σ F H Q w g p
    simp only [ev] at p
    simp only [wfE, Bool.and_eq_true] at w
    refine ea M E0 env σ F H _ w.1.1 g (PostE.fz g (bind_ok p fun d env1 e p2 => ?_))
    intro v F1 H1 s g1 r
    refine eb M E0 env1 σ F1 H1 _ w.1.2 g1 (PostE.fz g1 (bind_ok (p2.shift s) fun d2 env2 e2 p3 => ?_))
    intro v2 F2 H2 s2 g2 r2
    cases d with
    | int i =>
      cases d2 with
      | int j =>
        cases r
        cases r2
        refine ⟨i, j, rfl, rfl, decide (i ≤ j), rfl, ?_⟩
        simp only at p3
        by_cases hij : i ≤ j
        · rw [if_pos hij] at p3
          rw [if_pos (decide_eq_true hij)]
          refine ec M E0 env2 σ F2 H2 _ w.2 g2 (PostE.fz g2 (bind_ok (p3.shift s2) fun d3 env3 e3 p4 => ?_))
          intro v3 F3 H3 s3 g3 r3
          cases d3 with
          | int k =>
            cases r3
            exact ⟨j, k, rfl, rfl, p4 _ F3 H3 s3 g3 (.bl _)⟩
          | _ => exact p4.elim
        · rw [if_neg hij] at p3
          rw [if_neg (by simpa using hij)]
          exact p3 _ F2 H2 s2 g2 (.bl false)
      | _ => exact p3.elim
    | _ => cases d2 <;> exact p3.elim
theorem c_tup {as : List A} (es : AsOk K cls G gv as) : EOk K cls G gv (.tup as) := by
    intro M E0 env σ F H Q w g p
    simp only [ev] at p
    refine es M E0 env σ F H (fun vs H1 => vs.length ≤ sizeLine ∧ ∀ p, H1 p = none → Q (.ref p) (upd H1 p (.tup vs))) (by simpa [wfE] using w) g (bindAs_ok p fun ss env' e p2 => ?_)
    intro vs F1 H1 s g1 f
    obtain ⟨d, e2, q⟩ := postE_of p2
    obtain ⟨ds, e3, e4⟩ := Option.bind_eq_some_iff.mp e2
    split at e4
    · rename_i hc
      cases e4
      simp only [Bool.and_eq_true, decide_eq_true_eq] at hc
      have r := disp_items f e3 hc.1
      refine ⟨by rw [r.length]; exact hc.2, fun p hp => ?_⟩
      have s2 : Stp (fun _ => False) F1 H1 (upd F1 p (.tup vs)) (upd H1 p (.tup vs)) := Stp.new g1.ex hp
      exact q _ _ _ (s.trans (s2.sub fun _ z => z.elim)) (good_step g1 s2) (tup_at g1.ex hp (by rw [r.length]; exact hc.2) r)
    · cases e4
theorem c_lst {as : List A} (es : AsOk K cls G gv as) : EOk K cls G gv (.lst as) := by
    intro M E0 env σ F H Q w g p
    simp only [ev] at p
    refine es M E0 env σ F H (fun vs H1 => vs.length ≤ sizeLine ∧ ∀ p, H1 p = none → Q (.ref p) (upd H1 p (.lst vs))) (by simpa [wfE] using w) g (bindAs_ok p fun ss env' e p2 => ?_)
    intro vs F1 H1 s g1 f
    obtain ⟨d, e2, q⟩ := postE_of p2
    obtain ⟨ds, e3, e4⟩ := Option.bind_eq_some_iff.mp e2
    split at e4
    · rename_i hc
      cases e4
      simp only [Bool.and_eq_true, decide_eq_true_eq] at hc
      have r := disp_items f e3 hc.1
      refine ⟨by rw [r.length]; exact hc.2, fun p hp => ?_⟩
      have s2 : Stp (fun _ => False) F1 H1 F1 (upd H1 p (.lst vs)) := Stp.lay g1.ex hp
      refine q _ _ _ (s.trans (s2.sub fun _ z => z.elim)) (good_step g1 s2) ?_
      exact Res.back (fr := true) s (fresh_at (F' := F1) g1.ex hp (by rw [r.length]; exact hc.2) r)
    · cases e4
theorem c_call {f : Nat} {as : List A} (es : AsOk K cls G gv as) : EOk K cls G gv (.call f as) := by
    intro M E0 env σ F H Q w g p
    simp only [ev] at p
    simp only [tE]
    cases hf : G.fn f with
    | none =>
      rw [hf] at p
      exact p.elim
    | some mf =>
      obtain ⟨ms, fn⟩ := mf
      rw [hf] at p
      simp only at p ⊢
      refine es M E0 env σ F H (fun vs H1 => spF K cls ms fn (vs ++ []) H1 Q E0) (by simpa [wfE] using w) g (bindAs_ok p fun ss env' e p2 => ?_)
      intro vs F1 H1 s g1 fo
      unfold callF at p2
      split at p2
      · rename_i hc
        obtain ⟨hm, hn⟩ := hc
        subst hm
        cases er : resolveM env' ss with
        | none =>
          rw [er] at p2
          exact p2.elim
        | some ds =>
          rw [er] at p2
          have nd := nodupB_iff hn
          obtain ⟨a1, a2, a3⟩ := args_ok g1 fo er nd
          refine ⟨F1, ds, g1.ex, by simpa using a1, by simpa using a2, ?_⟩
          simp only at p2
          rw [List.append_nil]
          unfold EndF
          cases en : fn ds with
          | ok d outs =>
            rw [en] at p2
            simp only at p2 ⊢
            intro v F' H' s2 r o
            cases ep : putOuts (ownsOf ss) outs env' with
            | none =>
              rw [ep] at p2
              exact p2.elim
            | some env2 =>
              rw [ep] at p2
              exact p2 v F' H' (s.trans (s2.sub a3)) (good_call g1 fo er nd s2 o ep) r
          | exc c outs =>
            rw [en] at p2
            simp only at p2 ⊢
            intro F' H' s2 o
            cases ep : putOuts (ownsOf ss) outs env' with
            | none =>
              rw [ep] at p2
              exact p2.elim
            | some env2 =>
              rw [ep] at p2
              exact p2 F' H' (s.trans (s2.sub a3)) (good_call g1 fo er nd s2 o ep)
          | stuck =>
            rw [en] at p2
            exact p2.elim
      · exact p2.elim
/-! ### a call whose list is the caller's own -/
/-- the known tuples, what is known to the object, the lists of A -/
def onlyA (A : List Addr) (F : Hp) : Hp := fun a => match F a with
  | some (.tup vs) => some (.tup vs)
  | some (.frz o u) => some (.frz o u)
  | some u => if a ∈ A then some u else none
  | none => none
theorem onlyA_sub {A : List Addr} {F : Hp} {a : Addr} {o : HO} (h : onlyA A F a = some o) : F a = some o := by
  unfold onlyA at h
  split at h
  · rename_i vs e
    rw [e, ← h]
  · rename_i o vs e
    rw [e, ← h]
  · rename_i u e
    split at h
    · rw [‹F a = some _›, ← h]
    · cases h
  · cases h
theorem onlyA_lst {A : List Addr} {F : Hp} {a : Addr} {us : List V} (h : onlyA A F a = some (.lst us)) : a ∈ A := by
  unfold onlyA at h
  split at h
  · cases h
  · cases h
  · split at h
    · assumption
    · cases h
  · cases h
theorem onlyA_mem {A : List Addr} {F : Hp} {a : Addr} {u : HO} (ha : a ∈ A) (h : F a = some u) : onlyA A F a = some u := by
  unfold onlyA
  rw [h]
  split
  · rename_i e; exact e.symm
  · rename_i e; exact e.symm
  · rw [if_pos ha, ‹some u = some _›]
  · rename_i e; cases e
theorem onlyA_tup {A : List Addr} {F : Hp} {a : Addr} {vs : List V} (e : F a = some (.tup vs)) : onlyA A F a = some (.tup vs) := by
  unfold onlyA
  rw [e]
theorem onlyA_frz {A : List Addr} {F : Hp} {a : Addr} {o : Obj} {u : HO} (e : F a = some (.frz o u)) : onlyA A F a = some (.frz o u) := by
  unfold onlyA
  rw [e]
theorem onlyA_u {K : PySem.W.Frag} {A : List Addr} {F : Hp} (a : Addr) (vs : List V) (h : SqU K F a vs) : SqU K (onlyA A F) a vs := by
  refine ⟨?_, fun z => onlyA_tup (h.2 z)⟩
  rcases h.1 with (e | ⟨o, e⟩) | e
  · exact .inl (.inl (onlyA_tup e))
  · exact .inl (.inr ⟨o, onlyA_frz e⟩)
  · exact .inr e
theorem onlyA_f {K : PySem.W.Frag} {A : List Addr} {F : Hp} {a : Addr} {vs : List V} (h : SqF K F a vs) : SqF K (onlyA A F) a vs := by
  rcases h with ⟨o, e⟩ | e
  · exact .inl ⟨o, onlyA_frz e⟩
  · exact .inr e
mutual
theorem rp_tupOnly {F' : Hp} (hf : ∀ (a : Addr) (vs : List V), SqU K F a vs → SqU K F' a vs) : ∀ {d : D} {v : V}, noL d = true → Rp K F v d → Rp K F' v d
  | _, _, _, .non => .non
  | _, _, _, .bl b => .bl b
  | _, _, _, .int i => .int i
  | _, _, _, .str x => .str x
  | _, _, h, .tup h1 h2 h3 => .tup (hf _ _ h1) h2 (rpA_tupOnly hf (by simpa [noL] using h) h3)
  | _, _, h, .lst _ _ _ => by simp [noL] at h
  | _, _, h, .dk _ _ => by simp [noL] at h
  | _, _, h, .dt _ _ => by simp [noL] at h
  | _, _, h, .scr _ _ => by simp [noL, scr] at h
theorem rpA_tupOnly {F' : Hp} (hf : ∀ (a : Addr) (vs : List V), SqU K F a vs → SqU K F' a vs) : ∀ {ds : List D} {vs : List V}, noLs ds = true → RpA K F vs ds → RpA K F' vs ds
  | _, _, _, .nil => .nil
  | _, _, h, .cons h1 h2 => by
    simp only [noLs, Bool.and_eq_true] at h
    exact .cons (rp_tupOnly hf h.1 h1) (rpA_tupOnly hf h.2 h2)
end
/-- the known lists among the arguments -/
def lstArgs : List Bool → List V → List D → List Addr
  | false :: ms, .ref a :: vs, .list _ :: ds => a :: lstArgs ms vs ds
  | _ :: ms, _ :: vs, _ :: ds => lstArgs ms vs ds
  | _, _, _ => []
theorem rp_argF {A : List Addr} {F F' : Hp} (hf : ∀ (a : Addr) (vs : List V), SqU K F a vs → SqU K F' a vs) (hs : ∀ (a : Addr) (vs : List V), SqF K F a vs → SqF K F' a vs) {d : D} {v : V} (h : argF d = true) (hl : ∀ (a : Addr) (vs : List V) (es : List D), v = .ref a → d = .list es → F a = some (.lst vs) → F' a = some (.lst vs)) (r : Rp K F v d) : Rp K F' v d := by
  unfold argF at h
  rw [Bool.or_eq_true, Bool.or_eq_true] at h
  rcases h with (h | h) | h
  · exact rp_tupOnly hf h r
  · cases r with
    | scr ns h1 => exact .scr ns (hs _ _ h1)
    | dk h1 h2 =>
      cases h2 with
      | nil => cases h
      | cons k1 k2 => cases h
    | dt h1 h2 => cases h2 <;> cases h
    | _ => cases h
  · cases r with
    | lst h1 h2 h3 => exact .lst (hl _ _ _ rfl rfl h1) h2 (rpA_tupOnly hf h h3)
    | _ => cases h
theorem cont_outOk {F F' : Hp} (hf : ∀ (a : Addr) (vs : List V), SqU K F a vs → SqU K F' a vs) {o : HO} {d : D} (h : outOk d = true) (c : Cont K F o d) : Cont K F' o d := by
  cases c with
  | lst h1 h2 => exact .lst h1 (rpA_tupOnly hf h h2)
  | dk _ => cases h
  | dt _ => cases h
theorem args_only {F H : Hp} {A : List Addr} : ∀ {ms : List Bool} {vs : List V} {ds : List D}, argsF ms ds = true → ArgsOk K F H ms vs ds → (∀ a ∈ lstArgs ms vs ds, a ∈ A) → ArgsOk K (onlyA A F) H ms vs ds
  | _, _, _, _, .nil, _ => .nil
  | false :: ms, v :: vs, d :: ds, hm, .im h1 h2, hA => by
    have hm : (argF d && argsF ms ds) = true := hm
    rw [Bool.and_eq_true] at hm
    refine .im (rp_argF (A := A) onlyA_u (fun a vs => onlyA_f) hm.1 (fun a us es ev ed hF => ?_) h1) (args_only hm.2 h2 fun a ha => hA a ?_)
    · subst ev
      subst ed
      exact onlyA_mem (hA a (by simp [lstArgs])) hF
    · unfold lstArgs
      split
      · rename_i e1 e2 e3 <;> cases e1 <;> cases e2 <;> cases e3
        exact List.mem_cons_of_mem _ ha
      · rename_i e1 e2 e3 <;> cases e1 <;> cases e2 <;> cases e3
        exact ha
      · rename_i hn; exact (hn _ _ _ _ _ _ rfl rfl rfl).elim
  | true :: ms, _ :: vs, d :: ds, hm, .mu h1 h2 h3 h4, hA => by
    have hm : (outOk d && argsF ms ds) = true := hm
    rw [Bool.and_eq_true] at hm
    refine .mu ?_ h2 (cont_outOk onlyA_u hm.1 h3) (args_only hm.2 h4 fun a ha => hA a ?_)
    · cases q : onlyA A F _ with
      | none => rfl
      | some u =>
        rw [onlyA_sub q] at h1
        cases h1
    · simpa [lstArgs] using ha
theorem outs_none {F H : Hp} : ∀ {ms : List Bool} {vs : List V} {ds : List D}, OutsOk K F H ms vs ds → ∀ a ∈ ownAddrs ms vs, F a = none
  | _, _, _, .nil, a, h => by cases h
  | _, _, _, .im h2, a, h => outs_none h2 a (by simpa [ownAddrs] using h)
  | _, _, _, .mu h1 h2 h3 h4, a, h => by
    simp only [ownAddrs, List.mem_cons] at h
    rcases h with e | h
    · rw [e]; exact h1
    · exact outs_none h4 a h
theorem args_none {F H : Hp} : ∀ {ms : List Bool} {vs : List V} {ds : List D}, ArgsOk K F H ms vs ds → ∀ a ∈ ownAddrs ms vs, F a = none
  | _, _, _, .nil, a, h => by cases h
  | _, _, _, .im _ h2, a, h => args_none h2 a (by simpa [ownAddrs] using h)
  | _, _, _, .mu h1 h2 h3 h4, a, h => by
    simp only [ownAddrs, List.mem_cons] at h
    rcases h with e | h
    · rw [e]; exact h1
    · exact args_none h4 a h
theorem outs_only {F F' H : Hp} (hf : ∀ (a : Addr) (vs : List V), SqU K F a vs → SqU K F' a vs) : ∀ {ms : List Bool} {vs : List V} {ds : List D}, ds.all outOk = true → (∀ a ∈ ownAddrs ms vs, F' a = none) → OutsOk K F H ms vs ds → OutsOk K F' H ms vs ds
  | _, _, _, _, _, .nil => .nil
  | _, _, _, ho, hn, .im h2 => .im (outs_only hf ho (fun a ha => hn a (by simpa [ownAddrs] using ha)) h2)
  | _, _, _, ho, hn, .mu h1 h2 h3 h4 => by
    simp only [List.all_cons, Bool.and_eq_true] at ho
    exact .mu (hn _ (by simp [ownAddrs])) h2 (cont_outOk hf ho.1 h3) (outs_only hf ho.2 (fun a ha => hn a (by simp [ownAddrs, ha])) h4)
/-! nothing bears both -/
theorem noStr_rp {F : Hp} : ∀ {vs : List V} {ds : List D}, ds.all noStrD = true → RpA K F vs ds → vs.all noStrV = true
  | _, [], _, h => by cases h; rfl
  | _, d :: ds, hn, h => by
    cases h with
    | cons h1 h2 =>
      simp only [List.all_cons, Bool.and_eq_true] at hn ⊢
      refine ⟨?_, noStr_rp hn.2 h2⟩
      cases h1 <;> first | rfl | exact absurd hn.1 (by simp [noStrD])
section
variable {F F' : Hp} (hc : ∀ (a : Addr) (u u' : HO), F a = some u → F' a = some u' → u = u')
include hc
mutual
theorem apart_false : ∀ (x y : D) (v : V), apart x y = true → Rp K F v x → Rp K F' v y → False
  | .none, y, v, h, r, r' => by
    cases r
    cases r'
    simp [apart, kindN] at h
  | .bool b, y, v, h, r, r' => by
    cases r
    cases r'
    simp [apart, kindN] at h
  | .int i, y, v, h, r, r' => by
    cases r
    cases r'
    simp [apart] at h
  | .str x, y, v, h, r, r' => by
    cases r
    cases r'
    simp [apart, kindN] at h
  | .list xs, y, v, h, r, r' => by
    cases r with
    | lst h1 h2 h3 =>
      cases r' with
      | lst k1 k2 k3 =>
        have e := hc _ _ _ h1 k1
        injection e with e
        subst e
        exact apartL_false xs _ _ (by simpa [apart] using h) h3 k3
      | tup k1 k2 k3 =>
        have e := hc _ _ _ h1 (k1.2 (noStr_rp (by simpa [apart] using h) k3))
        cases e
      | dk _ _ => simp [apart] at h
      | dt _ _ => simp [apart] at h
      | scr _ _ => simp [apart, scr] at h
  | .tuple xs, y, v, h, r, r' => by
    cases r with
    | tup h1 h2 h3 =>
      cases r' with
      | lst k1 k2 k3 =>
        have e := hc _ _ _ (h1.2 (noStr_rp (by simpa [apart] using h) h3)) k1
        cases e
      | tup k1 k2 k3 =>
        simp only [apart, Bool.and_eq_true] at h
        have e := hc _ _ _ (h1.2 (noStr_rp h.1.1 h3)) (k1.2 (noStr_rp h.1.2 k3))
        injection e with e
        subst e
        exact apartL_false xs _ _ h.2 h3 k3
      | dk _ _ => simp [apart] at h
      | dt _ _ => simp [apart] at h
      | scr _ _ => simp [apart, scr] at h
  | .dict es, y, v, h, r, r' => by simp [apart] at h
theorem apartL_false : ∀ (xs ys : List D) (vs : List V), apartL xs ys = true → RpA K F vs xs → RpA K F' vs ys → False
  | [], ys, vs, h, r, r' => by
    cases r
    cases r'
    simp [apartL] at h
  | x :: xs, ys, vs, h, r, r' => by
    cases r with
    | cons h1 h2 =>
      cases r' with
      | cons k1 k2 =>
        simp only [apartL, Bool.or_eq_true] at h
        rcases h with h | h
        · exact apart_false x _ _ h h1 k1
        · exact apartL_false xs _ _ h h2 k2
end
end
theorem lst_arg {F H : Hp} {e : D} : ∀ {ms : List Bool} {vs : List V} {ds : List D} {a : Addr}, ArgsOk K F H ms vs ds → apartA ms ds e = true → a ∈ lstArgs ms vs ds → ∃ es, Rp K F (.ref a) (.list es) ∧ apart (.list es) e = true
  | _, _, _, a, .nil, _, h => by cases h
  | false :: ms, v :: vs, d :: ds, a, .im h1 h2, hp, h => by
    unfold lstArgs at h
    split at h
    · rename_i e1 e2 e3 <;> cases e1 <;> cases e2 <;> cases e3
      simp only [apartA, Bool.and_eq_true] at hp
      rcases List.mem_cons.mp h with z | z
      · rw [z]; exact ⟨_, h1, hp.1⟩
      · exact lst_arg h2 hp.2 z
    · rename_i hn e1 e2 e3 <;> cases e1 <;> cases e2 <;> cases e3
      refine lst_arg h2 ?_ h
      unfold apartA at hp
      split at hp
      · rename_i e1 e2 <;> cases e1 <;> cases e2
        rw [Bool.and_eq_true] at hp
        exact hp.2
      · rename_i e1 e2 <;> cases e1 <;> cases e2
        exact hp
      · rename_i hn2; exact (hn2 _ _ _ _ rfl rfl).elim
    · cases h
  | true :: ms, _ :: vs, d :: ds, a, .mu h1 h2 h3 h4, hp, h => lst_arg h4 (by simpa [apartA] using hp) (by simpa [lstArgs] using h)
theorem no_lst : ∀ {ms : List Bool} {vs : List V} {ds : List D} {e : D}, noLstA ms ds = true → apartA ms ds e = true
  | [], _, _, _, _ => by unfold apartA; rfl
  | m :: _, _, [], _, _ => by cases m <;> rfl
  | true :: ms, vs, d :: ds, e, h => by
    have h : noLstA ms ds = true := by simpa [noLstA] using h
    have := no_lst (vs := vs) (e := e) h
    simpa [apartA] using this
  | false :: ms, vs, d :: ds, e, h => by
    cases d with
    | list es => simp [noLstA] at h
    | _ =>
      have h : noLstA ms ds = true := by simpa [noLstA] using h
      have := no_lst (vs := vs) (e := e) h
      simpa [apartA] using this
open Classical in
/-- what is known behind a call that knew Fg alone, but for the new lists N -/
theorem call_shr {own : Addr → Prop} {F1 H1 Fg F' H' : Hp} (e1 : Ex F1 H1) (hg : ∀ a o, Fg a = some o → F1 a = some o) (ho : ∀ a, own a → F1 a = none ∧ F' a = none) (s2 : Stp own Fg H1 F' H') (N : Addr → Prop) (hN : ∀ q, N q → H1 q = none) :
    ∃ F2, Stp own F1 H1 F2 H' ∧ (∀ q, N q → F2 q = none) ∧ (∀ a u, ¬ N a → F' a = some u → F2 a = some u) ∧ ∀ a, own a → F2 a = none := by
  let F2 : Hp := fun a => match F1 a with
    | some u => some u
    | none => if N a then none else F' a
  have f2a : ∀ a u, F1 a = some u → F2 a = some u := fun a u e => by
    show (match F1 a with | some u => some u | none => if N a then none else F' a) = _
    rw [e]
  have f2b : ∀ a, F1 a = none → F2 a = if N a then none else F' a := fun a e => by
    show (match F1 a with | some u => some u | none => if N a then none else F' a) = _
    rw [e]
  have nown : ∀ a u, F1 a = some u → ¬ own a := fun a u e z => by
    rw [(ho a z).1] at e
    cases e
  refine ⟨F2, ⟨f2a, fun a u e => ?_, fun a h0 h2 h3 => ?_, s2.k, s2.t⟩, fun q hq => ?_, fun a u hn e => ?_, fun a ha => ?_⟩
  · cases q : F1 a with
    | some u' =>
      rw [f2a a u' q] at e
      cases e
      exact s2.k a u (nown a u q) (e1 a u q)
    | none =>
      rw [f2b a q] at e
      split at e
      · cases e
      · exact s2.x a u e
  · rw [f2b a h3]
    split
    · rfl
    · refine s2.n a h0 h2 ?_
      cases q : Fg a with
      | none => rfl
      | some u =>
        rw [hg a u q] at h3
        cases h3
  · rw [f2b q (ex_none e1 (hN q hq)), if_pos hq]
  · cases q : F1 a with
    | none => rw [f2b a q, if_neg hn, e]
    | some u' =>
      have h1 := s2.k a u' (nown a u' q) (e1 a u' q)
      have h2 := s2.x a u e
      rw [h1] at h2
      cases h2
      exact f2a a _ q
  · rw [f2b a (ho a ha).1]
    split
    · rfl
    · exact (ho a ha).2
/-- a list that comes back is new -/
theorem call_fresh {own : Addr → Prop} {F1 H1 F' H' : Hp} {A : List Addr} {q : Addr} {us : List V} (e1 : Ex F1 H1) (ho : ∀ a, own a → F1 a = none ∧ F' a = none) (s2 : Stp own (onlyA A F1) H1 F' H') (hq : F' q = some (.lst us)) (ha : q ∈ A → False) : H1 q = none := by
  cases hh : H1 q with
  | none => rfl
  | some u =>
    exfalso
    by_cases h0 : own q
    · rw [(ho q h0).2] at hq
      cases hq
    cases hs : onlyA A F1 q with
    | none =>
      have := s2.n q h0 (by rw [hh]; exact fun z => nomatch z) hs
      rw [this] at hq
      cases hq
    | some u' =>
      have e2 := s2.f q u' hs
      rw [hq] at e2
      cases e2
      exact ha (onlyA_lst hs)
theorem call_compat {own : Addr → Prop} {F1 H1 Fg F' H' : Hp} (e1 : Ex F1 H1) (ho : ∀ a, own a → F1 a = none ∧ F' a = none) (s2 : Stp own Fg H1 F' H') (a : Addr) (u u' : HO) (h : F1 a = some u) (h' : F' a = some u') : u = u' := by
  have n : ¬ own a := fun z => by
    rw [(ho a z).1] at h
    cases h
  have k1 := s2.k a u n (e1 a u h)
  have k2 := s2.x a u' h'
  rw [k1] at k2
  cases k2
  rfl
theorem agree_u {F F' : Hp} {p : Addr → Prop} (hp : ∀ a, p a → ∃ us, F a = some (.lst us)) (ag : ∀ a u, ¬ p a → F a = some u → F' a = some u) (a : Addr) (vs : List V) (h : SqU K F a vs) : SqU K F' a vs := by
  have np : ∀ u, F a = some u → (∀ us, u ≠ .lst us) → ¬ p a := fun u e z w => by
    obtain ⟨us, e'⟩ := hp a w
    rw [e] at e'
    cases e'
    exact z us rfl
  have tp : F a = some (.tup vs) → F' a = some (.tup vs) := fun e => ag a _ (np _ e fun us z => by cases z) e
  refine ⟨?_, fun z => tp (h.2 z)⟩
  rcases h.1 with (e | ⟨o, e⟩) | e
  · exact .inl (.inl (tp e))
  · exact .inl (.inr ⟨o, ag a _ (np _ e fun us z => by cases z) e⟩)
  · exact .inr e
theorem rpA_ints {F : Hp} : ∀ {ws : List V} {ds : List D}, ds.all isIntD = true → RpA K F ws ds → ∀ w ∈ ws, ∃ i, w = V.int i
  | [], [], _, .nil, w, h => by cases h
  | _ :: _, d :: _, ha, .cons h1 h2, w, h => by
    simp only [List.all_cons, Bool.and_eq_true] at ha
    rcases List.mem_cons.mp h with rfl | h
    · cases d with
      | int i =>
        cases h1
        exact ⟨i, rfl⟩
      | _ => exact absurd ha.1 (by simp [isIntD])
    · exact rpA_ints ha.2 h2 w h
theorem rpA_intsTo {F F' : Hp} : ∀ {ws : List V} {ds : List D}, ds.all isIntD = true → RpA K F ws ds → RpA K F' ws ds
  | [], [], _, .nil => .nil
  | _ :: _, d :: _, ha, .cons h1 h2 => by
    simp only [List.all_cons, Bool.and_eq_true] at ha
    refine .cons ?_ (rpA_intsTo ha.2 h2)
    cases d with
    | int i =>
      cases h1
      exact .int i
    | _ => exact absurd ha.1 (by simp [isIntD])
theorem items_to {F F' : Hp} {p : Addr} {us : List V} (hp : F p = some (.lst us)) (ag : ∀ a u, a ≠ p → F a = some u → F' a = some u) : ∀ {ws : List V} {es : List D}, (∀ w ∈ ws, w ∈ us) → es.all itemOk = true → RpA K F ws es → RpA K F' ws es
  | [], [], _, _, .nil => .nil
  | v :: _, d :: _, hs, ha, .cons h1 h2 => by
    simp only [List.all_cons, Bool.and_eq_true] at ha
    refine .cons ?_ (items_to hp ag (fun w z => hs w (List.mem_cons_of_mem _ z)) ha.2 h2)
    have hf : ∀ (a : Addr) (vs : List V), SqU K F a vs → SqU K F' a vs := agree_u (p := fun a => a = p) (fun a z => ⟨us, by rw [z]; exact hp⟩) ag
    cases d with
    | list ds =>
      have hi : ds.all isIntD = true := by simpa [itemOk] using ha.1
      cases h1 with
      | @lst a ws' _ k1 k2 k3 =>
        have hap : a ≠ p := fun z => by
          rw [z, hp] at k1
          cases k1
          obtain ⟨i, hi'⟩ := rpA_ints hi k3 (.ref a) (hs _ List.mem_cons_self)
          cases hi'
        exact .lst (ag a _ hap k1) k2 (rpA_intsTo hi k3)
    | none => exact rp_tupOnly hf (by simpa [itemOk] using ha.1) h1
    | bool b => exact rp_tupOnly hf (by simpa [itemOk] using ha.1) h1
    | int b => exact rp_tupOnly hf (by simpa [itemOk] using ha.1) h1
    | str b => exact rp_tupOnly hf (by simpa [itemOk] using ha.1) h1
    | tuple b => exact rp_tupOnly hf (by simpa [itemOk] using ha.1) h1
    | dict b => exact absurd ha.1 (by simp [itemOk, noL])
theorem c_callF {f : Nat} {as : List A} (es : AsOk K cls G gv as) : EOk K cls G gv (.callF f as) := by
    intro M E0 env σ F H Q w g p
    simp only [ev] at p
    simp only [tE]
    cases hf : G.fn f with
    | none =>
      rw [hf] at p
      exact p.elim
    | some mf =>
      obtain ⟨ms, fn⟩ := mf
      rw [hf] at p
      simp only at p ⊢
      refine es M E0 env σ F H (fun vs H1 => spF K cls ms fn (vs ++ []) H1 Q E0) (by simpa [wfE] using w) g (bindAs_ok p fun ss env' e p2 => ?_)
      intro vs F1 H1 s g1 fo
      unfold callFF at p2
      split at p2
      · rename_i hc
        obtain ⟨hm, hn⟩ := hc
        subst hm
        cases er : resolveM env' ss with
        | none =>
          rw [er] at p2
          exact p2.elim
        | some ds =>
          rw [er] at p2
          simp only at p2
          split at p2
          · rename_i hnl
            have nd := nodupB_iff hn
            obtain ⟨a1, a2, a3⟩ := args_ok g1 fo er nd
            let A := lstArgs (modesOf ss) vs ds
            refine ⟨onlyA A F1, ds, fun a o h => g1.ex a o (onlyA_sub h), by simpa using args_only hnl a1 fun a z => z, by simpa using a2, ?_⟩
            rw [List.append_nil]
            unfold EndF
            cases en : fn ds with
            | ok d outs =>
              rw [en] at p2
              simp only at p2 ⊢
              split at p2
              · rename_i hio
                rw [Bool.and_eq_true, Bool.and_eq_true] at hio
                obtain ⟨hio, hap, hout⟩ := hio
                intro v F' H' s2 r o
                have ho : ∀ a, a ∈ ownAddrs (modesOf ss) vs → F1 a = none ∧ F' a = none := fun a z => ⟨args_none a1 a z, outs_none o a z⟩
                cases d with
                | list es =>
                  have hio : es.all itemOk = true := hio
                  have hr := r
                  cases r with
                  | @lst q us _ h1 hz ra =>
                    have hq : H1 q = none := call_fresh g1.ex ho s2 h1 fun hA => by
                      obtain ⟨es', r1, r2⟩ := lst_arg a1 hap hA
                      exact apart_false (call_compat g1.ex ho s2) _ _ _ r2 r1 hr
                    obtain ⟨F2, s3, n3, ag, no⟩ := call_shr g1.ex (fun a o h => onlyA_sub h) ho s2 (fun a => a = q) (fun a z => by rw [z]; exact hq)
                    have hf2 := agree_u (K := K) (p := fun a => a = q) (fun a z => ⟨us, by rw [z]; exact h1⟩) ag
                    have o2 := outs_only hf2 hout no o
                    cases ep : putOuts (ownsOf ss) outs env' with
                    | none =>
                      rw [ep] at p2
                      exact p2.elim
                    | some env2 =>
                      rw [ep] at p2
                      refine p2 (.ref q) F2 H' (s.trans (s3.sub a3)) (good_call g1 fo er nd s3 o2 ep) ?_
                      exact ⟨q, us, es, rfl, rfl, not_there (s := s) hq, n3 q rfl, s2.x q _ h1, hz, items_to h1 ag (fun w z => z) hio ra⟩
                | _ => exact absurd hio (by simp [itemsOk])
              · exact p2.elim
            | exc c outs =>
              rw [en] at p2
              exact p2.elim
            | stuck =>
              rw [en] at p2
              exact p2.elim
          · exact p2.elim
      · exact p2.elim
theorem call_step {ms : List Bool} {fn : Fn} {as : List A} {M : Addr → Prop} {E0 : XK} {env : En} {σ : L2.St} {F H : Hp} {Q : VK} {fr : Bool} (es : AsOk K cls G gv as) (w : wfAs as = true) (g : Good K M env σ F H) (hfr : fr = false)
    (p : PostE K cls M E0 fr σ F H ((evAs G as env).bind fun vs env' => callF ms fn vs env') Q) : tAs K cls G gv E0 as σ H fun vs H1 => spF K cls ms fn (vs ++ []) H1 Q E0 := by
  subst hfr
  refine es M E0 env σ F H (fun vs H1 => spF K cls ms fn (vs ++ []) H1 Q E0) w g (bindAs_ok p fun ss env' e p2 => ?_)
  intro vs F1 H1 s g1 fo
  unfold callF at p2
  split at p2
  · rename_i hc
    obtain ⟨hm, hn⟩ := hc
    subst hm
    cases er : resolveM env' ss with
    | none =>
      rw [er] at p2
      exact p2.elim
    | some ds =>
      rw [er] at p2
      have nd := nodupB_iff hn
      obtain ⟨a1, a2, a3⟩ := args_ok g1 fo er nd
      refine ⟨F1, ds, g1.ex, by simpa using a1, by simpa using a2, ?_⟩
      simp only at p2
      rw [List.append_nil]
      unfold EndF
      cases en : fn ds with
      | ok d outs =>
        rw [en] at p2
        simp only at p2 ⊢
        intro v F' H' s2 r o
        cases ep : putOuts (ownsOf ss) outs env' with
        | none =>
          rw [ep] at p2
          exact p2.elim
        | some env2 =>
          rw [ep] at p2
          exact p2 v F' H' (s.trans (s2.sub a3)) (good_call g1 fo er nd s2 o ep) r
      | exc c outs =>
        rw [en] at p2
        simp only at p2 ⊢
        intro F' H' s2 o
        cases ep : putOuts (ownsOf ss) outs env' with
        | none =>
          rw [ep] at p2
          exact p2.elim
        | some env2 =>
          rw [ep] at p2
          exact p2 F' H' (s.trans (s2.sub a3)) (good_call g1 fo er nd s2 o ep)
      | stuck =>
        rw [en] at p2
        exact p2.elim
  · exact p2.elim
theorem tCs_ok : ∀ (vs : List V) {σ : L2.St} {H : Hp} {Q : List V → Hp → Prop}, Q vs H → tCs vs σ H Q
  | [], _, _, _, q => q
  | v :: vs, σ, H, Q, q => tCs_ok vs (Q := fun us H1 => Q (v :: us) H1) q
theorem atI_map {α β : Type} (f : α → β) {xs : List α} {j : Int} {x : α} (h : L2.atI xs j = some x) : L2.atI (xs.map f) j = some (f x) ∧ x ∈ xs := by
  unfold L2.atI at *
  rw [List.length_map]
  cases hn : L2.ixN xs.length j with
  | none =>
    rw [hn] at h
    cases h
  | some n =>
    rw [hn] at h
    have h' : xs[n]? = some x := h
    refine ⟨?_, List.mem_of_getElem? h'⟩
    show (xs.map f)[n]? = _
    rw [List.getElem?_map, h']
    rfl
theorem c_sel {fs : List Nat} {ix : E} {as : List A} (ei : EOk K cls G gv ix) (es : AsOk K cls G gv as) : EOk K cls G gv (.sel fs ix as) := by
    intro M E0 env σ F H Q w g p
    simp only [ev] at p
    simp only [tE]
    simp only [wfE, Bool.and_eq_true, decide_eq_true_eq] at w
    obtain ⟨⟨w1, w2⟩, w3⟩ := w
    refine tCs_ok (fs.map gv.fa) ⟨by rw [List.length_map, sizeLine_eq]; omega, fun q hq => ?_⟩
    have s1 : Stp (fun _ => False) F H F (upd H q (.lst (fs.map gv.fa))) := Stp.lay g.ex hq
    have g1 := good_step g s1
    have p1 := p.shift (s1.sub fun _ z => z.elim)
    refine ei M E0 env σ F _ _ w2 g1 (PostE.fz g1 (bind_ok p1 fun d env' e p2 => ?_))
    intro v F1 H1 s g2 r
    cases d with
    | int j =>
      cases r
      simp only at p2
      cases ea : L2.atI fs j with
      | none =>
        rw [ea] at p2
        exact p2.elim
      | some n =>
        rw [ea] at p2
        simp only [Option.bind_some] at p2
        cases ef : G.fn n with
        | none =>
          rw [ef] at p2
          exact p2.elim
        | some mf =>
          rw [ef] at p2
          obtain ⟨ms, fn⟩ := mf
          obtain ⟨a1, a2⟩ := atI_map gv.fa ea
          have hq1 : H1 q = some (.lst (fs.map gv.fa)) := s.k q _ (fun z => g.there q z hq) upd_same
          refine .inl ⟨q, _, j, gv.fa n, rfl, rfl, SqL.of hq1, a1, n, ms, fn, a2, rfl, ef, ?_⟩
          exact call_step es w3 g2 rfl (p2.shift s)
    | _ => exact p2.elim
theorem c_pop {i : Nat} {e : E} (ee : EOk K cls G gv e) : EOk K cls G gv (.pop i e) := by
    intro M E0 env σ F H Q w g p
    simp only [ev] at p
    simp only [tE]
    split at p
    · rename_i hi
      obtain ⟨a, vs, ds, h1, h2, h3, h4, h5⟩ := list_mu g hi
      refine ⟨.ref a, h2, .inl ⟨rfl, _, SqL.of h3⟩, ?_⟩
      refine ee M E0 env σ F H _ (by simpa [wfE] using w) g (PostE.fz g (bind_ok p fun d env' e2 p2 => ?_))
      intro v F1 H1 s g1 r
      cases em : getM env' i with
      | none =>
        rw [em] at p2
        exact p2.elim
      | some c =>
        rw [em] at p2
        cases c with
        | list xs =>
          cases d with
          | int j =>
            cases r
            simp only at p2
            cases eo : popAt xs j with
            | none =>
              rw [eo] at p2
              exact p2.elim
            | some yy =>
              obtain ⟨y, ys⟩ := yy
              rw [eo] at p2
              unfold popAt at eo
              split at eo
              · rename_i hj
                obtain ⟨y', hy, e3⟩ := Option.map_eq_some_iff.mp eo
                cases e3
                have hm := getM_some em
                obtain ⟨b, o, k1, k2, k3, k4, k5⟩ := g1.mu i _ hm
                rw [h2] at k1
                cases k1
                cases k5 with
                | lst k5 k6 =>
                  rename_i us
                  obtain ⟨u, hu, ru⟩ := k6.get hy
                  have hl : us.length = xs.length := k6.length
                  have hs : seqIndex? j us.length = some j.toNat := by
                    unfold seqIndex?
                    have h0 : ¬ j < 0 := by omega
                    simp only [if_neg h0]
                    rw [if_pos]
                    simp only [Bool.and_eq_true, decide_eq_true_eq]
                    omega
                  refine ⟨a, us, j, j.toNat, u, rfl, rfl, k4, by omega, by omega, hs, hu, ?_⟩
                  obtain ⟨g2, s2⟩ := good_chg (o := .lst (us.eraseIdx j.toNat)) (d' := .list (xs.eraseIdx j.toNat)) g1 hm h2 (.lst (Nat.le_trans (List.length_eraseIdx_le us _) k5) (k6.eraseIdx _))
                  exact p2 u F1 _ (s.trans s2) g2 ru
              · cases eo
          | _ => exact p2.elim
        | _ => cases d <;> exact p2.elim
    · exact p.elim
theorem bindA_ok {M : Addr → Prop} {E0 : XK} {env : En} {σ : L2.St} {F H : Hp} {Q : VK} {fr : Bool} {a : A} {f : Sum D Nat → En → R D} {k : VK} (ea : AOk K cls G gv a) (w : wfA a = true) (g : Good K M env σ F H) (p : PostE K cls M E0 fr σ F H ((evA G a env).bind f) Q)
    (h : ∀ s env1 v F1 H1, Stp M F H F1 H1 → Good K M env1 σ F1 H1 → OpdOk K σ F1 s v → PostE K cls M E0 fr σ F1 H1 (f s env1) Q → k v H1) : tA K cls G gv E0 a σ H k := by
  refine ea M E0 env σ F H _ w g ?_
  cases e : evA G a env with
  | exc c env' =>
    rw [e] at p
    exact p
  | stuck =>
    rw [e] at p
    exact p.elim
  | ok s env1 =>
    rw [e] at p
    exact fun v F1 H1 s1 g1 f1 => h s env1 v F1 H1 s1 g1 f1 (p.shift s1)
theorem opd_up {F F1 : Hp} {σ : L2.St} {s : Sum D Nat} {v : V} (e : Ex F F1) (f : OpdOk K σ F s v) : OpdOk K σ F1 s v := by
  cases s with
  | inl d => exact Rp.mono e _ _ f
  | inr i => exact f
theorem c_slB {a : A} {lo hi : E} (ea : AOk K cls G gv a) (el : EOk K cls G gv lo) (eh : EOk K cls G gv hi) : EOk K cls G gv (.slB a lo hi) := by
    intro M E0 env σ F H Q w g p
    simp only [ev] at p
    simp only [tE]
    simp only [wfE, Bool.and_eq_true] at w
    refine bindA_ok ea w.1.1 g p fun sv env1 v F1 H1 s1 g1 f1 p1 => ?_
    refine el M E0 env1 σ F1 H1 _ w.1.2 g1 (PostE.fz g1 (bind_ok p1 fun x env2 e2 p2 => ?_))
    intro u F2 H2 s2 g2 r2
    cases x with
    | int i =>
      cases r2
      refine ⟨i, rfl, ?_⟩
      refine eh M E0 env2 σ F2 H2 _ w.2 g2 (PostE.fz g2 (bind_ok (p2.shift s2) fun y env3 e3 p3 => ?_))
      intro t F3 H3 s3 g3 r3
      cases y with
      | int j =>
        cases r3
        refine ⟨j, rfl, ?_⟩
        obtain ⟨d, h1, q⟩ := postE_of (p3.shift s3)
        obtain ⟨ds, h2, h3⟩ := Option.bind_eq_some_iff.mp h1
        have vw := vw_of g3 (.cons (opd_up (s2.trans s3).f f1) .nil) h2
        have o : On K F3 H3 true d Q := on_of (M := fun _ => False) g3.ex fun v F' H' s r => q v F' H' (s.sub fun _ z => z.elim) (good_step g3 s) r
        have vw3 : VwA K F3 H3 [v, .int i, .int j] (ds ++ [.int i, .int j]) := by
          cases vw with
          | cons a1 a2 =>
            cases a2
            exact .cons a1 (.cons (.imm (.int i)) (.cons (.imm (.int j)) .nil))
        obtain ⟨i', j', e1, e2, q2⟩ := ok_slB o vw3 h3
        cases e1
        cases e2
        exact q2
      | _ => exact p3.elim
    | _ => exact p2.elim
theorem recv_ok {F H : Hp} {k : Op} {v : V} {d : D} (e : Ex F H) (h : recvOk k d = true) (vw : Vw K F H v d) : tyV K (mthTy k) v H := by
  unfold recvOk at h
  split at h
  · obtain ⟨a, vs, rfl, h1, _⟩ := vw.list e
    exact .inl ⟨rfl, _, SqL.of h1⟩
  · cases vw.str
    rfl
  · cases vw.str
    rfl
  · cases vw.str
    rfl
  · cases h
theorem c_mth {k : Op} {a : A} {as : List A} (ea : AOk K cls G gv a) (es : AsOk K cls G gv as) : EOk K cls G gv (.mth k a as) := by
    intro M E0 env σ F H Q w g p
    simp only [ev] at p
    simp only [tE]
    simp only [wfE, Bool.and_eq_true] at w
    refine bindA_ok ea w.1 g p fun sv env1 v F1 H1 s1 g1 f1 p1 => ?_
    split at p1
    · rename_i d hd
      split at p1
      · rename_i hk
        obtain ⟨x, hx, vw⟩ := (vw_of g1 (.cons f1 .nil) hd).one
        cases hx
        refine ⟨recv_ok g1.ex hk vw, ?_⟩
        refine es M E0 env1 σ F1 H1 (fun vs H1 => rd K k (v :: vs) H1 Q) w.2 g1 (bindAs_ok p1 fun ss env' e p2 => ?_)
        intro vs F2 H2 s2 g2 f
        obtain ⟨d2, e2, q⟩ := postE_of (p2.shift s2)
        obtain ⟨ds, e3, e4⟩ := Option.bind_eq_some_iff.mp e2
        refine rd_ok (M := fun _ => False) g2.ex (vw_of g2 (.cons (opd_up s2.f f1) f) e3) e4 fun v F' H' s3 r => ?_
        exact q v F' H' (s3.sub fun _ z => z.elim) (good_step g2 s3) r
      · exact p1.elim
    · exact p1.elim
theorem c_dget {a : A} {k : E} (ea : AOk K cls G gv a) (ek : EOk K cls G gv k) : EOk K cls G gv (.dget a k) := by
    intro M E0 env σ F H Q w g p
    simp only [ev] at p
    simp only [tE]
    simp only [wfE, Bool.and_eq_true] at w
    refine bindA_ok ea w.1 g p fun sv env1 v F1 H1 s1 g1 f1 p1 => ?_
    refine ek M E0 env1 σ F1 H1 _ w.2 g1 (PostE.fz g1 (bind_ok p1 fun x env2 e2 p2 => ?_))
    intro y F2 H2 s2 g2 r2
    obtain ⟨d, h1, q⟩ := postE_of p2
    obtain ⟨ds, h2, h3⟩ := Option.bind_eq_some_iff.mp h1
    have vw := vw_of g2 (.cons (opd_up s2.f f1) .nil) h2
    split at h3
    · cases vw with
      | cons a1 a2 =>
        obtain ⟨b, u, rfl, h4, h5⟩ := get_ok g2.ex a1 r2 h3
        exact ⟨b, u, rfl, h4, q u F2 H2 s2 g2 h5⟩
    · cases h3
theorem c_din {neg : Bool} {a : A} {k : E} (ea : AOk K cls G gv a) (ek : EOk K cls G gv k) : EOk K cls G gv (.din neg k a) := by
    intro M E0 env σ F H Q w g p
    simp only [ev] at p
    simp only [tE]
    simp only [wfE, Bool.and_eq_true] at w
    have main : tE K cls G gv E0 k σ H fun y H1 => tA K cls G gv E0 a σ H1 fun x H2 => ∃ b o, x = .ref b ∧ DGet H2 b y o ∧ Q (.bl (if neg then !o.isSome else o.isSome)) H2 := by
      refine ek M E0 env σ F H _ w.1 g (PostE.fz g (bind_ok p fun x env1 e1 p1 => ?_))
      intro y F1 H1 s1 g1 r1
      refine bindA_ok ea w.2 g1 (p1.shift s1) fun sv env2 v F2 H2 s2 g2 f2 p2 => ?_
      obtain ⟨d, h1, q⟩ := postE_of p2
      obtain ⟨ds, h2, h3⟩ := Option.bind_eq_some_iff.mp h1
      have vw := vw_of g2 (.cons f2 .nil) h2
      split at h3
      · cases vw with
        | cons a1 a2 =>
          obtain ⟨b, o, rfl, h4, h5⟩ := has_ok g2.ex a1 (Rp.mono s2.f _ _ r1) h3
          subst h5
          exact ⟨b, o, rfl, h4, q _ F2 H2 (Stp.refl g2.ex) g2 (.bl _)⟩
      · cases h3
    unfold tDInB
    cases neg <;> exact main
theorem own_app {ms : List Bool} {vs : List V} {b : Addr} (h : ms.length = vs.length) : ownAddrs (ms ++ [true]) (vs ++ [.ref b]) = ownAddrs ms vs ++ [b] := by
  induction ms generalizing vs with
  | nil =>
    cases vs with
    | nil => rfl
    | cons _ _ => cases h
  | cons m ms ih =>
    cases vs with
    | nil => cases h
    | cons v vs =>
      have := ih (vs := vs) (by simpa using h)
      cases m with
      | false => cases v <;> simpa [ownAddrs] using this
      | true => cases v <;> simp [ownAddrs, this]
theorem args_app {F H : Hp} {ms : List Bool} {vs : List V} {ds : List D} {b : Addr} {o : HO} {d : D} (h : ArgsOk K F H ms vs ds) (h1 : F b = none) (h2 : H b = some o) (h3 : Cont K F o d) : ArgsOk K F H (ms ++ [true]) (vs ++ [.ref b]) (ds ++ [d]) := by
  induction h with
  | nil => exact .mu h1 h2 h3 .nil
  | im r _ ih => exact .im r ih
  | mu a1 a2 a3 _ ih => exact .mu a1 a2 a3 ih
theorem outs_app {F H : Hp} {ms : List Bool} {vs : List V} {outs : List D} {b : Addr} (hl : ms.length = vs.length) (h : OutsOk K F H (ms ++ [true]) (vs ++ [.ref b]) outs) : OutsOk K F H ms vs outs.dropLast := by
  induction ms generalizing vs outs with
  | nil =>
    cases vs with
    | nil =>
      cases h with
      | mu _ _ _ h4 =>
        cases h4
        exact .nil
    | cons _ _ => cases hl
  | cons m ms ih =>
    cases vs with
    | nil => cases hl
    | cons v vs =>
      have hl' : ms.length = vs.length := by simpa using hl
      cases m with
      | false =>
        cases h with
        | im h => exact .im (ih hl' h)
      | true =>
        cases h with
        | mu h1 h2 h3 h4 =>
          rename_i ds
          have hne : ds ≠ [] := by
            intro z
            subst z
            have : ∀ {ms : List Bool} {vs : List V}, ms.length = vs.length → OutsOk K F H (ms ++ [true]) (vs ++ [.ref b]) [] → False := by
              intro ms
              induction ms with
              | nil =>
                intro vs hl h
                cases vs with
                | nil => cases h
                | cons _ _ => cases hl
              | cons m ms ih =>
                intro vs hl h
                cases vs with
                | nil => cases hl
                | cons v vs =>
                  cases m with
                  | false =>
                    cases h with
                    | im h => exact ih (by simpa using hl) h
                  | true => cases h
            exact this hl' h4
          rw [List.dropLast_cons_of_ne_nil hne]
          exact .mu h1 h2 h3 (ih hl' h4)
theorem paired_len {α β : Type} {R : α → β → Prop} {as : List α} {bs : List β} (h : Paired R as bs) : as.length = bs.length := by
  induction h with
  | nil => rfl
  | cons _ _ ih => simp [ih]
theorem modes_len : ∀ ss : List (Sum D Nat), (modesOf ss).length = ss.length
  | [] => rfl
  | .inl _ :: r => congrArg (· + 1) (modes_len r)
  | .inr _ :: r => congrArg (· + 1) (modes_len r)
theorem c_callN {t : Bool} {f : Nat} {as : List A} (es : AsOk K cls G gv as) : EOk K cls G gv (.callN t f as) := by
    intro M E0 env σ F H Q w g p
    simp only [ev] at p
    simp only [tE]
    cases hf : G.fn f with
    | none =>
      rw [hf] at p
      exact p.elim
    | some mf =>
      obtain ⟨ms, fn⟩ := mf
      rw [hf] at p
      simp only at p ⊢
      refine es M E0 env σ F H (fun vs H1 => ∀ b, H1 b = none → spF K cls ms fn (vs ++ [V.ref b] ++ []) (upd H1 b (if t then .dT [] else .dK [])) Q E0) (by simpa [wfE] using w) g (bindAs_ok p fun ss env' e p2 => ?_)
      intro vs F1 H1 s g1 fo b hb
      have sb : Stp (fun _ => False) F1 H1 F1 (upd H1 b (if t then .dT [] else .dK [])) := Stp.lay g1.ex hb
      have g2 := good_step g1 sb
      have hFb : F1 b = none := ex_none g1.ex hb
      unfold callFN at p2
      split at p2
      · rename_i hc
        obtain ⟨hm, hn⟩ := hc
        subst hm
        cases er : resolveM env' ss with
        | none =>
          rw [er] at p2
          exact p2.elim
        | some ds =>
          rw [er] at p2
          have nd := nodupB_iff hn
          obtain ⟨a1, a2, a3⟩ := args_ok g2 fo er nd
          have hl : (modesOf ss).length = vs.length := by rw [modes_len, paired_len fo]
          have hMb : ¬ M b := fun z => g1.there b z hb
          have hnb : b ∉ ownAddrs (modesOf ss) vs := fun z => hMb (a3 b z)
          refine ⟨F1, ds ++ [emptyD t], g2.ex, by rw [List.append_nil]; exact args_app a1 hFb upd_same (cont_empty t), ?_, ?_⟩
          · rw [List.append_nil, own_app hl]
            exact List.nodup_append.mpr ⟨a2, by simp, fun x hx y hy => by
              simp at hy
              subst hy
              exact fun z => hnb (by rw [← z]; exact hx)⟩
          simp only at p2
          rw [List.append_nil]
          unfold EndF
          have join : ∀ {F' H' : Hp}, Stp (· ∈ ownAddrs (modesOf ss ++ [true]) (vs ++ [V.ref b])) F1 (upd H1 b (if t then .dT [] else .dK [])) F' H' → Stp (· ∈ ownAddrs (modesOf ss) vs) F1 H1 F' H' := fun {F' H'} s2 => by
            rw [own_app hl] at s2
            refine ⟨s2.f, s2.x, fun a h0 h1 h2 => ?_, fun a o h0 h1 => ?_, fun a h => s2.t a (sb.t a h)⟩
            · have hab : a ≠ b := fun z => h1 (by rw [z]; exact hb)
              exact s2.n a (fun z => by
                rcases List.mem_append.mp z with z | z
                · exact h0 z
                · exact hab (by simpa using z)) (sb.t a h1) h2
            · have hab : a ≠ b := fun z => by rw [z, hb] at h1; cases h1
              exact s2.k a o (fun z => by
                rcases List.mem_append.mp z with z | z
                · exact h0 z
                · exact hab (by simpa using z)) (sb.k a o (fun z => z) h1)
          cases en : fn (ds ++ [emptyD t]) with
          | ok d outs =>
            rw [en] at p2
            simp only at p2 ⊢
            intro v F' H' s2 r o
            cases ep : putOuts (ownsOf ss) outs.dropLast env' with
            | none =>
              rw [ep] at p2
              exact p2.elim
            | some env2 =>
              rw [ep] at p2
              have s3 := join s2
              exact p2 v F' H' (s.trans (s3.sub a3)) (good_call g1 fo er nd s3 (outs_app hl o) ep) r
          | exc c outs =>
            rw [en] at p2
            simp only at p2 ⊢
            intro F' H' s2 o
            cases ep : putOuts (ownsOf ss) outs.dropLast env' with
            | none =>
              rw [ep] at p2
              exact p2.elim
            | some env2 =>
              rw [ep] at p2
              have s3 := join s2
              exact p2 F' H' (s.trans (s3.sub a3)) (good_call g1 fo er nd s3 (outs_app hl o) ep)
          | stuck =>
            rw [en] at p2
            exact p2.elim
      · exact p2.elim
theorem c_lc {elt : E} {tg : List Nat} {one : Bool} {it : It} {cond : Option E} (ee : EOk K cls G gv elt) (ei : IOk K cls G gv it) (ec : ∀ c, cond = some c → TOk K cls G gv c) : EOk K cls G gv (.lc elt tg one it cond) := by
    intro M E0 env σ F H Q w g p
    simp only [ev] at p
    simp only [tE]
    have w : wfE elt = true ∧ wfI it = true ∧ wfO cond = true := by
      simp only [wfE, Bool.and_eq_true] at w
      exact ⟨w.1.1, w.1.2, w.2⟩
    refine ei M E0 env σ F H _ w.2.1 g ?_
    cases eit : evIt G it env with
    | exc c env' =>
      rw [eit] at p
      exact p
    | stuck =>
      rw [eit] at p
      exact p.elim
    | ok items env1 =>
      rw [eit] at p
      simp only [R.bind_ok] at p
      intro J F1 H1 s g1 hJ hz
      cases hr : compR _ items [] (killE env1 tg) with
      | exc c env2 =>
        rw [hr] at p
        exact p.elim
      | stuck =>
        rw [hr] at p
        exact p.elim
      | ok ds env2 =>
      rw [hr] at p
      simp only [R.noexc_ok, R.bind_ok] at p
      refine lc_ok (wi := fun _ _ _ => False) (env1 := env1) g1 hz (fun F' H' s => hJ F' H' s.f s.x) (congrArg R.noexc hr) (fun x e e1 σ1 F2 H2 Qn Qy et g2 hb => ?_) (fun x e et => by simp only [et]) ?_
      · simp only [et] at hb
        cases cond with
        | none =>
          simp only at hb
          show (if true = true then tE K cls G gv E0F elt σ1 H2 Qy else Qn H2)
          refine iteT (ee M E0F e1 σ1 F2 H2 Qy w.1 g2 (PostE.fz g2 ?_))
          cases eel : ev G elt e1 with
          | ok d e2 =>
            rw [eel] at hb
            exact fun v F' H' s' g' r => hb v F' H' s' (good_wipe g' tg) r
          | exc c e2 =>
            rw [eel] at hb
            exact hb.elim
          | stuck =>
            rw [eel] at hb
            exact hb.elim
        | some c =>
          have w3 := w.2.2
          simp only at hb
          simp only [wfO, Bool.and_eq_true] at w3
          simp only [tO]
          refine ec c rfl M E0F e1 σ1 F2 H2 _ w3.1 w3.2 g2 ?_
          cases ecc : ev G c e1 with
          | ok b e2 =>
            rw [ecc] at hb
            simp only [R.bind_ok] at hb
            cases b with
            | bool b =>
              refine ⟨b, rfl, fun F3 H3 s3 g3 => ?_⟩
              cases b with
              | true =>
                refine iteT (ee M E0F e2 σ1 F3 H3 Qy w.1 g3 (PostE.fz g3 ?_))
                cases eel : ev G elt e2 with
                | ok d e3 =>
                  rw [eel] at hb
                  exact fun v F' H' s' g' r => hb v F' H' (s3.trans s') (good_wipe g' tg) r
                | exc c e3 =>
                  rw [eel] at hb
                  exact hb.elim
                | stuck =>
                  rw [eel] at hb
                  exact hb.elim
              | false => exact iteF (hb F3 H3 s3 (good_wipe g3 tg))
            | _ => exact hb.elim
          | exc c e2 =>
            rw [ecc] at hb
            exact hb.elim
          | stuck =>
            rw [ecc] at hb
            exact hb.elim
      · intro q vs F' H' hq s2 g2 h1 h2 h3 h4
        refine p (.ref q) F' H' (s.trans s2) (good_back g1 s2.f g2) ?_
        exact ⟨q, vs, ds, rfl, rfl, not_there (s := s) hq, h1, h2, h3, h4⟩
theorem c_lcO {elt : E} {tg : List Nat} {one en : Bool} {i : Nat} {cond : Option E} (ee : EOk K cls G gv elt) (ec : ∀ c, cond = some c → TOk K cls G gv c) : EOk K cls G gv (.lcO elt tg one en i cond) := by
    intro M E0 env σ F H Q w g p
    simp only [ev] at p
    simp only [tE]
    have w : wfE elt = true ∧ wfO cond = true := by
      simpa only [wfE, Bool.and_eq_true] using w
    split at p
    · rename_i ds hm
      have hm := getM_some hm
      split at p
      · exact p.elim
      rename_i hit
      obtain ⟨a, o, hs, hMa, hFa, hHa, hcn⟩ := g.mu i _ hm
      obtain ⟨vs, rfl, hvz, hr0⟩ : ∃ vs, o = .lst vs ∧ vs.length ≤ sizeLine ∧ RpA K F vs ds := by
        cases hcn with
        | lst h1 h2 => exact ⟨_, rfl, h1, h2⟩
      let M1 : Addr → Prop := fun b => M b ∧ b ≠ a
      have gk : Good K M1 (killE env [i]) σ F H := by
        have g2 := good_kill g [i]
        refine ⟨g2.ex, g2.len, g2.im, fun j d h => ?_, g2.sep, fun b hb => g2.there b hb.1⟩
        obtain ⟨b, u, k1, k2, k3, k4, k5⟩ := g2.mu j d h
        refine ⟨b, u, k1, ⟨k2, fun z => ?_⟩, k3, k4, k5⟩
        have hj := h
        rw [kill_get] at hj
        split at hj
        · obtain ⟨_, _, z⟩ := Option.map_eq_some_iff.mp hj
          cases z
        · rename_i hji
          rw [z] at k1
          exact hji (by rw [g.sep i j _ d a hm hj hs k1]; simp)
      have na : ¬ M1 a := fun z => z.2 rfl
      have there : ∀ {F' H' : Hp}, Stp M1 F H F' H' → H' a = some (.lst vs) ∧ F' a = none := fun s => ⟨s.k a _ na hHa, s.n a na (by rw [hHa]; exact fun z => nomatch z) hFa⟩
      let J : L2.It := if en then Ite K a else Itl K a
      have hJ : ∀ F' H', Stp M1 F H F' H' → (∀ (j : Nat) (d : D), (ownIt en ds)[j]? = some d → J.go j H' ∧ ∀ x H2, J.yld j H' x H2 → ∃ F2, Stp (fun _ => False) F' H' F2 H2 ∧ Rp K F2 x d) ∧ (∀ j : Nat, (ownIt en ds).length ≤ j → J.stop j H') := fun F' H' s => by
        cases en with
        | true => exact itM_enum (there s).1 s.x (hr0.mono s.f)
        | false => exact itM_list (there s).1 s.x (hr0.mono s.f)
      have hz : (ownIt en ds).length ≤ sizeLine := by
        cases en with
        | true =>
          show (((List.range ds.length).zip ds).map fun p => PyData.tuple [.int p.1, p.2]).length ≤ sizeLine
          rw [List.length_map, List.length_zip, List.length_range, ← hr0.length]
          omega
        | false =>
          show ds.length ≤ sizeLine
          rw [← hr0.length]
          exact hvz
      cases hr : compR _ (ownIt en ds) [] (killE (killE env [i]) tg) with
      | exc c env2 =>
        rw [hr] at p
        exact p.elim
      | stuck =>
        rw [hr] at p
        exact p.elim
      | ok xs env2 =>
      rw [hr] at p
      simp only [R.noexc_ok, R.bind_ok] at p
      have main := lc_ok (J := J) (wi := fun _ _ _ => False) (tt := tO K cls G gv cond) (te := tE K cls G gv E0F elt) (Q := Q) (env1 := killE env [i]) (one := one) gk hz hJ (congrArg R.noexc hr) (fun x e e1 σ1 F2 H2 Qn Qy et g2 hb => ?_) (fun x e et => by simp only [et]) ?_
      · cases en with
        | true => exact ⟨.ref a, hs, a, _, rfl, SqL.of hHa, main⟩
        | false => exact ⟨.ref a, hs, a, rfl, .inl ⟨⟨_, SqL.of hHa⟩, main⟩⟩
      · simp only [et] at hb
        cases cond with
        | none =>
          simp only at hb
          show (if true = true then tE K cls G gv E0F elt σ1 H2 Qy else Qn H2)
          refine iteT (ee M1 E0F e1 σ1 F2 H2 Qy w.1 g2 (PostE.fz g2 ?_))
          cases eel : ev G elt e1 with
          | ok d e2 =>
            rw [eel] at hb
            exact fun v F' H' s' g' r => hb v F' H' s' (good_wipe g' tg) r
          | exc c e2 =>
            rw [eel] at hb
            exact hb.elim
          | stuck =>
            rw [eel] at hb
            exact hb.elim
        | some c =>
          have w3 := w.2
          simp only at hb
          simp only [wfO, Bool.and_eq_true] at w3
          simp only [tO]
          refine ec c rfl M1 E0F e1 σ1 F2 H2 _ w3.1 w3.2 g2 ?_
          cases ecc : ev G c e1 with
          | ok b e2 =>
            rw [ecc] at hb
            simp only [R.bind_ok] at hb
            cases b with
            | bool b =>
              refine ⟨b, rfl, fun F3 H3 s3 g3 => ?_⟩
              cases b with
              | true =>
                refine iteT (ee M1 E0F e2 σ1 F3 H3 Qy w.1 g3 (PostE.fz g3 ?_))
                cases eel : ev G elt e2 with
                | ok d e3 =>
                  rw [eel] at hb
                  exact fun v F' H' s' g' r => hb v F' H' (s3.trans s') (good_wipe g' tg) r
                | exc c e3 =>
                  rw [eel] at hb
                  exact hb.elim
                | stuck =>
                  rw [eel] at hb
                  exact hb.elim
              | false => exact iteF (hb F3 H3 s3 (good_wipe g3 tg))
            | _ => exact hb.elim
          | exc c e2 =>
            rw [ecc] at hb
            exact hb.elim
          | stuck =>
            rw [ecc] at hb
            exact hb.elim
      · intro q us F' H' hq s2 g2 h1 h2 h3 h4
        obtain ⟨k1, k2⟩ := there s2
        have g3 := good_back gk s2.f g2
        have hb : σ.set i (some (.ref a)) = σ := by
          refine List.ext_getElem? fun j => ?_
          by_cases hj : i = j
          · subst hj
            rw [List.getElem?_set_self (List.getElem?_eq_some_iff.mp hs).1, hs]
          · rw [List.getElem?_set_ne hj]
        have g4 := good_setM (i := i) (a := a) (d := .list ds) (M' := M) g3 (fun b h => h.1) (fun b h => (Classical.em (b = a)).elim .inr fun z => .inl ⟨h, z⟩) hMa k2 k1 (.lst hvz (hr0.mono s2.f)) fun j dj hj hd hsj => by
          obtain ⟨b, u, l1, l2, _⟩ := g3.mu j dj hd
          rw [hsj] at l1
          cases l1
          exact na l2
        rw [hb] at g4
        refine p (.ref q) F' H' (s2.sub fun b h => h.1) g4 ?_
        exact ⟨q, us, xs, rfl, rfl, hq, h1, h2, h3, h4⟩
    · exact p.elim
/-- a dict's values, key by key -/
theorem rpd_vals {K : PySem.W.Frag} {F : Hp} {kvs0 : List (Key × V)} {es0 : List (D × D)} (h0 : RpD K F kvs0 es0) : ∀ {kvs : List (Key × V)} {es : List (D × D)} {ds : List D}, RpD K F kvs es → valsD es0 es = some ds →
    ∃ us : List V, us.length = kvs.length ∧ RpA K F us ds ∧ ∀ (j : Nat) (k : Key) (v : V), kvs[j]? = some (k, v) → ∃ u, us[j]? = some u ∧ valV kvs0 k = some u
  | _, _, ds, .nil, e => by
    cases e
    exact ⟨[], rfl, .nil, fun j k v z => by simp at z⟩
  | _, _, ds, .cons (i := i) r h, e => by
    simp only [valsD] at e
    obtain ⟨d, e1, e⟩ := Option.bind_eq_some_iff.mp e
    obtain ⟨ds', e2, rfl⟩ := Option.map_eq_some_iff.mp e
    obtain ⟨us, a, b, c⟩ := rpd_vals h0 h e2
    have o := rpd_val i h0
    rw [e1] at o
    cases hv : valV kvs0 (Sum.inl i) with
    | none => rw [hv] at o; exact o.elim
    | some u =>
      rw [hv] at o
      refine ⟨u :: us, by simp [a], .cons o b, fun j k v z => ?_⟩
      cases j with
      | zero =>
        simp only [List.getElem?_cons_zero, Option.some.injEq, Prod.mk.injEq] at z
        rw [← z.1]
        exact ⟨u, rfl, hv⟩
      | succ j => exact c j k v (by simpa using z)
theorem upd_back {H : Hp} {a p : Addr} {f o : HO} {l : HO} (ha : H a = some o) (hp : p ≠ a) : upd (upd (upd H a f) p l) a o = upd H p l := by
  funext b
  by_cases hb : b = a
  · subst hb
    rw [upd_same, upd_ne (fun z => hp z.symm), ha]
  · rw [upd_ne hb]
    by_cases hc : b = p
    · subst hc
      rw [upd_same, upd_same]
    · rw [upd_ne hc, upd_ne hb, upd_ne hc]
theorem wipe_one {σ : L2.St} {t : Nat} {x : Option V} : wipe ((wipe σ [t]).set t x) [t] = wipe σ [t] := by
  show (((σ.set t none).set t x).set t none) = σ.set t none
  rw [List.set_set, List.set_set]
theorem c_vals {i t : Nat} : EOk K cls G gv (.vals i t) := by
  intro M E0 env σ F H Q w g p
  simp only [ev] at p
  simp only [tE]
  split at p
  · rename_i es hm
    split at p
    · rename_i ds hd
      split at p
      · rename_i hc
        obtain ⟨hit, htl, hz⟩ := hc
        obtain ⟨a, o, hs, hM, hF, hH, hcn⟩ := g.mu i _ (getM_some hm)
        have hdk : ∃ kvs, o = .dK kvs ∧ RpD K F kvs es := by
          cases hcn with
          | dk h => exact ⟨_, rfl, h⟩
          | dt h => simp [valsD, markD] at hd
        obtain ⟨kvs, rfl, hr⟩ := hdk
        obtain ⟨us, u1, u2, u3⟩ := rpd_vals hr hr hd
        have hul := u2.length
        refine ⟨a, .dK kvs, hH, trivial, fun od => ?_⟩
        refine ⟨.ref a, hs, a, od, rfl, .inl ⟨kvs, upd_same, ?_⟩⟩
        intro q hq
        have hqa : q ≠ a := fun z => by rw [z, upd_same] at hq; cases hq
        have hq0 : H q = none := by rw [upd_ne hqa] at hq; exact hq
        have hw : (wipe σ [t])[i]? = some (some (.ref a)) := by
          rw [wipe_get (by simpa using hit)]
          exact hs
        refine ⟨fun n m Hc => m = kvs.length - n ∧ n ≤ kvs.length ∧ Hc = upd (upd H a (.frz od (.dK kvs))) q (.lst (us.take n)), ⟨kvs.length, rfl, Nat.zero_le _, by simp⟩, ?_⟩
        rintro n m Hc ⟨hm2, hn, rfl⟩
        have ha : upd (upd H a (.frz od (.dK kvs))) q (.lst (us.take n)) a = some (.frz od (.dK kvs)) := by
          rw [upd_ne (fun z => hqa z.symm), upd_same]
        by_cases hlt : n < kvs.length
        · refine .inr ⟨⟨ha, hlt⟩, fun H' => H' = upd (upd H a (.frz od (.dK kvs))) q (.lst (us.take (n + 1))), fun H' e => ⟨kvs.length - (n + 1), by omega, rfl, hlt, e⟩, fun x H' y => ?_⟩
          obtain ⟨rfl, k, v, y1, rfl⟩ := y
          obtain ⟨u, z1, z2⟩ := u3 n k v y1
          have hwl : t < (wipe σ [t]).length := by rw [wipe_length, g.len]; exact htl
          refine ⟨wipe_one, ?_⟩
          simp only [tYes, if_true]
          refine ⟨.ref a, by rw [List.getElem?_set_ne (fun z => hit z.symm)]; exact hw, kV k, List.getElem?_set_self hwl, a, u, rfl, ?_, ?_⟩
          · rw [← z2]
            exact .inl ⟨kvs, k, .inr ⟨od, ha⟩, rfl, rfl⟩
          · refine ⟨us.take n, upd_same, by rw [List.length_take]; omega, ?_⟩
            rw [upd_upd, List.take_add_one, z1]
            rfl
        · have e : n = kvs.length := by omega
          subst e
          refine .inl ⟨⟨ha, Nat.le_refl _⟩, ha, ?_⟩
          rw [upd_back hH hqa, List.take_of_length_le (by omega)]
          exact p (.ref q) F _ (Stp.lay g.ex hq0) (good_step g (Stp.lay g.ex hq0)) (fresh_at (F' := F) g.ex hq0 (by omega) u2)
      · exact p.elim
    · exact p.elim
  · exact p.elim
theorem t_of {x : E} (h : EOk K cls G gv x) (e : ∀ E0, tT K cls G gv E0 x = tB (tE K cls G gv E0 x)) : TOk K cls G gv x := by
  intro M E0 env σ F H Q o w g p
  rw [e]
  exact h M E0 env σ F H (fun x H1 => ∃ c, x = .bl c ∧ Q c H1) w g (fz_of_test g p)
theorem tt_call {f : Nat} {as : List A} (E0 : XK) : tT K cls G gv E0 (.call f as) = tB (tE K cls G gv E0 (.call f as)) := by
  simp only [tT, tE]
  cases hf : G.fn f with
  | none =>
    funext σ H Q
    rfl
  | some mf => rfl
theorem t_and {a b : E} (ta : TOk K cls G gv a) (tb : TOk K cls G gv b) : TOk K cls G gv (.and a b) := by
    intro M E0 env σ F H Q o w g p
    simp only [ev] at p
    simp only [wfE, Bool.and_eq_true] at w
    simp only [okT, Bool.and_eq_true] at o
    refine ta M E0 env σ F H _ o.1 w.1 g ?_
    cases e : ev G a env with
    | ok d env' =>
      rw [e] at p
      simp only [R.bind_ok] at p
      cases d with
      | bool k =>
        refine ⟨k, rfl, fun F1 H1 s g1 => ?_⟩
        cases k with
        | true => exact iteT (tb M E0 env' σ F1 H1 Q o.2 w.2 g1 (p.shift s))
        | false =>
          obtain ⟨b, e, q⟩ := p
          cases e
          exact iteF (q F1 H1 s g1)
      | _ => exact p.elim
    | exc c env' =>
      rw [e] at p
      exact p
    | stuck =>
      rw [e] at p
      exact p.elim
theorem t_or {a b : E} (ta : TOk K cls G gv a) (tb : TOk K cls G gv b) : TOk K cls G gv (.or a b) := by
    intro M E0 env σ F H Q o w g p
    simp only [ev] at p
    simp only [wfE, Bool.and_eq_true] at w
    simp only [okT, Bool.and_eq_true] at o
    refine ta M E0 env σ F H _ o.1 w.1 g ?_
    cases e : ev G a env with
    | ok d env' =>
      rw [e] at p
      simp only [R.bind_ok] at p
      cases d with
      | bool k =>
        refine ⟨k, rfl, fun F1 H1 s g1 => ?_⟩
        cases k with
        | false => exact iteF (tb M E0 env' σ F1 H1 Q o.2 w.2 g1 (p.shift s))
        | true =>
          obtain ⟨b, e, q⟩ := p
          cases e
          exact iteT (q F1 H1 s g1)
      | _ => exact p.elim
    | exc c env' =>
      rw [e] at p
      exact p
    | stuck =>
      rw [e] at p
      exact p.elim
theorem t_not {a : E} (ta : TOk K cls G gv a) : TOk K cls G gv (.not a) := by
    intro M E0 env σ F H Q o w g p
    simp only [ev] at p
    refine ta M E0 env σ F H (fun c H1 => Q (!c) H1) (by simpa [okT] using o) (by simpa [wfE] using w) g ?_
    cases e : ev G a env with
    | ok d env' =>
      rw [e] at p
      simp only [R.bind_ok] at p
      cases d with
      | bool k =>
        obtain ⟨b, e, q⟩ := p
        cases e
        exact ⟨k, rfl, q⟩
      | _ => exact p.elim
    | exc c env' =>
      rw [e] at p
      exact p
    | stuck =>
      rw [e] at p
      exact p.elim
theorem a_imm {e : E} (ee : EOk K cls G gv e) : AOk K cls G gv (.imm e) := by
    intro M E0 env σ F H Q w g p
    simp only [evA] at p
    refine ee M E0 env σ F H Q (by simpa [wfA] using w) g (PostE.fz g ?_)
    cases eev : ev G e env with
    | ok d env' =>
      rw [eev] at p
      exact fun v F' H' s g' r => p v F' H' s g' r
    | exc c env' =>
      rw [eev] at p
      exact p
    | stuck =>
      rw [eev] at p
      exact p.elim
theorem a_own {i : Nat} : AOk K cls G gv (.own i) := by
    intro M E0 env σ F H Q w g p
    simp only [evA] at p
    cases e : getA env i with
    | none =>
      rw [e] at p
      exact p.elim
    | some d =>
    rw [e] at p
    have hv : ∃ v, σ[i]? = some (some v) := by
      rcases getA_some e with h | h
      · obtain ⟨v, h1, _⟩ := g.im i d h
        exact ⟨v, h1⟩
      · obtain ⟨a, o, h1, _⟩ := g.mu i d h
        exact ⟨_, h1⟩
    obtain ⟨v, h1⟩ := hv
    exact ⟨v, h1, p v F H (Stp.refl g.ex) g h1⟩
theorem as_nil : AsOk K cls G gv [] := fun M E0 env σ F H Q w g p => p [] F H (Stp.refl g.ex) g .nil
theorem as_cons {a : A} {as : List A} (ea : AOk K cls G gv a) (es : AsOk K cls G gv as) : AsOk K cls G gv (a :: as) := by
    intro M E0 env σ F H Q w g p
    simp only [evAs] at p
    simp only [wfAs, Bool.and_eq_true] at w
    refine ea M E0 env σ F H _ w.1 g ?_
    cases e : evA G a env with
    | exc c env' =>
      rw [e] at p
      exact p
    | stuck =>
      rw [e] at p
      exact p.elim
    | ok s env1 =>
      rw [e] at p
      simp only [R.bind_ok] at p
      intro v F1 H1 s1 g1 f1
      refine es M E0 env1 σ F1 H1 _ w.2 g1 ?_
      cases e2 : evAs G as env1 with
      | exc c env' =>
        rw [e2] at p
        exact fun F' H' s' g' => p F' H' (s1.trans s') g'
      | stuck =>
        rw [e2] at p
        exact p.elim
      | ok ss env2 =>
        rw [e2] at p
        simp only [R.bind_ok] at p
        intro vs F2 H2 s2 g2 f2
        refine p (v :: vs) F2 H2 (s1.trans s2) g2 (.cons ?_ f2)
        cases s with
        | inl d => exact Rp.mono s2.f _ _ f1
        | inr i => exact f1
theorem imm_inl {e : E} {s : Sum D Nat} {env env1 : En} (h : evA G (.imm e) env = .ok s env1) : ∃ d, s = .inl d := by
  simp only [evA] at h
  cases he : ev G e env with
  | ok d env' =>
    rw [he] at h
    cases h
    exact ⟨d, rfl⟩
  | exc c env' =>
    rw [he] at h
    cases h
  | stuck =>
    rw [he] at h
    cases h
theorem imm_known {M : Addr → Prop} {F1 H1 : Hp} {σ : L2.St} {e : E} {s : Sum D Nat} {env env1 : En} {v : V} {d : D} (g1 : Good K M env1 σ F1 H1) (f1 : OpdOk K σ F1 s v) (er : resolve env1 [s] = some [d]) (h : evA G (.imm e) env = .ok s env1) : Rp K F1 v d := by
  obtain ⟨d', rfl⟩ := imm_inl h
  cases er
  exact f1
theorem ev1_ok {a : A} (ea : AOk K cls G gv a) (M : Addr → Prop) (E0 : XK) (env : En) (σ : L2.St) (F H : Hp) (Q : L2.It → Hp → Prop) (f : List D → Option (List D)) (k : VK) (w : wfA a = true) (g : Good K M env σ F H)
    (p : PostI K cls M E0 σ F H ((evA G a env).bind fun v env' => R.of ((resolve env' [v]).bind f) env') Q)
    (h : ∀ s env1 v F1 H1 d items, Stp M F H F1 H1 → Good K M env1 σ F1 H1 → OpdOk K σ F1 s v → Vw K F1 H1 v d → (∀ e, a = .imm e → Rp K F1 v d) → f [d] = some items → (∀ J F' H', Stp M F1 H1 F' H' → Good K M env1 σ F' H' → ItOk K J items F' → items.length ≤ sizeLine → Q J H') → k v H1) :
    tA K cls G gv E0 a σ H k := by
  refine ea M E0 env σ F H _ w g ?_
  cases e : evA G a env with
  | exc c env' =>
    rw [e] at p
    exact p
  | stuck =>
    rw [e] at p
    exact p.elim
  | ok s env1 =>
    rw [e] at p
    simp only [R.bind_ok] at p
    intro v F1 H1 s1 g1 f1
    cases er : resolve env1 [s] with
    | none =>
      rw [er] at p
      exact p.elim
    | some ds =>
      rw [er] at p
      obtain ⟨d, hd⟩ : ∃ d, ds = [d] := by
        cases s with
        | inl d =>
          cases er
          exact ⟨d, rfl⟩
        | inr i =>
          simp only [resolve, Option.bind_eq_some_iff, Option.map_some] at er
          obtain ⟨d, _, h2⟩ := er
          cases h2
          exact ⟨d, rfl⟩
      subst hd
      cases ef : f [d] with
      | none =>
        rw [Option.bind_some, ef] at p
        exact p.elim
      | some items =>
        rw [Option.bind_some, ef] at p
        obtain ⟨x, hx, h1⟩ := (vw_of g1 (.cons f1 .nil) er).one
        cases hx
        exact h s env1 v F1 H1 d items s1 g1 f1 h1 (fun e' he => imm_known g1 f1 er (by rw [he] at e; exact e)) ef fun J F' H' s' g' i z => p J F' H' (s1.trans s') g' i z
theorem ev2_ok {a b : A} (ea : AOk K cls G gv a) (eb : AOk K cls G gv b) (M : Addr → Prop) (E0 : XK) (env : En) (σ : L2.St) (F H : Hp) (Q : L2.It → Hp → Prop) (f : List D → Option (List D)) (k : V → V → Hp → Prop) (w : wfA a = true) (w2 : wfA b = true) (g : Good K M env σ F H)
    (p : PostI K cls M E0 σ F H ((evA G a env).bind fun v env1 => (evA G b env1).bind fun u env' => R.of ((resolve env' [v, u]).bind f) env') Q)
    (h : ∀ env1 v u F1 H1 d e items, Good K M env1 σ F1 H1 → Vw K F1 H1 v d → Vw K F1 H1 u e → (∀ x y, a = .imm x → b = .imm y → Rp K F1 v d ∧ Rp K F1 u e) → f [d, e] = some items → (∀ J F' H', Stp M F1 H1 F' H' → Good K M env1 σ F' H' → ItOk K J items F' → items.length ≤ sizeLine → Q J H') → k v u H1) :
    tA K cls G gv E0 a σ H fun v H1 => tA K cls G gv E0 b σ H1 fun u H2 => k v u H2 := by
  refine ea M E0 env σ F H _ w g ?_
  cases e : evA G a env with
  | exc c env' =>
    rw [e] at p
    exact p
  | stuck =>
    rw [e] at p
    exact p.elim
  | ok s env1 =>
    rw [e] at p
    simp only [R.bind_ok] at p
    intro v F1 H1 s1 g1 f1
    refine eb M E0 env1 σ F1 H1 _ w2 g1 ?_
    cases e2 : evA G b env1 with
    | exc c env' =>
      rw [e2] at p
      exact fun F' H' s' g' => p F' H' (s1.trans s') g'
    | stuck =>
      rw [e2] at p
      exact p.elim
    | ok t env2 =>
      rw [e2] at p
      simp only [R.bind_ok] at p
      intro u F2 H2 s2 g2 f2
      cases er : resolve env2 [s, t] with
      | none =>
        rw [er] at p
        exact p.elim
      | some ds =>
        rw [er] at p
        have f1' : OpdOk K σ F2 s v := by
          cases s with
          | inl d => exact Rp.mono s2.f _ _ f1
          | inr i => exact f1
        have vw := vw_of g2 (.cons f1' (.cons f2 .nil)) er
        obtain ⟨d1, d2, hd⟩ : ∃ d1 d2, ds = [d1, d2] := by
          have hl : ds.length = 2 := by
            have : ∀ {vs : List V} {ds : List D}, VwA K F2 H2 vs ds → vs.length = ds.length := by
              intro vs ds h
              induction h with
              | nil => rfl
              | cons _ _ ih => simp [ih]
            exact (this vw).symm
          match ds, hl with
          | [d1, d2], _ => exact ⟨d1, d2, rfl⟩
        subst hd
        obtain ⟨x, y, hx, h1, h2⟩ := vw.two
        cases hx
        cases ef : f [d1, d2] with
        | none =>
          rw [Option.bind_some, ef] at p
          exact p.elim
        | some items =>
          rw [Option.bind_some, ef] at p
          refine h env2 v u F2 H2 d1 d2 items g2 h1 h2 (fun x y hx hy => ?_) ef fun J F' H' s' g' i z => p J F' H' ((s1.trans s2).trans s') g' i z
          rw [hx] at e
          rw [hy] at e2
          obtain ⟨dx, rfl⟩ := imm_inl e
          obtain ⟨dy, rfl⟩ := imm_inl e2
          cases er
          exact ⟨f1', f2⟩
theorem i_seq {e : E} (ee : AOk K cls G gv (.imm e)) : IOk K cls G gv (.seq (.imm e)) := by
    intro M E0 env σ F H Q w g p
    simp only [evIt] at p
    refine ev1_ok ee M E0 env σ F H Q itSeq _ (by simpa [wfI, wfA] using w) g p fun s env1 v F1 H1 d items s1 g1 f1 vw kn ef q => ?_
    unfold itSeq at ef
    have hk : Rp K F1 v d := kn _ rfl
    split at ef
    · rename_i es hd
      cases hd
      cases ef
      cases hk with
      | lst k1 k2 k3 =>
        refine ⟨_, rfl, .inl ⟨⟨_, SqL.of (g1.ex _ _ k1)⟩, ?_⟩⟩
        exact q _ F1 H1 (Stp.refl g1.ex) g1 (itok_list k1 k3) (by rw [← k3.length]; exact k2)
    · rename_i es hd
      cases hd
      cases ef
      cases hk with
      | tup k1 k2 k3 =>
        refine ⟨_, rfl, .inr ⟨⟨_, ex_t g1.ex k1.1⟩, ?_⟩⟩
        exact q _ F1 H1 (Stp.refl g1.ex) g1 (itok_tup k1.1 k3) (by rw [← k3.length]; exact k2)
    · cases ef
theorem i_rng {a : A} (ea : AOk K cls G gv a) : IOk K cls G gv (.rng a) := by
    intro M E0 env σ F H Q w g p
    simp only [evIt] at p
    refine ev1_ok ea M E0 env σ F H Q itRng _ (by simpa [wfI] using w) g p fun s env1 v F1 H1 d items s1 g1 f1 vw kn ef q => ?_
    unfold itRng at ef
    split at ef
    · rename_i j hj
      cases hj
      split at ef
      · rename_i hj
        cases ef
        cases vw.int
        refine ⟨j, rfl, by omega, by omega, q _ F1 H1 (Stp.refl g1.ex) g1 ?_ (by rw [sizeLine_eq]; simp; omega)⟩
        have := itok_rng (K := K) (F := F1) 0 j.toNat
        rw [rng0] at this
        exact this
      · cases ef
    · cases ef
theorem i_rng2 {a b : A} (ea : AOk K cls G gv a) (eb : AOk K cls G gv b) : IOk K cls G gv (.rng2 a b) := by
    intro M E0 env σ F H Q w g p
    simp only [evIt] at p
    simp only [wfI, Bool.and_eq_true] at w
    refine ev2_ok ea eb M E0 env σ F H Q itRng2 (fun v u H2 => ∃ i j : Int, [v, u] = [.int i, .int j] ∧ (-(2 ^ 62) ≤ i ∧ i < 2 ^ 62 ∧ -(2 ^ 62) ≤ j ∧ j < 2 ^ 62) ∧ Q (Itr i (j - i).toNat) H2) w.1 w.2 g p fun env1 v u F1 H1 d e items g1 vw vw2 kn ef q => ?_
    unfold itRng2 at ef
    split at ef
    · rename_i i j hj
      cases hj
      split at ef
      · rename_i hj
        cases ef
        cases vw.int
        cases vw2.int
        exact ⟨i, j, rfl, ⟨by omega, by omega, by omega, by omega⟩, q _ F1 H1 (Stp.refl g1.ex) g1 (itok_rng i (j - i).toNat) (by rw [sizeLine_eq]; simp; omega)⟩
      · cases ef
    · cases ef
theorem i_zip {a b : E} (ea : AOk K cls G gv (.imm a)) (eb : AOk K cls G gv (.imm b)) : IOk K cls G gv (.zip (.imm a) (.imm b)) := by
    intro M E0 env σ F H Q w g p
    simp only [evIt] at p
    simp only [wfI, Bool.and_eq_true] at w
    refine ev2_ok ea eb M E0 env σ F H Q itZip (fun v u H1 => ∃ (t t' : Bool) (a b : Addr) (xs ys : List V), (t = true → t' = true) ∧ [v, u] = [.ref a, .ref b] ∧ SqK t K H1 a xs ∧ SqK t' K H1 b ys ∧ Q (Itq t t' K a b) H1) (by simpa [wfA] using w.1) (by simpa [wfA] using w.2) g p fun env1 v u F1 H1 d e items g1 vw vw2 kn ef q => ?_
    obtain ⟨k1, k2⟩ := kn _ _ rfl rfl
    unfold itZip at ef
    split at ef
    · rename_i xs ys hj
      cases hj
      cases ef
      cases k1 with
      | lst l1 l2 l3 =>
        cases k2 with
        | lst m1 m2 m3 =>
          refine ⟨false, false, _, _, _, _, (fun z => nomatch z), rfl, SqL.of (g1.ex _ _ l1), SqL.of (g1.ex _ _ m1), q _ F1 H1 (Stp.refl g1.ex) g1 (itok_zip (t := false) (u := false) (SqL.of l1) l3 (SqL.of m1) m3) ?_⟩
          rw [List.length_map, List.length_zip, ← l3.length]
          omega
    · rename_i xs ys hj
      cases hj
      cases ef
      cases k1 with
      | tup l1 l2 l3 =>
        cases k2 with
        | tup m1 m2 m3 =>
          refine ⟨true, true, _, _, _, _, (fun _ => rfl), rfl, ex_t g1.ex l1.1, ex_t g1.ex m1.1, q _ F1 H1 (Stp.refl g1.ex) g1 (itok_zip (t := true) (u := true) l1.1 l3 m1.1 m3) ?_⟩
          rw [List.length_map, List.length_zip, ← l3.length]
          omega
    · rename_i xs ys hj
      cases hj
      cases ef
      cases k1 with
      | lst l1 l2 l3 =>
        cases k2 with
        | tup m1 m2 m3 =>
          refine ⟨false, true, _, _, _, _, (fun z => nomatch z), rfl, SqL.of (g1.ex _ _ l1), ex_t g1.ex m1.1, q _ F1 H1 (Stp.refl g1.ex) g1 (itok_zip (t := false) (u := true) (SqL.of l1) l3 m1.1 m3) ?_⟩
          rw [List.length_map, List.length_zip, ← l3.length]
          omega
    · cases ef
theorem i_enum {a : E} (ea : AOk K cls G gv (.imm a)) : IOk K cls G gv (.enum (.imm a)) := by
    intro M E0 env σ F H Q w g p
    simp only [evIt] at p
    refine ev1_ok ea M E0 env σ F H Q itEnum _ (by simpa [wfI, wfA] using w) g p fun s env1 v F1 H1 d items s1 g1 f1 vw kn ef q => ?_
    have k1 := kn _ rfl
    unfold itEnum at ef
    split at ef
    · rename_i xs hj
      cases hj
      cases ef
      cases k1 with
      | lst l1 l2 l3 =>
        refine ⟨_, _, rfl, SqL.of (g1.ex _ _ l1), q _ F1 H1 (Stp.refl g1.ex) g1 (itok_enum l1 l3) ?_⟩
        rw [List.length_map, List.length_zip, List.length_range, ← l3.length]
        omega
    · cases ef
variable (hgl : ∀ n d, G.gl n = some d → ∀ F : Hp, Rp K F (gv.gl n) d)
include hgl
mutual
theorem ev_ok : ∀ x : E, EOk K cls G gv x
  | .var i => c_var
  | .move i => c_move
  | .cst d => c_cst
  | .glob n => c_glob hgl
  | .op k as => c_op (evAs_ok as)
  | .and a b => c_and (ev_ok a) (ev_ok b)
  | .or a b => c_or (ev_ok a) (ev_ok b)
  | .orT a b => c_orT (ev_ok a) (ev_ok b)
  | .not a => c_not (ev_ok a)
  | .ite c a b => c_ite (evT_ok c) (ev_ok a) (ev_ok b)
  | .leLe a b c => c_leLe (ev_ok a) (ev_ok b) (ev_ok c)
  | .tup as => c_tup (evAs_ok as)
  | .lst as => c_lst (evAs_ok as)
  | .call f as => c_call (evAs_ok as)
  | .sel fs ix as => c_sel (ev_ok ix) (evAs_ok as)
  | .pop i e => c_pop (ev_ok e)
  | .slB a lo hi => c_slB (evA_ok a) (ev_ok lo) (ev_ok hi)
  | .mth k a as => c_mth (evA_ok a) (evAs_ok as)
  | .dget a k => c_dget (evA_ok a) (ev_ok k)
  | .din neg k a => c_din (evA_ok a) (ev_ok k)
  | .callN t f as => c_callN (evAs_ok as)
  | .vals i t => c_vals
  | .callF f as => c_callF (evAs_ok as)
  | .lcO elt tg one en i none => c_lcO (ev_ok elt) (fun c h => nomatch h)
  | .lcO elt tg one en i (some c) => c_lcO (ev_ok elt) (fun c' h => by cases h; exact evT_ok c)
  | .lc elt tg one it none => c_lc (ev_ok elt) (evI_ok it) (fun c h => nomatch h)
  | .lc elt tg one it (some c) => c_lc (ev_ok elt) (evI_ok it) (fun c' h => by cases h; exact evT_ok c)
theorem evT_ok : ∀ x : E, TOk K cls G gv x
  | .var i => t_of c_var fun E0 => by simp only [tT, tE]
  | .op k as => t_of (c_op (evAs_ok as)) fun E0 => by simp only [tT, tE]
  | .leLe a b c => t_of (c_leLe (ev_ok a) (ev_ok b) (ev_ok c)) fun E0 => by simp only [tT, tE]
  | .call f as => t_of (c_call (evAs_ok as)) fun E0 => tt_call E0
  | .din neg k a => t_of (c_din (evA_ok a) (ev_ok k)) fun E0 => by simp only [tT, tE]
  | .and a b => t_and (evT_ok a) (evT_ok b)
  | .or a b => t_or (evT_ok a) (evT_ok b)
  | .not a => t_not (evT_ok a)
  | .move i => fun M E0 env σ F H Q o w g p => by simp [okT] at o
  | .cst i => fun M E0 env σ F H Q o w g p => by simp [okT] at o
  | .glob i => fun M E0 env σ F H Q o w g p => by simp [okT] at o
  | .ite _ _ _ => fun M E0 env σ F H Q o w g p => by simp [okT] at o
  | .tup _ => fun M E0 env σ F H Q o w g p => by simp [okT] at o
  | .lst _ => fun M E0 env σ F H Q o w g p => by simp [okT] at o
  | .lc _ _ _ _ _ => fun M E0 env σ F H Q o w g p => by simp [okT] at o
  | .sel _ _ _ => fun M E0 env σ F H Q o w g p => by simp [okT] at o
  | .pop _ _ => fun M E0 env σ F H Q o w g p => by simp [okT] at o
  | .slB _ _ _ => fun M E0 env σ F H Q o w g p => by simp [okT] at o
  | .mth _ _ _ => fun M E0 env σ F H Q o w g p => by simp [okT] at o
  | .dget _ _ => fun M E0 env σ F H Q o w g p => by simp [okT] at o
  | .callN _ _ _ => fun M E0 env σ F H Q o w g p => by simp [okT] at o
  | .vals _ _ => fun M E0 env σ F H Q o w g p => by simp [okT] at o
  | .callF _ _ => fun M E0 env σ F H Q o w g p => by simp [okT] at o
  | .orT _ _ => fun M E0 env σ F H Q o w g p => by simp [okT] at o
  | .lcO _ _ _ _ _ _ => fun M E0 env σ F H Q o w g p => by simp [okT] at o
theorem evA_ok : ∀ a : A, AOk K cls G gv a
  | .imm e => a_imm (ev_ok e)
  | .own i => a_own
theorem evAs_ok : ∀ as : List A, AsOk K cls G gv as
  | [] => as_nil
  | a :: as => as_cons (evA_ok a) (evAs_ok as)
theorem evI_ok : ∀ it : It, IOk K cls G gv it
  | .seq (.own i) => fun M E0 env σ F H Q w g p => by simp [wfI] at w
  | .seq (.imm e) => i_seq (a_imm (ev_ok e))
  | .rng a => i_rng (evA_ok a)
  | .rng2 a b => i_rng2 (evA_ok a) (evA_ok b)
  | .zip (.imm a) (.imm b) => i_zip (a_imm (ev_ok a)) (a_imm (ev_ok b))
  | .zip (.own _) _ => fun M E0 env σ F H Q w g p => by simp [wfI] at w
  | .zip (.imm _) (.own _) => fun M E0 env σ F H Q w g p => by simp [wfI] at w
  | .enum (.imm a) => i_enum (a_imm (ev_ok a))
  | .enum (.own _) => fun M E0 env σ F H Q w g p => by simp [wfI] at w
  | .dk _ => fun M E0 env σ F H Q w g p => by simp [wfI] at w
end
end
end Nv

set_option Elab.async false
set_option linter.all false
set_option maxRecDepth 100000
/-! Nv10: the readings of statements, their law. -/
namespace Nv
open PySem L2

def gEither (K : PySem.W.Frag) (n : Nat) (t : TGs) : TG := fun v σ H Q => gTup K n t v σ H Q ∨ gLst K n t v σ H Q
/-- x.setdefault(k, []).append(t) -/
def tGrpB (K : PySem.W.Frag) (t i : Nat) (tk : TE) : TS := tDrop (tBM K "list" rAppend (tDSetd (tVar i) tk (tLst tNil)) (tCons (tVar t) tNil))
def tDNew (t : Bool) : TE := fun _ H Q => ∀ p, H p = none → Q (.ref p) (upd H p (if t then .dT [] else .dK []))
mutual
def tS (K : PySem.W.Frag) (cls : Nat → Value) (G : Gam) (gv : Gv) (E0 : XK) : S → TS
  | .asg i e => tAsg (tE K cls G gv E0 e) (gName i)
  | .asgM i e => tAsg (tE K cls G gv E0 e) (gName i)
  | .unp is e => tAsg (tE K cls G gv E0 e) (gEither K is.length (tTgs is))
  | .unpF i j f as => tAsg (tE K cls G gv E0 (.call f as)) (gEither K 2 (tTgs [i, j]))
  | .par i j a b => tPar i j (tCons (tE K cls G gv E0 a) (tCons (tE K cls G gv E0 b) tNil))
  | .app i e => tDrop (tBM K "list" rAppend (tVar i) (tCons (tE K cls G gv E0 e) tNil))
  | .ext i e => tDrop (tBM K "list" (rExt K) (tVar i) (tCons (tE K cls G gv E0 e) tNil))
  | .setI i k v => tAsg (tE K cls G gv E0 v) (gSub (tVar i) (tE K cls G gv E0 k) rSetL)
  | .newD i t => tAsg (tDNew t) (gName i)
  | .setD i k v => sDPut (tVar i) (tE K cls G gv E0 k) (tE K cls G gv E0 v)
  | .asgD i e => tAsg (tCB (rDictT K) (tCons (tE K cls G gv E0 e) tNil)) (gName i)
  | .drop e => tDrop (tE K cls G gv E0 e)
  | .ite c a b => tIfS (tT K cls G gv E0 c) (tSs K cls G gv E0 a) (tSs K cls G gv E0 b)
  | .for_ tg one it kill body => tFor (tI K cls G gv E0 it) (tTg K tg one) (tSs K cls G gv E0 body)
  | .while_ fuel c kill body => tWhile (tT K cls G gv E0 c) (tSs K cls G gv E0 body)
  | .ret e => tRet (tE K cls G gv E0 e)
  | .raise c => fun _ _ H => E0 (cls c) none H
  | .tryO _ body => fun Dn σ H => ∃ E1 : XK, (∀ cl d H', E1 cl d H' → ∃ c dd F', cl = cls c ∧ d = none ∧ G.wh c = some dd ∧ Ex F' H' ∧ ∀ v F2 H2, Stp (fun _ => False) F' H' F2 H2 → Rp K F2 v dd → Dn.rt v H2) ∧ tSs K cls G gv E1 body Dn σ H
  | .forO tg one en i _ body => tFor (if en then iEnum K (tCons (tVar i) tNil) else iSeq K (tVar i)) (tTg K tg one) (tSs K cls G gv E0 body)
  | .grp t it i k => tFor (tI K cls G gv E0 it) (tTg K [t] true) (tGrpB K t i (tE K cls G gv E0 k))
  | .junk => fun _ _ _ => False
  | .brk => tBreak
  | .cnt => tCont
  | .pass => tNext
def tSs (K : PySem.W.Frag) (cls : Nat → Value) (G : Gam) (gv : Gv) (E0 : XK) : List S → TS
  | [] => tNext
  | s :: ss => tSeq (tS K cls G gv E0 s) (tSs K cls G gv E0 ss)
end
mutual
/-- the slots that are stored -/
def asgS : S → List Nat
  | .asg i _ => [i]
  | .asgM i _ => [i]
  | .newD i _ => [i]
  | .asgD i _ => [i]
  | .unp is _ => is
  | .unpF i j _ _ => [i, j]
  | .par i j _ _ => [i, j]
  | .ite _ a b => asgSs a ++ asgSs b
  | .for_ tg _ _ _ body => tg ++ asgSs body
  | .while_ _ _ _ body => asgSs body
  | .tryO i body => i :: asgSs body
  | .grp t _ _ _ => [t]
  | .forO tg _ _ _ _ body => tg ++ asgSs body
  | _ => []
def asgSs : List S → List Nat
  | [] => []
  | s :: ss => asgS s ++ asgSs ss
end
mutual
def wfS : S → Bool
  | .asg _ e => wfE e
  | .asgM _ e => wfE e && frE e
  | .unp _ e => wfE e
  | .unpF _ _ _ as => wfAs as
  | .par _ _ a b => wfE a && wfE b
  | .app _ e => wfE e
  | .ext _ e => wfE e
  | .setI _ k v => wfE k && wfE v
  | .setD _ k v => wfE k && wfE v
  | .asgD _ e => wfE e
  | .drop e => wfE e
  | .ite c a b => okT c && wfE c && wfSs a && wfSs b
  | .for_ _ _ it _ body => wfI it && wfSs body
  | .while_ _ c _ body => okT c && wfE c && wfSs body
  | .ret e => wfE e
  | .tryO _ body => wfSs body
  | .grp _ it _ k => wfI it && wfE k
  | .forO tg _ _ i kill body => !(tg ++ asgSs body).contains i && wfSs body
  | _ => true
def wfSs : List S → Bool
  | [] => true
  | s :: ss => wfS s && wfSs ss
end


section
variable (K : PySem.W.Frag) (cls : Nat → Value) (M0 : Addr → Prop) (F0 H0 : Hp) (fx : Nat → Option V) (E0 : XK)
def Fx (fx : Nat → Option V) (σ : L2.St) : Prop := ∀ i v, fx i = some v → σ[i]? = some (some v)
theorem Fx.set {fx : Nat → Option V} {σ : L2.St} {i : Nat} {x : Option V} (h : Fx fx σ) (n : fx i = none) : Fx fx (σ.set i x) := fun j v e => by
  have hj : i ≠ j := fun z => by rw [z, e] at n; cases n
  rw [List.getElem?_set_ne hj]
  exact h j v e
theorem Fx.wipe {fx : Nat → Option V} {σ σ' : L2.St} {is : List Nat} (h : Fx fx σ) (w : wipe σ' is = wipe σ is) (n : ∀ i ∈ is, fx i = none) : Fx fx σ' := fun j v e => by
  have hj : j ∉ is := fun z => by
    have := n j z
    rw [e] at this
    cases this
  have q := wipe_get (σ := σ') hj
  rw [w, wipe_get hj] at q
  rw [← q]
  exact h j v e
/-- the state within a def: from its entry M0, F0, H0; fx: the slots that stay -/
def Loc (env : En) (σ : L2.St) (F H : Hp) : Prop := ∃ M, Good K M env σ F H ∧ (∀ a, M a → M0 a ∨ H0 a = none) ∧ Stp M0 F0 H0 F H ∧ Fx fx σ
def PostS (r : Fl) (Dn : Ends) : Prop := match r with
  | .nx env' => ∀ σ' F' H', Loc K M0 F0 H0 fx env' σ' F' H' → Dn.nx σ' H'
  | .ret d env' => ∀ v σ' F' H', Loc K M0 F0 H0 fx env' σ' F' H' → Rp K F' v d → Dn.rt v H'
  | .brk env' => ∀ σ' F' H', Loc K M0 F0 H0 fx env' σ' F' H' → Dn.bk σ' H'
  | .cnt env' => ∀ σ' F' H', Loc K M0 F0 H0 fx env' σ' F' H' → Dn.ct σ' H'
  | .exc c env' => ∀ σ' F' H', Loc K M0 F0 H0 fx env' σ' F' H' → E0 (cls c) none H'
  | .stuck => False
end

section
variable {K : PySem.W.Frag} {cls : Nat → Value} {M0 : Addr → Prop} {F0 H0 : Hp} {fx : Nat → Option V} {E0 : XK} {M : Addr → Prop} {F H F' H' : Hp} {env env' : En} {σ : L2.St} {G : Gam} {gv : Gv}
theorem Loc.step {σ' : L2.St} (hM : ∀ a, M a → M0 a ∨ H0 a = none) (s0 : Stp M0 F0 H0 F H) (hx : Fx fx σ') (s : Stp M F H F' H') (g : Good K M env' σ' F' H') : Loc K M0 F0 H0 fx env' σ' F' H' := by
  refine ⟨M, g, hM, ⟨s0.f.trans s.f, s.x, fun a h0 h1 h2 => ?_, fun a o h0 h1 => ?_, fun a h => s.t a (s0.t a h)⟩, hx⟩
  · have nM : ¬ M a := fun z => by
      rcases hM a z with w | w
      · exact h0 w
      · exact h1 w
    exact s.n a nM (s0.t a h1) (s0.n a h0 h1 h2)
  · have nM : ¬ M a := fun z => by
      rcases hM a z with w | w
      · exact h0 w
      · rw [w] at h1; cases h1
    exact s.k a o nM (s0.k a o h0 h1)
def SOk (K : PySem.W.Frag) (cls : Nat → Value) (G : Gam) (gv : Gv) (s : S) : Prop := ∀ (M0 : Addr → Prop) (F0 H0 : Hp) (fx : Nat → Option V) (E0 : XK) (env : En) (σ : L2.St) (F H : Hp) (Dn : Ends), wfS s = true → (∀ i ∈ asgS s, fx i = none) → Loc K M0 F0 H0 fx env σ F H → PostS K cls M0 F0 H0 fx E0 (ex G s env) Dn → tS K cls G gv E0 s Dn σ H
def SsOk (K : PySem.W.Frag) (cls : Nat → Value) (G : Gam) (gv : Gv) (ss : List S) : Prop := ∀ (M0 : Addr → Prop) (F0 H0 : Hp) (fx : Nat → Option V) (E0 : XK) (env : En) (σ : L2.St) (F H : Hp) (Dn : Ends), wfSs ss = true → (∀ i ∈ asgSs ss, fx i = none) → Loc K M0 F0 H0 fx env σ F H → PostS K cls M0 F0 H0 fx E0 (exs G ss env) Dn → tSs K cls G gv E0 ss Dn σ H
/-- an expression within a statement -/
theorem se {e : E} {f : D → En → Fl} {Dn : Ends} {Q : VK} {fr : Bool} (ee : EOk K cls G gv e) (w : wfE e = true) (l : Loc K M0 F0 H0 fx env σ F H) (hfr : fr = true → frE e = true) (p : PostS K cls M0 F0 H0 fx E0 (flOf ((ev G e env).bind fun d env' => .ok (f d env') [])) Dn)
    (h : ∀ M, Good K M env σ F H → Fx fx σ → (∀ a, M a → M0 a ∨ H0 a = none) → ∀ d env' v F' H', ev G e env = .ok d env' → PostS K cls M0 F0 H0 fx E0 (f d env') Dn → Stp M0 F0 H0 F' H' → Stp M F H F' H' → Good K M env' σ F' H' → Res K fr H F' H' v d → Q v H') : tE K cls G gv E0 e σ H Q := by
  obtain ⟨M, g, hM, s0, hx⟩ := l
  have main : PostE K cls M E0 fr σ F H (ev G e env) Q := by
    cases ee' : ev G e env with
    | ok d env' =>
      rw [ee'] at p
      simp only [R.bind_ok, flOf_ok] at p
      intro v F' H' s g' r
      obtain ⟨_, _, _, s1, _⟩ := Loc.step (K := K) (σ' := σ) hM s0 hx s g'
      exact h M g hx hM d env' v F' H' ee' p s1 s g' r
    | exc c env' =>
      rw [ee'] at p
      simp only [R.bind_exc, flOf_exc] at p
      exact fun F' H' s g' => p σ F' H' (Loc.step hM s0 hx s g')
    | stuck =>
      rw [ee'] at p
      exact p.elim
  refine ee M E0 env σ F H Q w g ?_
  cases fr with
  | true => rw [hfr rfl]; exact main
  | false => exact PostE.fz g main
theorem s_asg {i : Nat} {e : E} (ee : EOk K cls G gv e) : SOk K cls G gv (.asg i e) := by
  intro M0 F0 H0 fx E0 env σ F H Dn w na l p
  simp only [ex] at p
  refine se (fr := false) ee (by simpa [wfS] using w) l (fun z => nomatch z) p fun M g hx hM d env' v F' H' he p2 s1 s g' r => ?_
  exact p2 _ F' H' ⟨M, good_set g' r, hM, s1, hx.set (na _ (by simp [asgS]))⟩
theorem s_asgM {i : Nat} {e : E} (ee : EOk K cls G gv e) : SOk K cls G gv (.asgM i e) := by
  intro M0 F0 H0 fx E0 env σ F H Dn w na l p
  simp only [ex] at p
  simp only [wfS, Bool.and_eq_true] at w
  obtain ⟨_, _, _, s0, _⟩ := id l
  refine se (fr := true) ee w.1 l (fun _ => w.2) p fun M g hx hM d env' v F' H' he p2 s1 s g' r => ?_
  cases d with
  | list es =>
    obtain ⟨q, vs, ds, rfl, e, h1, h2, h3, h4, h5⟩ := r
    cases e
    refine p2 _ F' H' ⟨fun b => M b ∨ b = q, good_setM g' (fun b z => .inl z) (fun b z => z) (.inr rfl) h2 h3 (.lst h4 h5) (fun j dj hj hm hs => ?_), fun b hb => ?_, s1, hx.set (na _ (by simp [asgS]))⟩
    · obtain ⟨b, u, k1, k2, _⟩ := g'.mu j dj hm
      rw [hs] at k1
      cases k1
      exact g.there _ k2 h1
    · rcases hb with hb | hb
      · exact hM b hb
      · rw [hb]
        exact .inr (not_there (s := s0) h1)
  | _ => exact p2.elim
theorem s_newD {i : Nat} {t : Bool} : SOk K cls G gv (.newD i t) := by
  intro M0 F0 H0 fx E0 env σ F H Dn w na l p
  simp only [ex] at p
  obtain ⟨M, g, hM, s0, hx⟩ := l
  intro q hq
  have s1 : Stp M F H F (upd H q (if t then .dT [] else .dK [])) := Stp.lay g.ex hq
  have g1 : Good K M env σ F (upd H q (if t then .dT [] else .dK [])) := good_step g (Stp.lay g.ex hq)
  obtain ⟨_, _, _, s2, _⟩ := Loc.step (K := K) (σ' := σ) hM s0 hx s1 g1
  refine p _ F _ ⟨fun b => M b ∨ b = q, good_setM g1 (fun b z => .inl z) (fun b z => z) (.inr rfl) (ex_none g.ex hq) upd_same (cont_empty t) (fun j dj hj hm hs => ?_), fun b hb => ?_, s2, hx.set (na _ (by simp [asgS]))⟩
  · obtain ⟨b, u, k1, k2, _⟩ := g.mu j dj hm
    rw [hs] at k1
    cases k1
    exact g.there _ k2 hq
  · rcases hb with hb | hb
    · exact hM b hb
    · rw [hb]
      exact .inr (not_there (s := s0) hq)
theorem s_asgD {i : Nat} {e : E} (ee : EOk K cls G gv e) : SOk K cls G gv (.asgD i e) := by
  intro M0 F0 H0 fx E0 env σ F H Dn w na l p
  simp only [ex] at p
  obtain ⟨_, _, _, s0, _⟩ := id l
  refine se (fr := false) ee (by simpa [wfS] using w) l (fun z => nomatch z) p fun M g hx hM d env' v F' H' he p2 s1 s g' r => ?_
  cases ep : pDict d with
  | none =>
    rw [ep] at p2
    exact p2.elim
  | some c =>
    rw [ep] at p2
    have r' : Rp K F' v d := r
    unfold pDict at ep
    split at ep
    · rename_i ds
      obtain ⟨kvs, e1, rfl⟩ := Option.map_eq_some_iff.mp ep
      cases r' with
      | lst h1 h2 h3 =>
        obtain ⟨ps, qs, i1, i2, i3⟩ := pairs_kv g'.ex h3 e1
        subst i1
        refine ⟨_, ps, qs, rfl, SqL.of (g'.ex _ _ h1), i2, fun q hq => ?_⟩
        have g1 : Good K M env' σ F' (upd H' q (.dT (mergeT (qs.map (·.2))))) := good_step g' (Stp.lay g'.ex hq)
        have s2 : Stp M F' H' F' (upd H' q (.dT (mergeT (qs.map (·.2))))) := Stp.lay g'.ex hq
        obtain ⟨_, _, _, s3, _⟩ := Loc.step (K := K) (σ' := σ) hM s1 hx s2 g1
        refine p2 _ F' _ ⟨fun b => M b ∨ b = q, good_setM g1 (fun b z => .inl z) (fun b z => z) (.inr rfl) (ex_none g'.ex hq) upd_same (.dt (i3 .nil)) (fun j dj hj hm hs => ?_), fun b hb => ?_, s3, hx.set (na _ (by simp [asgS]))⟩
        · obtain ⟨b, u, k1, k2, _⟩ := g'.mu j dj hm
          rw [hs] at k1
          cases k1
          exact g'.there _ k2 hq
        · rcases hb with hb | hb
          · exact hM b hb
          · rw [hb]
            exact .inr (not_there (s := s1) hq)
    · cases ep
theorem s_setD {i : Nat} {k e : E} (ek : EOk K cls G gv k) (ee : EOk K cls G gv e) : SOk K cls G gv (.setD i k e) := by
  intro M0 F0 H0 fx E0 env σ F H Dn w na l p
  simp only [ex] at p
  simp only [wfS, Bool.and_eq_true] at w
  obtain ⟨M, g, hM, s0, hx⟩ := l
  refine ee M E0 env σ F H _ w.2 g (PostE.fz g ?_)
  cases e1 : ev G e env with
  | exc c env' =>
    rw [e1] at p
    exact fun F' H' s g' => p σ F' H' (Loc.step hM s0 hx s g')
  | stuck =>
    rw [e1] at p
    exact p.elim
  | ok x env1 =>
    rw [e1] at p
    simp only [R.bind_ok] at p
    intro v F1 H1 s1 g1 r1
    have hi : isDictM env1 i = true := by
      cases h : isDictM env1 i with
      | true => rfl
      | false =>
        rw [h] at p
        exact p.elim
    rw [hi] at p
    simp only [if_true] at p
    obtain ⟨a, o, es, h1, h2, h3, h4⟩ := dict_mu g1 hi
    refine ⟨.ref a, h2, ?_⟩
    refine ek M E0 env1 σ F1 H1 _ w.1 g1 (PostE.fz g1 ?_)
    cases e2 : ev G k env1 with
    | exc c env' =>
      rw [e2] at p
      exact fun F' H' s g' => p σ F' H' (Loc.step hM s0 hx (s1.trans s) g')
    | stuck =>
      rw [e2] at p
      exact p.elim
    | ok kd env2 =>
      rw [e2] at p
      simp only [R.bind_ok, flOf_ok] at p
      intro y F2 H2 s2 g2 r2
      cases ep : (getM env2 i).bind fun c => pPut c kd x with
      | none =>
        rw [ep] at p
        exact p.elim
      | some c' =>
        rw [ep] at p
        obtain ⟨c, em, ep⟩ := Option.bind_eq_some_iff.mp ep
        have hm := getM_some em
        obtain ⟨b, u, k1, k2, k3, k4, k5⟩ := g2.mu i _ hm
        rw [h2] at k1
        cases k1
        obtain ⟨o', d1, d2⟩ := put_ok g2.ex k4 k5 r2 (Rp.mono s2.f _ _ r1) ep
        obtain ⟨g3, s3⟩ := good_chg g2 hm h2 d2
        exact ⟨a, _, rfl, d1, p σ F2 _ (Loc.step hM s0 hx ((s1.trans s2).trans s3) g3)⟩
theorem s_drop {e : E} (ee : EOk K cls G gv e) : SOk K cls G gv (.drop e) := by
  intro M0 F0 H0 fx E0 env σ F H Dn w na l p
  simp only [ex] at p
  refine se (fr := false) ee (by simpa [wfS] using w) l (fun z => nomatch z) p fun M g hx hM d env' v F' H' he p2 s1 s g' r => ?_
  exact p2 _ F' H' ⟨M, g', hM, s1, hx⟩
theorem s_ret {e : E} (ee : EOk K cls G gv e) : SOk K cls G gv (.ret e) := by
  intro M0 F0 H0 fx E0 env σ F H Dn w na l p
  simp only [ex] at p
  refine se (fr := false) ee (by simpa [wfS] using w) l (fun z => nomatch z) p fun M g hx hM d env' v F' H' he p2 s1 s g' r => ?_
  exact p2 v σ F' H' ⟨M, g', hM, s1, hx⟩ r
theorem s_unp {is : List Nat} {e : E} (ee : EOk K cls G gv e) : SOk K cls G gv (.unp is e) := by
  intro M0 F0 H0 fx E0 env σ F H Dn w na l p
  simp only [ex] at p
  refine se (fr := false) ee (by simpa [wfS] using w) l (fun z => nomatch z) p fun M g hx hM d env' v F' H' he p2 s1 s g' r => ?_
  cases et : tgL is d env' with
  | none =>
    rw [et] at p2
    exact p2.elim
  | some env2 =>
    rw [et] at p2
    unfold tgL at et
    split at et
    · split at et
      · rename_i ds hl
        cases et
        have r' : Rp K F' v (.tuple ds) := r
        cases r' with
        | tup h1 h2 h3 => exact .inl ⟨_, _, rfl, ex_t g'.ex h1.1, by rw [h3.length, hl], tgs_ok is ds _ env' σ _ hl.symm g' h3 fun σ' g2 w2 => p2 σ' F' H' ⟨M, g2, hM, s1, hx.wipe (w2 is fun _ z => z) na⟩⟩
      · cases et
    · split at et
      · rename_i ds hl
        cases et
        have r' : Rp K F' v (.list ds) := r
        cases r' with
        | lst h1 h2 h3 => exact .inr ⟨_, _, rfl, SqL.of (g'.ex _ _ h1), by rw [h3.length, hl], tgs_ok is ds _ env' σ _ hl.symm g' h3 fun σ' g2 w2 => p2 σ' F' H' ⟨M, g2, hM, s1, hx.wipe (w2 is fun _ z => z) na⟩⟩
      · cases et
    · cases et
theorem s_unpF {i j f : Nat} {as : List A} (es : AsOk K cls G gv as) : SOk K cls G gv (.unpF i j f as) := by
  intro M0 F0 H0 fx E0 env σ F H Dn w na l p
  simp only [ex] at p
  simp only [tS, tE]
  obtain ⟨M, g, hM, s0, hx⟩ := l
  cases hf : G.fn f with
  | none =>
    rw [hf] at p
    exact p.elim
  | some mf =>
    obtain ⟨ms, fn⟩ := mf
    rw [hf] at p
    simp only at p ⊢
    refine es M E0 env σ F H (fun vs H1 => spF K cls ms fn (vs ++ []) H1 _ E0) (by simpa [wfS] using w) g ?_
    cases ea : evAs G as env with
    | exc c env' =>
      rw [ea] at p
      exact fun F' H' s g' => p σ F' H' (Loc.step hM s0 hx s g')
    | stuck =>
      rw [ea] at p
      exact p.elim
    | ok ss env' =>
      rw [ea] at p
      simp only [R.bind_ok] at p
      intro vs F1 H1 s g1 fo
      obtain ⟨_, _, _, s1, _⟩ := Loc.step (K := K) (σ' := σ) hM s0 hx s g1
      unfold callFP at p
      split at p
      · rename_i hc
        obtain ⟨hm, hn⟩ := hc
        subst hm
        cases er : resolveM env' ss with
        | none =>
          rw [er] at p
          exact p.elim
        | some ds =>
          rw [er] at p
          simp only at p
          split at p
          · rename_i hnl
            rw [Bool.and_eq_true] at hnl
            obtain ⟨hnl, hnol⟩ := hnl
            have nd := nodupB_iff hn
            obtain ⟨a1, a2, a3⟩ := args_ok g1 fo er nd
            let A := lstArgs (modesOf ss) vs ds
            refine ⟨onlyA A F1, ds, fun a o h => g1.ex a o (onlyA_sub h), by simpa using args_only hnl a1 fun a z => z, by simpa using a2, ?_⟩
            rw [List.append_nil]
            unfold EndF
            cases en : fn ds with
            | ok d outs =>
              rw [en] at p
              simp only at p ⊢
              cases epf : pairF d with
              | none =>
                rw [epf] at p
                exact p.elim
              | some pr =>
                rw [epf] at p
                simp only at p
                unfold pairF at epf
                split at epf
                · rename_i xs ys
                  split at epf
                  · rename_i hxy
                    cases epf
                    rw [Bool.and_eq_true, Bool.and_eq_true] at hxy
                    obtain ⟨⟨nx, ny⟩, hapart⟩ := hxy
                    split at p
                    · rename_i hout
                      intro v F' H' s2 r o
                      have ho : ∀ a, a ∈ ownAddrs (modesOf ss) vs → F1 a = none ∧ F' a = none := fun a z => ⟨args_none a1 a z, outs_none o a z⟩
                      cases ep : putOuts (ownsOf ss) outs env' with
                      | none =>
                        rw [ep] at p
                        exact p.elim
                      | some env2 =>
                        rw [ep] at p
                        simp only [R.bind_ok, flOf_ok] at p
                        split at p
                        · rename_i hij
                          cases r with
                          | @tup ta tvs _ t1 t2 t3 =>
                            cases t3 with
                            | cons r1 t3 =>
                              cases t3 with
                              | cons r2 t4 =>
                                cases t4
                                have hr1 := r1
                                have hr2 := r2
                                cases r1 with
                                | @lst q1 us1 _ h1 hz1 ra1 =>
                                  cases r2 with
                                  | @lst q2 us2 _ h2 hz2 ra2 =>
                                    have notA : ∀ q, q ∈ A → False := fun q hA => by
                                      obtain ⟨es', k1, k2⟩ := lst_arg a1 (no_lst (vs := vs) (e := PyData.dict []) hnol) hA
                                      simp [apart] at k2
                                    have hq2 : H1 q2 = none := call_fresh g1.ex ho s2 h2 (notA q2)
                                    have hne : q1 ≠ q2 := fun z => by
                                      rw [z] at hr1
                                      exact apart_false (fun a u u' e e' => by rw [e] at e'; cases e'; rfl) _ _ _ hapart hr1 hr2
                                    obtain ⟨F2, s3, n3, ag, no⟩ := call_shr g1.ex (fun a o h => onlyA_sub h) ho s2 (fun a => a = q2) (fun a z => by rw [z]; exact hq2)
                                    have hf2 := agree_u (K := K) (p := fun a => a = q2) (fun a z => ⟨us2, by rw [z]; exact h2⟩) ag
                                    have o2 := outs_only hf2 hout no o
                                    have g2 : Good K M env2 σ F2 H' := good_call g1 fo er nd s3 o2 ep
                                    have s4 : Stp M F1 H1 F2 H' := s3.sub a3
                                    have rx : Rp K F2 (.ref q1) (.list xs) := .lst (ag q1 _ hne h1) hz1 (rpA_tupOnly hf2 nx ra1)
                                    have g3 := good_set (i := i) g2 rx
                                    obtain ⟨_, _, _, s5, _⟩ := Loc.step (K := K) (σ' := σ) hM s1 hx s4 g2
                                    have tl := ex_t s2.x t1.1
                                    have nM : ∀ a, M a → H1 a ≠ none := g1.there
                                    refine .inl ⟨_, _, rfl, tl, rfl, _, _, rfl, _, _, rfl, rfl, p _ F2 H' ⟨fun b => M b ∨ b = q2, good_setM g3 (fun b z => .inl z) (fun b z => z) (.inr rfl) (n3 q2 rfl) (s2.x q2 _ h2) (.lst hz2 (rpA_tupOnly hf2 ny ra2)) (fun k dk hk hmu hs => ?_), fun b hb => ?_, s5, (hx.set (na i (by simp [asgS]))).set (na j (by simp [asgS]))⟩⟩
                                    · obtain ⟨b, u, k1, k2, _⟩ := g3.mu k dk hmu
                                      rw [hs] at k1
                                      cases k1
                                      exact nM _ k2 hq2
                                    · rcases hb with hb | hb
                                      · exact hM b hb
                                      · rw [hb]
                                        exact .inr (not_there (s := s1) hq2)
                        · exact p.elim
                    · exact p.elim
                  · cases epf
                · cases epf
            | exc c outs =>
              rw [en] at p
              exact p.elim
            | stuck =>
              rw [en] at p
              exact p.elim
          · exact p.elim
      · exact p.elim
theorem s_par {i j : Nat} {a b : E} (ea : EOk K cls G gv a) (eb : EOk K cls G gv b) : SOk K cls G gv (.par i j a b) := by
  intro M0 F0 H0 fx E0 env σ F H Dn w na l p
  simp only [ex] at p
  simp only [wfS, Bool.and_eq_true] at w
  obtain ⟨M, g, hM, s0, hx⟩ := l
  refine ea M E0 env σ F H _ w.1 g (PostE.fz g ?_)
  cases e1 : ev G a env with
  | exc c env' =>
    rw [e1] at p
    exact fun F' H' s g' => p σ F' H' (Loc.step hM s0 hx s g')
  | stuck =>
    rw [e1] at p
    exact p.elim
  | ok x env1 =>
    rw [e1] at p
    simp only [R.bind_ok] at p
    intro v F1 H1 s1 g1 r1
    refine eb M E0 env1 σ F1 H1 _ w.2 g1 (PostE.fz g1 ?_)
    cases e2 : ev G b env1 with
    | exc c env' =>
      rw [e2] at p
      exact fun F' H' s g' => p σ F' H' (Loc.step hM s0 hx (s1.trans s) g')
    | stuck =>
      rw [e2] at p
      exact p.elim
    | ok y env2 =>
      rw [e2] at p
      simp only [R.bind_ok, flOf_ok] at p
      intro u F2 H2 s2 g2 r2
      refine ⟨v, u, rfl, p _ F2 H2 ?_⟩
      exact Loc.step hM s0 ((hx.set (na _ (by simp [asgS]))).set (na _ (by simp [asgS]))) (s1.trans s2) (good_set (good_set g2 (Rp.mono s2.f _ _ r1)) r2)
theorem s_app {i : Nat} {e : E} (ee : EOk K cls G gv e) : SOk K cls G gv (.app i e) := by
  intro M0 F0 H0 fx E0 env σ F H Dn w na l p
  simp only [ex] at p
  split at p
  · rename_i hi
    obtain ⟨M', g', _, _, _⟩ := id l
    obtain ⟨a, vs, ds, h1, h2, h3, _⟩ := list_mu g' hi
    refine ⟨_, h2, .inl ⟨rfl, _, SqL.of h3⟩, ?_⟩
    refine se (fr := false) ee (by simpa [wfS] using w) l (fun z => nomatch z) p fun M g hx hM d env' v F' H' he p2 s1 s g' r => ?_
    cases em : getM env' i with
    | none =>
      rw [em] at p2
      exact p2.elim
    | some c =>
      rw [em] at p2
      cases c with
      | list xs =>
        simp only at p2
        split at p2
        · rename_i hl
          have hm := getM_some em
          obtain ⟨b, o, k1, k2, k3, k4, k5⟩ := g'.mu i _ hm
          rw [h2] at k1
          cases k1
          cases k5 with
          | lst k5 k6 =>
            rename_i us
            have hz : us.length < sizeLine := by rw [k6.length]; exact hl
            refine ⟨a, us, v, rfl, rfl, k4, hz, ?_⟩
            obtain ⟨g2, s2⟩ := good_chg (o := .lst (us ++ [v])) (d' := .list (xs ++ [d])) g' hm h2 (.lst (by simp; omega) (k6.append (.cons r .nil)))
            exact p2 σ F' _ (Loc.step hM s1 hx s2 g2)
        · exact p2.elim
      | _ => exact p2.elim
  · exact p.elim
theorem s_ext {i : Nat} {e : E} (ee : EOk K cls G gv e) : SOk K cls G gv (.ext i e) := by
  intro M0 F0 H0 fx E0 env σ F H Dn w na l p
  simp only [ex] at p
  split at p
  · rename_i hi
    obtain ⟨M', g', _, _, _⟩ := id l
    obtain ⟨a, vs, ds, h1, h2, h3, _⟩ := list_mu g' hi
    refine ⟨_, h2, .inl ⟨rfl, _, SqL.of h3⟩, ?_⟩
    refine se (fr := false) ee (by simpa [wfS] using w) l (fun z => nomatch z) p fun M g hx hM d env' v F' H' he p2 s1 s g' r => ?_
    cases em : getM env' i with
    | none =>
      rw [em] at p2
      exact p2.elim
    | some c =>
      rw [em] at p2
      cases c with
      | list xs =>
        cases d with
        | list ys =>
          simp only at p2
          split at p2
          · rename_i hl
            have hm := getM_some em
            obtain ⟨b, o, k1, k2, k3, k4, k5⟩ := g'.mu i _ hm
            rw [h2] at k1
            cases k1
            cases k5 with
            | lst k5 k6 =>
              rename_i us
              have r' : Rp K F' v (.list ys) := r
              cases r' with
              | lst r1 r2 r3 =>
                rename_i b ws
                refine ⟨a, b, us, ws, rfl, rfl, k4, .inl (g'.ex _ _ r1), by rw [k6.length, r3.length]; exact hl, ?_⟩
                obtain ⟨g2, s2⟩ := good_chg (o := .lst (us ++ ws)) (d' := .list (xs ++ ys)) g' hm h2 (.lst (by rw [List.length_append, k6.length, r3.length]; exact hl) (k6.append r3))
                exact p2 σ F' _ (Loc.step hM s1 hx s2 g2)
          · exact p2.elim
        | tuple ys =>
          simp only at p2
          split at p2
          · rename_i hl
            have hm := getM_some em
            obtain ⟨b, o, k1, k2, k3, k4, k5⟩ := g'.mu i _ hm
            rw [h2] at k1
            cases k1
            cases k5 with
            | lst k5 k6 =>
              rename_i us
              have r' : Rp K F' v (.tuple ys) := r
              cases r' with
              | tup r1 r2 r3 =>
                rename_i b ws
                refine ⟨a, b, us, ws, rfl, rfl, k4, .inr (ex_t g'.ex r1.1), by rw [k6.length, r3.length]; exact hl, ?_⟩
                obtain ⟨g2, s2⟩ := good_chg (o := .lst (us ++ ws)) (d' := .list (xs ++ ys)) g' hm h2 (.lst (by rw [List.length_append, k6.length, r3.length]; exact hl) (k6.append r3))
                exact p2 σ F' _ (Loc.step hM s1 hx s2 g2)
          · exact p2.elim
        | _ => exact p2.elim
      | _ => exact p2.elim
  · exact p.elim
theorem s_setI {i : Nat} {k e : E} (ek : EOk K cls G gv k) (ee : EOk K cls G gv e) : SOk K cls G gv (.setI i k e) := by
  intro M0 F0 H0 fx E0 env σ F H Dn w na l p
  simp only [ex] at p
  simp only [wfS, Bool.and_eq_true] at w
  obtain ⟨M, g, hM, s0, hx⟩ := l
  refine ee M E0 env σ F H _ w.2 g (PostE.fz g ?_)
  cases e1 : ev G e env with
  | exc c env' =>
    rw [e1] at p
    exact fun F' H' s g' => p σ F' H' (Loc.step hM s0 hx s g')
  | stuck =>
    rw [e1] at p
    exact p.elim
  | ok x env1 =>
    rw [e1] at p
    simp only [R.bind_ok] at p
    intro v F1 H1 s1 g1 r1
    have hi : isListM env1 i = true := by
      cases h : isListM env1 i with
      | true => rfl
      | false =>
        rw [h] at p
        exact p.elim
    rw [hi] at p
    simp only [if_true] at p
    obtain ⟨a, vs, ds, h1, h2, h3, _⟩ := list_mu g1 hi
    refine ⟨_, h2, ?_⟩
    refine ek M E0 env1 σ F1 H1 _ w.1 g1 (PostE.fz g1 ?_)
    cases e2 : ev G k env1 with
    | exc c env' =>
      rw [e2] at p
      exact fun F' H' s g' => p σ F' H' (Loc.step hM s0 hx (s1.trans s) g')
    | stuck =>
      rw [e2] at p
      exact p.elim
    | ok y env2 =>
      rw [e2] at p
      simp only [R.bind_ok, flOf_ok] at p
      intro u F2 H2 s2 g2 r2
      cases em : getM env2 i with
      | none =>
        rw [em] at p
        exact p.elim
      | some c =>
        rw [em] at p
        cases c with
        | list xs =>
          cases y with
          | int j =>
            simp only at p
            cases ei : ixN xs.length j with
            | none =>
              rw [ei] at p
              exact p.elim
            | some n =>
              rw [ei] at p
              have hm := getM_some em
              obtain ⟨b, o, k1, k2, k3, k4, k5⟩ := g2.mu i _ hm
              rw [h2] at k1
              cases k1
              cases k5 with
              | lst k5 k6 =>
                rename_i us
                cases r2
                refine ⟨a, us, j, n, rfl, rfl, k4, by rw [k6.length]; exact ei, ?_⟩
                obtain ⟨g3, s3⟩ := good_chg (o := .lst (us.set n v)) (d' := .list (xs.set n x)) g2 hm h2 (.lst (by rw [List.length_set]; exact k5) (k6.set n (Rp.mono s2.f _ _ r1)))
                exact p σ F2 _ (Loc.step hM s0 hx ((s1.trans s2).trans s3) g3)
          | _ => exact p.elim
        | _ => exact p.elim
theorem s_raise {c : Nat} : SOk K cls G gv (.raise c) := by
  intro M0 F0 H0 fx E0 env σ F H Dn w na l p
  simp only [ex] at p
  exact p σ F H l
theorem s_brk : SOk K cls G gv .brk := by
  intro M0 F0 H0 fx E0 env σ F H Dn w na l p
  simp only [ex] at p
  exact p σ F H l
theorem s_cnt : SOk K cls G gv .cnt := by
  intro M0 F0 H0 fx E0 env σ F H Dn w na l p
  simp only [ex] at p
  exact p σ F H l
theorem s_pass : SOk K cls G gv .pass := by
  intro M0 F0 H0 fx E0 env σ F H Dn w na l p
  simp only [ex] at p
  exact p σ F H l
/-- a test within a statement -/
theorem st {c : E} {f : Bool → En → Fl} {Dn : Ends} {Q : Bool → Hp → Prop} (tc : TOk K cls G gv c) (o : okT c = true) (w : wfE c = true) (l : Loc K M0 F0 H0 fx env σ F H)
    (p : match ev G c env with
      | .ok d env' => ∃ b, d = .bool b ∧ PostS K cls M0 F0 H0 fx E0 (f b env') Dn
      | .exc c env' => PostS K cls M0 F0 H0 fx E0 (.exc c env') Dn
      | .stuck => False)
    (h : ∀ b env' F' H', PostS K cls M0 F0 H0 fx E0 (f b env') Dn → Loc K M0 F0 H0 fx env' σ F' H' → Ex F F' → Q b H') : tT K cls G gv E0 c σ H Q := by
  obtain ⟨M, g, hM, s0, hx⟩ := l
  refine tc M E0 env σ F H Q o w g ?_
  cases e : ev G c env with
  | ok d env' =>
    rw [e] at p
    obtain ⟨b, rfl, p⟩ := p
    exact ⟨b, rfl, fun F' H' s g' => h b env' F' H' p (Loc.step hM s0 hx s g') s.f⟩
  | exc c env' =>
    rw [e] at p
    exact fun F' H' s g' => p σ F' H' (Loc.step hM s0 hx s g')
  | stuck =>
    rw [e] at p
    exact p.elim
theorem s_ite {c : E} {a b : List S} (tc : TOk K cls G gv c) (sa : SsOk K cls G gv a) (sb : SsOk K cls G gv b) : SOk K cls G gv (.ite c a b) := by
  intro M0 F0 H0 fx E0 env σ F H Dn w na l p
  simp only [ex] at p
  simp only [wfS, Bool.and_eq_true] at w
  refine st (f := fun k env' => if k then exs G a env' else exs G b env') (Dn := Dn) tc w.1.1.1 w.1.1.2 l ?_ fun k env' F' H' p2 l2 _ => ?_
  · cases e : ev G c env with
    | ok d env' =>
      rw [e] at p
      simp only [R.bind_ok, flOf_ok] at p
      cases d with
      | bool k =>
        refine ⟨k, rfl, ?_⟩
        cases k with
        | true => exact p
        | false => exact p
      | _ => exact p.elim
    | exc c env' =>
      rw [e] at p
      exact p
    | stuck =>
      rw [e] at p
      exact p
  · cases k with
    | true => exact iteT (sa M0 F0 H0 fx E0 env' σ F' H' Dn w.1.2 (fun i z => na i (List.mem_append.2 (.inl z))) l2 p2)
    | false => exact iteF (sb M0 F0 H0 fx E0 env' σ F' H' Dn w.2 (fun i z => na i (List.mem_append.2 (.inr z))) l2 p2)
theorem loc_kill (l : Loc K M0 F0 H0 fx env σ F H) (is : List Nat) : Loc K M0 F0 H0 fx (killE env is) σ F H := by
  obtain ⟨M, g, hM, s0, hx⟩ := l
  exact ⟨M, good_kill g is, hM, s0, hx⟩
theorem loc_trans {Mc : Addr → Prop} {F2 H2 : Hp} (hM : ∀ a, Mc a → M0 a ∨ H0 a = none) (s0 : Stp M0 F0 H0 F2 H2) (l : Loc K Mc F2 H2 fx env σ F H) : Loc K M0 F0 H0 fx env σ F H := by
  obtain ⟨M', g, h, s, hx⟩ := l
  refine ⟨M', g, fun a ha => ?_, ⟨s0.f.trans s.f, s.x, fun a h0 h1 h2 => ?_, fun a o h0 h1 => ?_, fun a h => s.t a (s0.t a h)⟩, hx⟩
  · rcases h a ha with z | z
    · exact hM a z
    · exact .inr (not_there (s := s0) z)
  · have nM : ¬ Mc a := fun z => by
      rcases hM a z with w | w
      · exact h0 w
      · exact h1 w
    exact s.n a nM (s0.t a h1) (s0.n a h0 h1 h2)
  · have nM : ¬ Mc a := fun z => by
      rcases hM a z with w | w
      · exact h0 w
      · rw [w] at h1; cases h1
    exact s.k a o nM (s0.k a o h0 h1)
theorem loc_ex {Mc : Addr → Prop} {F2 H2 : Hp} (l : Loc K Mc F2 H2 fx env σ F H) : Ex F2 F ∧ Ex F H := by
  obtain ⟨M', g, h, s, _⟩ := l
  exact ⟨s.f, s.x⟩
theorem s_for {tg : List Nat} {one : Bool} {it : It} {kill : List Nat} {body : List S} (ei : IOk K cls G gv it) (sb : SsOk K cls G gv body) : SOk K cls G gv (.for_ tg one it kill body) := by
  intro M0 F0 H0 fx E0 env σ F H Dn w na l p
  simp only [ex] at p
  simp only [wfS, Bool.and_eq_true] at w
  obtain ⟨M, g, hM, s0, hx⟩ := l
  refine ei M E0 env σ F H _ w.1 g ?_
  cases e : evIt G it env with
  | exc c env' =>
    rw [e] at p
    exact fun F' H' s g' => p σ F' H' (Loc.step hM s0 hx s g')
  | stuck =>
    rw [e] at p
    exact p.elim
  | ok items env1 =>
    rw [e] at p
    simp only [R.bind_ok, flOf_ok] at p
    intro J F1 H1 s1 g1 hJ hz
    let bd : D → En → Fl := fun x e => match tgE tg one x e with
      | none => .stuck
      | some e1 => exs G body e1
    let W : Nat → Nat → L2.St → Hp → Prop := fun i m σ' Hc => m = items.length - i ∧ i ≤ items.length ∧ ∃ envc Fc, Loc K M0 F0 H0 fx envc σ' Fc Hc ∧ Ex F1 Fc ∧ Ex Fc Hc ∧ PostS K cls M0 F0 H0 fx E0 (forR bd kill (items.drop i) envc) Dn
    refine ⟨W, ⟨items.length, by simp, Nat.zero_le _, killE env1 kill, F1, loc_kill (Loc.step hM s0 hx s1 g1) kill, Ex.refl _, g1.ex, by rw [List.drop_zero]; exact p⟩, ?_⟩
    rintro i m σ' Hc ⟨hm, hi, envc, Fc, lc, x1, x2, pc⟩
    obtain ⟨go, stop⟩ := hJ Fc Hc x1 x2
    by_cases hlt : i < items.length
    · have hx : items[i]? = some items[i] := List.getElem?_eq_getElem hlt
      obtain ⟨hgo, hy⟩ := go i _ hx
      refine .inr ⟨hgo, fun σ2 H2 => W (i + 1) (items.length - (i + 1)) σ2 H2, fun σ2 H2 q => ⟨items.length - (i + 1), by omega, q⟩, fun x H2 y => ?_⟩
      obtain ⟨F2, s2, r2⟩ := hy x H2 y
      have ed : items.drop i = items[i] :: items.drop (i + 1) := List.drop_eq_getElem_cons hlt
      rw [ed] at pc
      simp only [forR] at pc
      obtain ⟨Mc, gc, hMc, sc, hxc⟩ := lc
      have g2 := good_step gc s2
      have s2M : Stp Mc Fc Hc F2 H2 := s2.sub fun _ z => z.elim
      cases et : tgE tg one items[i] envc with
      | none =>
        have : bd items[i] envc = .stuck := by simp only [bd, et]
        rw [this] at pc
        exact pc.elim
      | some e1 =>
        have eb : bd items[i] envc = exs G body e1 := by simp only [bd, et]
        rw [eb] at pc
        refine tg_ok g2 r2 et fun σ2 g3 w3 => ?_
        have hx3 : Fx fx σ2 := hxc.wipe (w3 tg fun _ z => z) fun i z => na i (List.mem_append.2 (.inl z))
        have l3 : Loc K Mc F2 H2 fx e1 σ2 F2 H2 := ⟨Mc, g3, fun a h => .inl h, Stp.refl g3.ex, hx3⟩
        have s3 : Stp M0 F0 H0 F2 H2 := by
          obtain ⟨_, _, _, s3, _⟩ := Loc.step (K := K) (σ' := σ2) hMc sc hx3 s2M g3
          exact s3
        refine sb Mc F2 H2 fx E0 e1 σ2 F2 H2 _ w.2 (fun i z => na i (List.mem_append.2 (.inr z))) l3 ?_
        cases er : exs G body e1 with
        | nx env' =>
          rw [er] at pc
          intro σ' F' H' l'
          obtain ⟨y1, y2⟩ := loc_ex l'
          exact ⟨rfl, hlt, killE env' kill, F', loc_kill (loc_trans hMc s3 l') kill, (x1.trans s2.f).trans y1, y2, pc⟩
        | cnt env' =>
          rw [er] at pc
          intro σ' F' H' l'
          obtain ⟨y1, y2⟩ := loc_ex l'
          exact ⟨rfl, hlt, killE env' kill, F', loc_kill (loc_trans hMc s3 l') kill, (x1.trans s2.f).trans y1, y2, pc⟩
        | brk env' =>
          rw [er] at pc
          exact fun σ' F' H' l' => pc σ' F' H' (loc_kill (loc_trans hMc s3 l') kill)
        | ret d env' =>
          rw [er] at pc
          exact fun v σ' F' H' l' r => pc v σ' F' H' (loc_trans hMc s3 l') r
        | exc c env' =>
          rw [er] at pc
          exact fun σ' F' H' l' => pc σ' F' H' (loc_trans hMc s3 l')
        | stuck =>
          rw [er] at pc
          exact pc.elim
    · have ei : i = items.length := by omega
      refine .inl ⟨stop i (by omega), ?_⟩
      rw [ei, List.drop_length] at pc
      exact pc σ' Fc Hc lc
/-- a loop over an owned list that stays as it is -/
theorem s_forO {tg : List Nat} {one en : Bool} {i : Nat} {kill : List Nat} {body : List S} (sb : SsOk K cls G gv body) : SOk K cls G gv (.forO tg one en i kill body) := by
  intro M0 F0 H0 fx E0 env σ F H Dn w na l p
  simp only [ex] at p
  simp only [wfS, Bool.and_eq_true, Bool.not_eq_true', List.contains_eq_mem, decide_eq_false_iff_not] at w
  obtain ⟨w1, w2⟩ := w
  obtain ⟨M, g, hM, s0, hx⟩ := l
  split at p
  · rename_i ds hm
    have hm := getM_some hm
    obtain ⟨a, o, hs, hMa, hFa, hHa, hcn⟩ := g.mu i _ hm
    obtain ⟨vs, rfl, hvz, hr⟩ : ∃ vs, o = .lst vs ∧ vs.length ≤ sizeLine ∧ RpA K F vs ds := by
      cases hcn with
      | lst h1 h2 => exact ⟨_, rfl, h1, h2⟩
    have hil : i < env.length := (List.getElem?_eq_some_iff.mp hm).1
    -- the list stands aside
    let M1 : Addr → Prop := fun b => M b ∧ b ≠ a
    have gk : Good K M1 (killE (killE env [i]) kill) σ F H := by
      have g2 := good_kill (good_kill g [i]) kill
      refine ⟨g2.ex, g2.len, g2.im, fun j d h => ?_, g2.sep, fun b hb => g2.there b hb.1⟩
      obtain ⟨b, u, k1, k2, k3, k4, k5⟩ := g2.mu j d h
      refine ⟨b, u, k1, ⟨k2, fun z => ?_⟩, k3, k4, k5⟩
      have hj : (killE env [i])[j]? = some (.mu d) := by
        rw [kill_get] at h
        split at h
        · obtain ⟨_, _, z⟩ := Option.map_eq_some_iff.mp h
          cases z
        · exact h
      rw [kill_get] at hj
      split at hj
      · obtain ⟨_, _, z⟩ := Option.map_eq_some_iff.mp hj
        cases z
      · rename_i hji
        rw [z] at k1
        exact hji (by rw [g.sep i j _ d a hm hj hs k1]; simp)
    let fx1 : Nat → Option V := fun j => if j = i then some (.ref a) else fx j
    have fx1n : ∀ j, j ≠ i → fx j = none → fx1 j = none := fun j h1 h2 => by
      show (if j = i then some (V.ref a) else fx j) = none
      rw [if_neg h1, h2]
    have fxdown : ∀ {σ' : L2.St}, Fx fx1 σ' → Fx fx σ' ∧ σ'[i]? = some (some (.ref a)) := fun {σ'} h => by
      have hi : σ'[i]? = some (some (.ref a)) := h i _ (if_pos rfl)
      refine ⟨fun j v e => ?_, hi⟩
      by_cases hj : j = i
      · subst hj
        have := hx j v e
        rw [hs] at this
        cases this
        exact hi
      · exact h j v (by show (if j = i then some (V.ref a) else fx j) = _; rw [if_neg hj, e])
    have hx1 : Fx fx1 σ := fun j v e => by
      have e' : (if j = i then some (V.ref a) else fx j) = some v := e
      split at e'
      · rename_i z
        cases e'
        rw [z]
        exact hs
      · exact hx j v e'
    let L1 : En → L2.St → Hp → Hp → Prop := fun env σ' F' H' => ∃ M', Good K M' env σ' F' H' ∧ (∀ b, M' b → M0 b ∨ H0 b = none) ∧ Stp M0 F0 H0 F' H' ∧ Fx fx1 σ' ∧ ¬ M' a ∧ F' a = none ∧ H' a = some (.lst vs) ∧ RpA K F' vs ds
    have down : ∀ {env' : En} {σ' : L2.St} {F' H' : Hp}, L1 env' σ' F' H' → Loc K M0 F0 H0 fx env' σ' F' H' := fun ⟨M', g', h1, h2, h3, _⟩ => ⟨M', g', h1, h2, (fxdown h3).1⟩
    have back : ∀ {env' : En} {σ' : L2.St} {F' H' : Hp}, L1 env' σ' F' H' → Loc K M0 F0 H0 fx (setM env' i (.list ds)) σ' F' H' := fun {env' σ' F' H'} ⟨M', g', h1, h2, h3, h4, h5, h6, h7⟩ => by
      obtain ⟨x1, x2⟩ := fxdown h3
      refine ⟨fun b => M' b ∨ b = a, ?_, fun b hb => ?_, h2, x1⟩
      · have := good_setM (i := i) (a := a) (d := .list ds) (M' := fun b => M' b ∨ b = a) g' (fun b h => .inl h) (fun b h => h) (.inr rfl) h5 h6 (.lst hvz h7) fun j dj hj hd hsj => by
          obtain ⟨b, u, k1, k2, _⟩ := g'.mu j dj hd
          rw [hsj] at k1
          cases k1
          exact h4 k2
        have e : σ'.set i (some (.ref a)) = σ' := by
          refine List.ext_getElem? fun j => ?_
          by_cases hj : i = j
          · subst hj
            rw [List.getElem?_set_self (List.getElem?_eq_some_iff.mp x2).1, x2]
          · rw [List.getElem?_set_ne hj]
        rwa [e] at this
      · rcases hb with hb | hb
        · exact h1 b hb
        · rw [hb]
          exact hM a hMa
    let bd : D → En → Fl := fun x e => match tgE tg one x e with
      | none => .stuck
      | some e1 => exs G body e1
    let items := ownIt en ds
    let J : L2.It := if en then Ite K a else Itl K a
    have hJ : ∀ F' H', H' a = some (.lst vs) → Ex F' H' → RpA K F' vs ds → (∀ (j : Nat) (d : D), items[j]? = some d → J.go j H' ∧ ∀ x H2, J.yld j H' x H2 → ∃ F2, Stp (fun _ => False) F' H' F2 H2 ∧ Rp K F2 x d) ∧ (∀ j : Nat, items.length ≤ j → J.stop j H') := fun F' H' k1 k2 k3 => by
      cases en with
      | true => exact itM_enum k1 k2 k3
      | false => exact itM_list k1 k2 k3
    let W : Nat → Nat → L2.St → Hp → Prop := fun j m σ' Hc => m = items.length - j ∧ j ≤ items.length ∧ ∃ envc Fc, L1 envc σ' Fc Hc ∧ PostS K cls M0 F0 H0 fx E0 (backM i (.list ds) (forR bd kill (items.drop j) envc)) Dn
    have main : ∃ W : Nat → Nat → L2.St → Hp → Prop, True := ⟨W, trivial⟩
    have start : W 0 items.length σ H := ⟨by simp, Nat.zero_le _, _, F, ⟨M1, gk, fun b h => hM b h.1, s0, hx1, fun z => z.2 rfl, hFa, hHa, hr⟩, by rw [List.drop_zero]; exact p⟩
    have killL : ∀ {env' : En} {σ' : L2.St} {F' H' : Hp}, L1 env' σ' F' H' → L1 (killE env' kill) σ' F' H' := fun ⟨M', g', h⟩ => ⟨M', good_kill g' kill, h⟩
    have loop : tFor (fun σ H R => R J H) (tTg K tg one) (tSs K cls G gv E0 body) Dn σ H := by
      refine ⟨W, ⟨items.length, start⟩, ?_⟩
      rintro j m σ' Hc ⟨hmj, hj, envc, Fc, lc, pc⟩
      obtain ⟨Mc, gc, hMc, sc, hxc, nac, hFc, hHc, hrc⟩ := lc
      obtain ⟨go, stop⟩ := hJ Fc Hc hHc gc.ex hrc
      by_cases hlt : j < items.length
      · have hxj : items[j]? = some items[j] := List.getElem?_eq_getElem hlt
        obtain ⟨hgo, hy⟩ := go j _ hxj
        refine .inr ⟨hgo, fun σ2 H2 => W (j + 1) (items.length - (j + 1)) σ2 H2, fun σ2 H2 q => ⟨items.length - (j + 1), by omega, q⟩, fun x H2 y => ?_⟩
        obtain ⟨F2, s2, r2⟩ := hy x H2 y
        have ed : items.drop j = items[j] :: items.drop (j + 1) := List.drop_eq_getElem_cons hlt
        rw [ed] at pc
        simp only [forR] at pc
        have g2 := good_step gc s2
        have s2M : Stp Mc Fc Hc F2 H2 := s2.sub fun _ z => z.elim
        cases et : tgE tg one items[j] envc with
        | none =>
          have : bd items[j] envc = .stuck := by simp only [bd, et]
          rw [this] at pc
          exact pc.elim
        | some e1 =>
          have eb : bd items[j] envc = exs G body e1 := by simp only [bd, et]
          rw [eb] at pc
          refine tg_ok g2 r2 et fun σ2 g3 w3 => ?_
          have notg : ∀ q ∈ tg, fx1 q = none := fun q z => fx1n q (fun e => w1 (List.mem_append.2 (.inl (by rw [← e]; exact z)))) (na q (List.mem_append.2 (.inl z)))
          have hx3 : Fx fx1 σ2 := hxc.wipe (w3 tg fun _ z => z) notg
          have l3 : Loc K Mc F2 H2 fx1 e1 σ2 F2 H2 := ⟨Mc, g3, fun a h => .inl h, Stp.refl g3.ex, hx3⟩
          have s3 : Stp M0 F0 H0 F2 H2 := by
            obtain ⟨_, _, _, s3, _⟩ := Loc.step (K := K) (σ' := σ2) hMc sc hx3 s2M g3
            exact s3
          have hF2 : F2 a = none := s2.n a (fun z => z) (by rw [hHc]; exact fun z => nomatch z) hFc
          have hH2 : H2 a = some (.lst vs) := s2.k a _ (fun z => z) hHc
          have up : ∀ {env' : En} {σ' : L2.St} {F' H' : Hp}, Loc K Mc F2 H2 fx1 env' σ' F' H' → L1 env' σ' F' H' := fun {env' σ' F' H'} l' => by
            obtain ⟨M', g', q1, q2, q3⟩ := l'
            obtain ⟨M'', _, q1', q2', _⟩ := loc_trans (K := K) hMc s3 ⟨M', g', q1, q2, q3⟩
            have nM' : ¬ M' a := fun z => by
              rcases q1 a z with z | z
              · exact nac z
              · rw [hH2] at z
                cases z
            refine ⟨M', g', fun b hb => ?_, q2', q3, nM', q2.n a nac (by rw [hH2]; exact fun z => nomatch z) hF2, q2.k a _ nac hH2, (hrc.mono s2.f).mono q2.f⟩
            rcases q1 b hb with z | z
            · exact hMc b z
            · exact .inr (not_there (s := s3) z)
          refine sb Mc F2 H2 fx1 E0 e1 σ2 F2 H2 _ w2 (fun q z => fx1n q (fun e => w1 (List.mem_append.2 (.inr (by rw [← e]; exact z)))) (na q (List.mem_append.2 (.inr z)))) l3 ?_
          cases er : exs G body e1 with
          | nx env' =>
            rw [er] at pc
            intro σ' F' H' l'
            exact ⟨rfl, hlt, killE env' kill, F', killL (up l'), pc⟩
          | cnt env' =>
            rw [er] at pc
            intro σ' F' H' l'
            exact ⟨rfl, hlt, killE env' kill, F', killL (up l'), pc⟩
          | brk env' =>
            rw [er] at pc
            exact fun σ' F' H' l' => pc σ' F' H' (back (killL (up l')))
          | ret d env' =>
            rw [er] at pc
            exact fun v σ' F' H' l' r => pc v σ' F' H' (down (up l')) r
          | exc c env' =>
            rw [er] at pc
            exact fun σ' F' H' l' => pc σ' F' H' (down (up l'))
          | stuck =>
            rw [er] at pc
            exact pc.elim
      · have ei : j = items.length := by omega
        refine .inl ⟨stop j (by omega), ?_⟩
        rw [ei, List.drop_length] at pc
        exact pc σ' Fc Hc (back ⟨Mc, gc, hMc, sc, hxc, nac, hFc, hHc, hrc⟩)
    cases en with
    | true => exact ⟨.ref a, hs, a, _, rfl, SqL.of hHa, loop⟩
    | false => exact ⟨.ref a, hs, a, rfl, .inl ⟨⟨_, SqL.of hHa⟩, loop⟩⟩
  · exact p.elim
/-! ### groups -/
/-- the groups: a key, the list's address, what it holds -/
inductive GrL (K : PySem.W.Frag) (a : Addr) (M : Addr → Prop) (H0 F H : Hp) : List (Int × Addr × List V) → List (Int × List D) → Prop
  | nil : GrL K a M H0 F H [] []
  | cons {r : Int} {p : Addr} {vs : List V} {ds : List D} {qs : List (Int × Addr × List V)} {gs : List (Int × List D)} : H p = some (.lst vs) → F p = none → ¬ M p → H0 p = none → p ≠ a → RpA K F vs ds → GrL K a M H0 F H qs gs → GrL K a M H0 F H ((r, p, vs) :: qs) ((r, ds) :: gs)
def grK (qs : List (Int × Addr × List V)) : List (Key × V) := qs.map fun q => (Sum.inl q.1, V.ref q.2.1)
theorem GrL.stp {a : Addr} (s : Stp M F H F' H') : ∀ {qs : List (Int × Addr × List V)} {gs : List (Int × List D)}, GrL K a M H0 F H qs gs → GrL K a M H0 F' H' qs gs
  | _, _, .nil => .nil
  | _, _, .cons h1 h2 h3 h4 h5 h6 h7 => .cons (s.k _ _ h3 h1) (s.n _ h3 (by rw [h1]; exact fun z => nomatch z) h2) h3 h4 h5 (h6.mono s.f) (GrL.stp s h7)
theorem GrL.cong {a : Addr} : ∀ {qs : List (Int × Addr × List V)} {gs : List (Int × List D)}, GrL K a M H0 F H qs gs → (∀ q ∈ qs, H' q.2.1 = H q.2.1) → GrL K a M H0 F H' qs gs
  | _, _, .nil, _ => .nil
  | _, _, .cons h1 h2 h3 h4 h5 h6 h7, f => .cons ((f _ List.mem_cons_self).trans h1) h2 h3 h4 h5 h6 (h7.cong fun q hq => f q (List.mem_cons_of_mem _ hq))
theorem grK_val {r : Int} {q : Int × Addr × List V} {qs : List (Int × Addr × List V)} : valV (grK (q :: qs)) (.inl r) = if q.1 = r then some (.ref q.2.1) else valV (grK qs) (.inl r) := by
  unfold grK valV
  rw [List.map_cons, List.find?_cons]
  by_cases h : q.1 = r
  · simp [h]
  · rw [if_neg h]
    have : decide ((Sum.inl q.1 : Key) = Sum.inl r) = false := decide_eq_false (fun z => h (by simpa using z))
    simp only [this]
theorem GrL.len {a : Addr} : ∀ {qs : List (Int × Addr × List V)} {gs : List (Int × List D)}, GrL K a M H0 F H qs gs → qs.length = gs.length
  | _, _, .nil => rfl
  | _, _, .cons _ _ _ _ _ _ h => by rw [List.length_cons, List.length_cons, h.len]
theorem GrL.addr {a : Addr} : ∀ {qs : List (Int × Addr × List V)} {gs : List (Int × List D)}, GrL K a M H0 F H qs gs → ∀ q ∈ qs, H q.2.1 ≠ none ∧ q.2.1 ≠ a
  | _, _, .nil, q, hq => by cases hq
  | _, _, .cons h1 h2 h3 h4 h5 h6 h7, q, hq => by
    rcases List.mem_cons.mp hq with e | e
    · rw [e]; exact ⟨by rw [h1]; exact (fun z => nomatch z), h5⟩
    · exact h7.addr q e
theorem GrL.old {a : Addr} {r : Int} {x : D} {v : V} (rv : Rp K F v x) : ∀ {qs : List (Int × Addr × List V)} {gs : List (Int × List D)}, GrL K a M H0 F H qs gs → (qs.Pairwise fun p q => p.2.1 ≠ q.2.1) → ∀ u, valV (grK qs) (.inl r) = some u →
    ∃ p vs qs', u = .ref p ∧ H p = some (.lst vs) ∧ p ≠ a ∧ ¬ M p ∧ F p = none ∧ H0 p = none ∧ (∃ g ∈ gs, vs.length = g.2.length) ∧ grK qs' = grK qs ∧ (qs'.Pairwise fun p q => p.2.1 ≠ q.2.1) ∧ (∀ q' ∈ qs', ∃ q ∈ qs, q.2.1 = q'.2.1) ∧ (∃ q ∈ qs, q.2.1 = p) ∧ GrL K a M H0 F (upd H p (.lst (vs ++ [v]))) qs' (addG r x gs)
  | _, _, .nil, _, u, e => by cases e
  | _, _, .cons (r := r') (p := p') (vs := vs') (ds := ds') (qs := qs) (gs := gs) h1 h2 h3 h4 h5 h6 h7, pw, u, e => by
    rw [grK_val] at e
    obtain ⟨pw1, pw2⟩ := List.pairwise_cons.mp pw
    by_cases hr : r' = r
    · rw [if_pos hr] at e
      cases e
      refine ⟨p', vs', (r', p', vs' ++ [v]) :: qs, rfl, h1, h5, h3, h2, h4, ⟨_, List.mem_cons_self, h6.length⟩, rfl, List.pairwise_cons.mpr ⟨pw1, pw2⟩, fun q hq => ?_, ⟨_, List.mem_cons_self, rfl⟩, ?_⟩
      · rcases List.mem_cons.mp hq with z | z
        · exact ⟨_, List.mem_cons_self, by rw [z]⟩
        · exact ⟨q, List.mem_cons_of_mem _ z, rfl⟩
      · unfold addG
        rw [if_pos hr]
        exact .cons upd_same h2 h3 h4 h5 (h6.append (.cons rv .nil)) (h7.cong fun q hq => upd_ne (fun z => pw1 q hq z.symm))
    · rw [if_neg hr] at e
      obtain ⟨p, vs, qs', e1, e2, e3, e4, e5, e6, ⟨g, g1, g2⟩, e7, e8, e9, ⟨q0, q1, q2⟩, e10⟩ := GrL.old rv h7 pw2 u e
      have hpp : p' ≠ p := fun z => pw1 q0 q1 (by rw [q2]; exact z)
      refine ⟨p, vs, (r', p', vs') :: qs', e1, e2, e3, e4, e5, e6, ⟨g, List.mem_cons_of_mem _ g1, g2⟩, by unfold grK at e7 ⊢; rw [List.map_cons, List.map_cons, e7], List.pairwise_cons.mpr ⟨fun q hq => ?_, e8⟩, fun q hq => ?_, ⟨q0, List.mem_cons_of_mem _ q1, q2⟩, ?_⟩
      · obtain ⟨w, w1, w2⟩ := e9 q hq
        rw [← w2]
        exact pw1 w w1
      · rcases List.mem_cons.mp hq with z | z
        · exact ⟨_, List.mem_cons_self, by rw [z]⟩
        · obtain ⟨w, w1, w2⟩ := e9 q z
          exact ⟨w, List.mem_cons_of_mem _ w1, w2⟩
      · unfold addG
        rw [if_neg hr]
        exact .cons (by rw [upd_ne hpp]; exact h1) h2 h3 h4 h5 h6 e10
theorem GrL.new {a : Addr} {r : Int} {x : D} {v : V} {p : Addr} (rv : Rp K F v x) (k1 : H p = some (.lst [v])) (k2 : F p = none) (k3 : ¬ M p) (k4 : H0 p = none) (k5 : p ≠ a) : ∀ {qs : List (Int × Addr × List V)} {gs : List (Int × List D)}, GrL K a M H0 F H qs gs → valV (grK qs) (.inl r) = none → GrL K a M H0 F H (qs ++ [(r, p, [v])]) (addG r x gs)
  | _, _, .nil, _ => .cons k1 k2 k3 k4 k5 (.cons rv .nil) .nil
  | _, _, .cons (r := r') h1 h2 h3 h4 h5 h6 h7, e => by
    rw [grK_val] at e
    by_cases hr : r' = r
    · rw [if_pos hr] at e; cases e
    · rw [if_neg hr] at e
      unfold addG
      rw [if_neg hr]
      exact .cons h1 h2 h3 h4 h5 h6 (GrL.new rv k1 k2 k3 k4 k5 h7 e)
theorem grK_put {r : Int} {z : V} : ∀ {qs : List (Int × Addr × List V)}, valV (grK qs) (.inl r) = none → putK (grK qs) (.inl r) z = grK qs ++ [(.inl r, z)] := by
  intro qs e
  unfold putK
  rw [if_neg]
  intro h
  obtain ⟨kv, h1, h2⟩ := List.any_eq_true.mp h
  unfold valV at e
  rw [Option.map_eq_none_iff, List.find?_eq_none] at e
  exact e kv h1 h2
theorem addG_len {r : Int} {x : D} : ∀ {gs : List (Int × List D)} {n : Nat}, (gs.length ≤ n ∧ ∀ g ∈ gs, g.2.length ≤ n) → (addG r x gs).length ≤ n + 1 ∧ ∀ g ∈ addG r x gs, g.2.length ≤ n + 1
  | [], n, _ => ⟨by simp [addG], fun g hg => by
    have : g = (r, [x]) := by simpa [addG] using hg
    rw [this]
    simp⟩
  | (c, ds) :: gs, n, ⟨h1, h2⟩ => by
    unfold addG
    split
    · refine ⟨by simp at h1 ⊢; omega, fun g hg => ?_⟩
      rcases List.mem_cons.mp hg with z | z
      · have := h2 _ List.mem_cons_self
        rw [z]
        simp at this ⊢
        omega
      · have := h2 _ (List.mem_cons_of_mem _ z)
        omega
    · have h1' : gs.length + 1 ≤ n := by simpa using h1
      obtain ⟨i1, i2⟩ := addG_len (r := r) (x := x) (gs := gs) (n := n) ⟨by omega, fun g hg => h2 g (List.mem_cons_of_mem _ hg)⟩
      have i3 : (addG r x gs).length ≤ gs.length + 1 := by
        have : ∀ gs : List (Int × List D), (addG r x gs).length ≤ gs.length + 1 := by
          intro gs
          induction gs with
          | nil => simp [addG]
          | cons g gs ih =>
            unfold addG
            split
            · simp
            · simpa using ih
        exact this gs
      refine ⟨by rw [List.length_cons]; omega, fun g hg => ?_⟩
      rcases List.mem_cons.mp hg with z | z
      · have := h2 _ List.mem_cons_self
        rw [z]
        exact Nat.le_succ_of_le this
      · exact i2 g z
/-- an object that nothing of this knows is written -/
theorem good_off {b : Addr} {o : HO} (g : Good K M env σ F H) (hb : ¬ M b) (hF : F b = none) : Good K M env σ F (upd H b o) := by
  refine ⟨fun c u q => ?_, g.len, g.im, fun j e h => ?_, g.sep, fun c h => ?_⟩
  · rw [upd_ne (fun z => by rw [z, hF] at q; cases q)]
    exact g.ex c u q
  · obtain ⟨c, u, k1, k2, k3, k4, k5⟩ := g.mu j e h
    exact ⟨c, u, k1, k2, k3, by rw [upd_ne (fun z => hb (by rw [← z]; exact k2))]; exact k4, k5⟩
  · rw [upd_ne (fun z => hb (by rw [← z]; exact h))]
    exact g.there c h
theorem stp_off {b : Addr} {o : HO} (s : Stp M0 F0 H0 F H) (hb : M0 b ∨ H0 b = none) (hF : F b = none) : Stp M0 F0 H0 F (upd H b o) := by
  refine ⟨s.f, fun c u q => ?_, s.n, fun c u h1 h2 => ?_, fun c h => ?_⟩
  · rw [upd_ne (fun z => by rw [z, hF] at q; cases q)]
    exact s.x c u q
  · rw [upd_ne (fun z => by
      rcases hb with w | w
      · exact h1 (by rw [z]; exact w)
      · rw [z, w] at h2; cases h2)]
    exact s.k c u h1 h2
  · by_cases hc : c = b
    · rw [hc, upd_same]; exact fun z => nomatch z
    · rw [upd_ne hc]; exact s.t c h
/-- a turn -/
theorem grp_body {a : Addr} {t i : Nat} {k : E} {x : D} {v : V} {qs : List (Int × Addr × List V)} {gs : List (Int × List D)} {n : Nat} {Dn : Ends} {N : L2.St → Hp → Prop} (ee : EOk K cls G gv k) (wk : wfE k = true) (g : Good K M env σ F H)
    (si : σ[i]? = some (some (.ref a))) (st : σ[t]? = some (some v)) (rv : Rp K F v x) (Ha : H a = some (.dK (grK qs))) (Fa : F a = none) (Ma : ¬ M a) (L : GrL K a M H0 F H qs gs) (pw : qs.Pairwise fun p q => p.2.1 ≠ q.2.1) (hn : n ≤ 1000) (hl : gs.length ≤ n ∧ ∀ g ∈ gs, g.2.length ≤ n)
    (s0 : Stp M0 F0 H0 F H) (hM : ∀ b, M b → M0 b ∨ H0 b = none) (ha0 : M0 a ∨ H0 a = none) (hx : Fx fx σ)
    (pk : ∀ env' rr, ev G k env = .ok (.int rr) env' → ∀ F' H' qs', Good K M env' σ F' H' → Stp M0 F0 H0 F' H' → Ex F F' → H' a = some (.dK (grK qs')) → F' a = none → GrL K a M H0 F' H' qs' (addG rr x gs) → (qs'.Pairwise fun p q => p.2.1 ≠ q.2.1) → N σ H')
    (pe : match ev G k env with
      | .ok (.int _) _ => True
      | .exc c env' => ∀ σ' F' H', Loc K M0 F0 H0 fx env' σ' F' H' → E0 (cls c) none H'
      | _ => False) : tGrpB K t i (tE K cls G gv E0 k) { Dn with nx := N, ct := N, bk := Dn.nx } σ H := by
  have hz : (1000 : Nat) < sizeLine := by rw [sizeLine_eq]; omega
  have hqg : qs.length = gs.length := L.len
  refine ⟨.ref a, si, a, rfl, .inl ⟨_, .inl Ha⟩, ?_⟩
  refine ee M E0 env σ F H _ wk g (PostE.fz g ?_)
  cases ek : ev G k env with
  | stuck =>
    rw [ek] at pe
    exact pe.elim
  | exc c env' =>
    rw [ek] at pe
    exact fun F' H' s g' => pe σ F' H' (Loc.step hM s0 hx s g')
  | ok d env' =>
    rw [ek] at pe
    cases d with
    | int rr =>
      intro y F1 H1 s g1 ry
      have ry : Rp K F1 y (.int rr) := ry
      cases ry
      have Ha1 : H1 a = some (.dK (grK qs)) := s.k a _ Ma Ha
      have Fa1 : F1 a = none := s.n a Ma (by rw [Ha]; exact fun z => nomatch z) Fa
      have L1 := L.stp s
      obtain ⟨_, _, _, s1, _⟩ := Loc.step (K := K) (σ' := σ) hM s0 hx s g1
      refine ⟨by show 0 ≤ sizeLine; omega, fun p hp => ?_⟩
      have Mp : ¬ M p := fun z => g1.there p z hp
      have Fp : F1 p = none := ex_none g1.ex hp
      have hpa : p ≠ a := fun z => by rw [z, Ha1] at hp; cases hp
      have H0p : H0 p = none := by
        cases q : H0 p with
        | none => rfl
        | some o => exact absurd hp (s1.t p (by rw [q]; exact fun z => nomatch z))
      have Ha2 : upd H1 p (.lst []) a = some (.dK (grK qs)) := by rw [upd_ne (fun z => hpa z.symm)]; exact Ha1
      have L2' : GrL K a M H0 F1 (upd H1 p (.lst [])) qs gs := L1.cong fun q hq => upd_ne fun z => (L1.addr q hq).1 (by rw [z]; exact hp)
      have g2 : Good K M env' σ F1 (upd H1 p (.lst [])) := good_off g1 Mp Fp
      have s2 : Stp M0 F0 H0 F1 (upd H1 p (.lst [])) := stp_off s1 (.inr H0p) Fp
      have rv1 := rv.mono s.f
      refine ⟨grK qs, .inl rr, Ha2, rfl, by unfold grK; rw [List.length_map, hqg]; omega, fun u hu => ?_, fun hu => ?_⟩
      · obtain ⟨pj, vs, qs', rfl, e2, e3, e4, e5, e6, ⟨gg, g3, g4⟩, e7, e8, e9, e11, e10⟩ := GrL.old rv1 L2' pw _ hu
        have hvl : vs.length < sizeLine := by have := hl.2 gg g3; omega
        refine ⟨.inl ⟨rfl, vs, SqL.of e2⟩, v, st, pj, vs, v, rfl, rfl, e2, hvl, ?_⟩
        exact pk env' rr ek F1 _ qs' (good_off g2 e4 e5) (stp_off s2 (.inr e6) e5) s.f (by rw [upd_ne (fun z => e3 z.symm), e7]; exact Ha2) Fa1 e10 e8
      · have H3p : upd (upd H1 p (.lst [])) a (.dK (putK (grK qs) (.inl rr) (.ref p))) p = some (.lst []) := by rw [upd_ne hpa, upd_same]
        refine ⟨.inl ⟨rfl, [], SqL.of H3p⟩, v, st, p, [], v, rfl, rfl, H3p, by show 0 < sizeLine; omega, ?_⟩
        have L3 : GrL K a M H0 F1 (upd (upd (upd H1 p (.lst [])) a (.dK (putK (grK qs) (.inl rr) (.ref p)))) p (.lst ([] ++ [v]))) qs gs := L2'.cong fun q hq => by
          have q1 : q.2.1 ≠ p := fun z => (L1.addr q hq).1 (by rw [z]; exact hp)
          rw [upd_ne q1, upd_ne (L1.addr q hq).2]
        refine pk env' rr ek F1 _ (qs ++ [(rr, p, [v])]) (good_off (good_off g2 Ma Fa1) Mp Fp) (stp_off (stp_off s2 ha0 Fa1) (.inr H0p) Fp) s.f ?_ Fa1 (GrL.new rv1 upd_same Fp Mp H0p hpa L3 hu) ?_
        · rw [upd_ne (fun z => hpa z.symm), upd_same, grK_put hu]
          unfold grK
          rw [List.map_append]
          rfl
        · rw [List.pairwise_append]
          refine ⟨pw, List.pairwise_singleton _ _, fun q hq q2 hq2 => ?_⟩
          rw [List.mem_singleton] at hq2
          rw [hq2]
          exact fun z => (L1.addr q hq).1 (by rw [z]; exact hp)
    | _ => exact pe.elim
/-- all groups become known -/
theorem grp_freeze {a : Addr} : ∀ {qs : List (Int × Addr × List V)} {gs : List (Int × List D)}, GrL K a M H0 F H qs gs → Good K M env σ F H → Stp M0 F0 H0 F H → F a = none → (∀ g ∈ gs, g.2.length ≤ sizeLine) →
    ∃ F2, Ex F F2 ∧ Good K M env σ F2 H ∧ Stp M0 F0 H0 F2 H ∧ F2 a = none ∧ RpD K F2 (grK qs) (gs.map fun g => (.int g.1, .list g.2))
  | _, _, .nil, g, s, h, _ => ⟨F, Ex.refl F, g, s, h, .nil⟩
  | _, _, .cons (p := p) (vs := vs) (ds := ds) (qs := qs) (gs := gs) h1 h2 h3 h4 h5 h6 h7, g, s, h, hl => by
    obtain ⟨F2, e1, g2, s2, e2, r2⟩ := grp_freeze h7 g s h fun g hg => hl g (List.mem_cons_of_mem _ hg)
    have hvl : vs.length ≤ sizeLine := by rw [h6.length]; exact hl _ List.mem_cons_self
    cases q : F2 p with
    | some o =>
      have := g2.ex p o q
      rw [h1] at this
      cases this
      exact ⟨F2, e1, g2, s2, e2, .cons (.lst q hvl (h6.mono e1)) r2⟩
    | none =>
      have hx : Ex F2 (upd F2 p (.lst vs)) := Ex.new q
      refine ⟨upd F2 p (.lst vs), e1.trans hx, ?_, s2.freeze h4 h1 q, by rw [upd_ne (fun z => h5 z.symm)]; exact e2, .cons (.lst upd_same hvl (h6.mono (e1.trans hx))) (r2.mono hx)⟩
      refine ⟨fun b u w => ?_, g2.len, fun j e w => ?_, fun j e w => ?_, g2.sep, g2.there⟩
      · by_cases hb : b = p
        · subst hb
          rw [upd_same] at w
          cases w
          exact h1
        · rw [upd_ne hb] at w
          exact g2.ex b u w
      · obtain ⟨v, w1, w2⟩ := g2.im j e w
        exact ⟨v, w1, w2.mono hx⟩
      · obtain ⟨b, u, k1, k2, k3, k4, k5⟩ := g2.mu j e w
        exact ⟨b, u, k1, k2, by rw [upd_ne (fun z => h3 (by rw [← z]; exact k2))]; exact k3, k4, k5.mono hx⟩
theorem s_grp {t i : Nat} {it : It} {k : E} (ei : IOk K cls G gv it) (ek : EOk K cls G gv k) : SOk K cls G gv (.grp t it i k) := by
  intro M0 F0 H0 fx E0 env σ F H Dn w na l p
  simp only [ex] at p
  simp only [wfS, Bool.and_eq_true] at w
  obtain ⟨M, g, hM, s0, hx⟩ := l
  refine ei M E0 env σ F H _ w.1 g ?_
  cases e : evIt G it env with
  | exc c env' =>
    rw [e] at p
    exact fun F' H' s g' => p σ F' H' (Loc.step hM s0 hx s g')
  | stuck =>
    rw [e] at p
    exact p.elim
  | ok items env1 =>
    rw [e] at p
    simp only [R.bind_ok, flOf_ok] at p
    split at p
    · rename_i hm
      split at p
      · rename_i hc
        obtain ⟨hit, htl, hz⟩ := hc
        intro J F1 H1 s g1 hJ _
        have hm := getM_some hm
        obtain ⟨a, o, hs, hMa, hFa, hHa, hcn⟩ := g1.mu i _ hm
        have ho : o = .dK [] := by
          cases hcn with
          | dk h => cases h; rfl
        subst ho
        obtain ⟨_, _, _, s1, _⟩ := Loc.step (K := K) (σ' := σ) hM s0 hx s g1
        -- the book stands aside
        let M1 : Addr → Prop := fun b => M b ∧ b ≠ a
        have gk : Good K M1 (killE env1 [t, i]) σ F1 H1 := by
          have g2 := good_kill g1 [t, i]
          refine ⟨g2.ex, g2.len, g2.im, fun j d h => ?_, g2.sep, fun b hb => g2.there b hb.1⟩
          obtain ⟨b, u, k1, k2, k3, k4, k5⟩ := g2.mu j d h
          refine ⟨b, u, k1, ⟨k2, fun z => ?_⟩, k3, k4, k5⟩
          have hj : env1[j]? = some (.mu d) := by
            rw [kill_get] at h
            split at h
            · obtain ⟨_, _, z⟩ := Option.map_eq_some_iff.mp h
              cases z
            · exact h
          have hji : j = i := g1.sep j i d _ a hj hm (by rw [k1, z]) hs
          subst hji
          rw [kill_get] at h
          rw [if_pos (by simp)] at h
          obtain ⟨_, _, z⟩ := Option.map_eq_some_iff.mp h
          cases z
        have hM1 : ∀ b, M1 b → M0 b ∨ H0 b = none := fun b hb => hM b hb.1
        let ek' : En → R D := fun e => ev G k e
        let fin : R (List (Int × List D)) → Fl := fun r => flOf (r.bind fun gs env2 => .ok (.nx (setM env2 i (grpD gs))) [])
        let W : Nat → Nat → L2.St → Hp → Prop := fun n m σ' Hc => m = items.length - n ∧ n ≤ items.length ∧ ∃ envc Fc qs gs, Good K M1 envc σ' Fc Hc ∧ Stp M0 F0 H0 Fc Hc ∧ Fx fx σ' ∧ Ex F1 Fc ∧ Hc a = some (.dK (grK qs)) ∧ Fc a = none ∧ σ'[i]? = some (some (.ref a)) ∧ t < σ'.length ∧
          GrL K a M1 H0 Fc Hc qs gs ∧ (qs.Pairwise fun p q => p.2.1 ≠ q.2.1) ∧ (gs.length ≤ n ∧ ∀ g ∈ gs, g.2.length ≤ n) ∧ PostS K cls M0 F0 H0 fx E0 (fin (grpR ek' t (items.drop n) gs envc)) Dn
        refine ⟨W, ⟨items.length, by simp, Nat.zero_le _, killE env1 [t, i], F1, [], [], gk, s1, hx, Ex.refl _, hHa, hFa, hs, by rw [g1.len]; exact htl, .nil, .nil, ⟨Nat.le_refl _, fun g hg => (by cases hg)⟩, by rw [List.drop_zero]; exact p⟩, ?_⟩
        rintro n m σ' Hc ⟨hm2, hn, envc, Fc, qs, gs, gc, sc, hxc, x1, Ha, Fa, si, tl, L, pw, hl, pc⟩
        obtain ⟨go, stop⟩ := hJ Fc Hc x1 gc.ex
        by_cases hlt : n < items.length
        · obtain ⟨hgo, hy⟩ := go n _ (List.getElem?_eq_getElem hlt)
          refine .inr ⟨hgo, fun σ2 H2 => W (n + 1) (items.length - (n + 1)) σ2 H2, fun σ2 H2 q => ⟨items.length - (n + 1), by omega, q⟩, fun v H2 y => ?_⟩
          obtain ⟨F2, s2, r2⟩ := hy v H2 y
          rw [List.drop_eq_getElem_cons hlt] at pc
          have s2M : Stp M1 Fc Hc F2 H2 := s2.sub fun _ z => z.elim
          have g2 := good_step gc s2
          have g3 : Good K M1 (setE envc t items[n]) (σ'.set t (some v)) F2 H2 := good_set g2 r2
          have si2 : (σ'.set t (some v))[i]? = some (some (.ref a)) := by
            rw [List.getElem?_set_ne (fun z => hit z.symm)]
            exact si
          have st2 : (σ'.set t (some v))[t]? = some (some v) := List.getElem?_set_self tl
          have hx2 : Fx fx (σ'.set t (some v)) := hxc.set (na t (by simp [asgS]))
          obtain ⟨_, _, _, s3, _⟩ := Loc.step (K := K) (σ' := σ') hM1 sc hxc s2M g2
          show tGrpB K t i (tE K cls G gv E0 k) _ (σ'.set t (some v)) H2
          have ha0 : M0 a ∨ H0 a = none := hM a hMa
          refine grp_body (M := M1) (M0 := M0) (F0 := F0) (H0 := H0) (fx := fx) (n := n) ek w.2 g3 si2 st2 r2 (s2M.k a _ (fun z => z.2 rfl) Ha) (s2M.n a (fun z => z.2 rfl) (by rw [Ha]; exact fun z => nomatch z) Fa) (fun z => z.2 rfl) (L.stp s2M) pw (by omega) hl s3 hM1 ha0 hx2 ?_ ?_
          · intro env' rr er F' H' qs' g' s' f' Ha' Fa' L' pw'
            refine ⟨rfl, hlt, killE env' [t], F', qs', addG rr items[n] gs, good_kill g' [t], s', hx2, (x1.trans s2.f).trans f', Ha', Fa', si2, by rw [List.length_set]; exact tl, L', pw', addG_len hl, ?_⟩
            have e2 : grpR ek' t (items[n] :: items.drop (n + 1)) gs envc = grpR ek' t (items.drop (n + 1)) (addG rr items[n] gs) (killE env' [t]) := by
              show (ek' (setE envc t items[n])).bind _ = _
              have : ek' (setE envc t items[n]) = .ok (.int rr) env' := er
              rw [this]
              rfl
            rw [e2] at pc
            exact pc
          · have e2 : grpR ek' t (items[n] :: items.drop (n + 1)) gs envc = (ev G k (setE envc t items[n])).bind fun d env' => match d with
                | .int r => grpR ek' t (items.drop (n + 1)) (addG r items[n] gs) (killE env' [t])
                | _ => .stuck := rfl
            rw [e2] at pc
            cases er : ev G k (setE envc t items[n]) with
            | stuck =>
              rw [er] at pc
              exact pc.elim
            | exc c env' =>
              rw [er] at pc
              exact pc
            | ok d env' =>
              rw [er] at pc
              cases d with
              | int r => trivial
              | _ => exact pc.elim
        · have ei2 : n = items.length := by omega
          refine .inl ⟨stop n (by omega), ?_⟩
          rw [ei2, List.drop_length] at pc
          obtain ⟨F2, y1, y2, y3, y4, y5⟩ := grp_freeze L gc sc Fa fun g hg => by
            have := hl.2 g hg
            have hz2 : (1000 : Nat) < sizeLine := by rw [sizeLine_eq]; omega
            omega
          have pc : PostS K cls M0 F0 H0 fx E0 (.nx (setM envc i (grpD gs))) Dn := pc
          refine pc σ' F2 Hc ⟨M, ?_, hM, y3, hxc⟩
          have e3 : σ' = σ'.set i (some (.ref a)) := by
            obtain ⟨hl2, he⟩ := List.getElem?_eq_some_iff.mp si
            rw [← he]
            exact (List.set_getElem_self hl2).symm
          rw [e3]
          refine good_setM (M := M1) (M' := M) y2 (fun b hb => hb.1) (fun b hb => ?_) hMa y4 Ha (.dk y5) fun j dj hj hmj hsj => ?_
          · by_cases hba : b = a
            · exact .inr hba
            · exact .inl ⟨hb, hba⟩
          · obtain ⟨b, u, k1, k2, _⟩ := y2.mu j dj hmj
            rw [hsj] at k1
            cases k1
            exact k2.2 rfl
      · exact p.elim
    · exact p.elim
theorem s_while {fuel : Nat} {c : E} {kill : List Nat} {body : List S} (tc : TOk K cls G gv c) (sb : SsOk K cls G gv body) : SOk K cls G gv (.while_ fuel c kill body) := by
  intro M0 F0 H0 fx E0 env σ F H Dn w na l p
  simp only [ex] at p
  simp only [wfS, Bool.and_eq_true] at w
  refine ⟨fun m σ' Hc => ∃ envc Fc, Loc K M0 F0 H0 fx envc σ' Fc Hc ∧ PostS K cls M0 F0 H0 fx E0 (whileR (fun e => ev G c e) (fun e => exs G body e) kill m envc) Dn, ⟨fuel, killE env kill, F, loc_kill l kill, p⟩, ?_⟩
  rintro m σ' Hc ⟨envc, Fc, lc, pc⟩
  cases m with
  | zero => exact pc.elim
  | succ m =>
    simp only [whileR] at pc
    refine st (E0 := E0) (f := fun k env' => if k then (match exs G body env' with
      | .nx env2 => whileR (fun e => ev G c e) (fun e => exs G body e) kill m (killE env2 kill)
      | .cnt env2 => whileR (fun e => ev G c e) (fun e => exs G body e) kill m (killE env2 kill)
      | .brk env2 => .nx (killE env2 kill)
      | .ret d env2 => .ret d env2
      | .exc c env2 => .exc c env2
      | .stuck => .stuck) else .nx (killE env' kill)) (Dn := Dn) tc w.1.1 w.1.2 lc ?_ fun k env' F' H' p2 l2 _ => ?_
    · cases e : ev G c envc with
      | ok d env' =>
        rw [e] at pc
        cases d with
        | bool k =>
          refine ⟨k, rfl, ?_⟩
          cases k with
          | true => exact pc
          | false => exact pc
        | _ => exact pc.elim
      | exc c env' =>
        rw [e] at pc
        exact pc
      | stuck =>
        rw [e] at pc
        exact pc
    · cases k with
      | false => exact iteF (p2 σ' F' H' (loc_kill l2 kill))
      | true =>
        refine iteT ⟨fun σ2 H2 => ∃ envc Fc, Loc K M0 F0 H0 fx envc σ2 Fc H2 ∧ PostS K cls M0 F0 H0 fx E0 (whileR (fun e => ev G c e) (fun e => exs G body e) kill m envc) Dn, fun σ2 H2 q => ⟨m, Nat.lt_succ_self m, q⟩, ?_⟩
        refine sb M0 F0 H0 fx E0 env' σ' F' H' _ w.2 na l2 ?_
        simp only [if_true] at p2
        cases er : exs G body env' with
        | nx env2 =>
          rw [er] at p2
          exact fun σ2 F2 H2 l3 => ⟨_, F2, loc_kill l3 kill, p2⟩
        | cnt env2 =>
          rw [er] at p2
          exact fun σ2 F2 H2 l3 => ⟨_, F2, loc_kill l3 kill, p2⟩
        | brk env2 =>
          rw [er] at p2
          exact fun σ2 F2 H2 l3 => p2 σ2 F2 H2 (loc_kill l3 kill)
        | ret d env2 =>
          rw [er] at p2
          exact p2
        | exc c env2 =>
          rw [er] at p2
          exact p2
        | stuck =>
          rw [er] at p2
          exact p2.elim
theorem s_junk : SOk K cls G gv .junk := by
  intro M0 F0 H0 fx E0 env σ F H Dn w na l p
  simp only [ex] at p
  exact p.elim
theorem s_try {i : Nat} {body : List S} (sb : SsOk K cls G gv body) : SOk K cls G gv (.tryO i body) := by
  intro M0 F0 H0 fx E0 env σ F H Dn w na l p
  simp only [ex] at p
  simp only [tS]
  refine ⟨fun cl d H' => ∃ c env' dd σ' F', cl = cls c ∧ d = none ∧ exs G body env = .exc c env' ∧ G.wh c = some dd ∧ Loc K M0 F0 H0 fx env' σ' F' H', ?_, ?_⟩
  · rintro cl d H' ⟨c, env', dd, σ', F', rfl, rfl, e, hw, l'⟩
    rw [e] at p
    simp only [hw] at p
    obtain ⟨M, g, hM, s0, hx⟩ := l'
    exact ⟨c, dd, F', rfl, rfl, hw, g.ex, fun v F2 H2 s r => p v σ' F2 H2 (Loc.step hM s0 hx (s.sub fun _ z => z.elim) (good_step g s)) r⟩
  · refine sb M0 F0 H0 fx _ env σ F H Dn (by simpa [wfS] using w) (fun j z => na j (by simp [asgS, z])) l ?_
    cases e : exs G body env with
    | nx env' => rw [e] at p; exact p
    | ret d env' => rw [e] at p; exact p
    | brk env' => rw [e] at p; exact p
    | cnt env' => rw [e] at p; exact p
    | stuck => rw [e] at p; exact p.elim
    | exc c env' =>
      rw [e] at p
      cases hw : G.wh c with
      | none =>
        simp only [hw] at p
        exact p.elim
      | some dd => exact fun σ' F' H' l' => ⟨c, env', dd, σ', F', rfl, rfl, rfl, hw, l'⟩
theorem ss_nil : SsOk K cls G gv [] := by
  intro M0 F0 H0 fx E0 env σ F H Dn w na l p
  exact p σ F H l
theorem ss_cons {s : S} {ss : List S} (h1 : SOk K cls G gv s) (h2 : SsOk K cls G gv ss) : SsOk K cls G gv (s :: ss) := by
  intro M0 F0 H0 fx E0 env σ F H Dn w na l p
  simp only [exs] at p
  simp only [wfSs, Bool.and_eq_true] at w
  refine h1 M0 F0 H0 fx E0 env σ F H { Dn with nx := tSs K cls G gv E0 ss Dn } w.1 (fun i z => na i (List.mem_append.2 (.inl z))) l ?_
  cases e : ex G s env with
  | nx env' =>
    rw [e] at p
    exact fun σ' F' H' l' => h2 M0 F0 H0 fx E0 env' σ' F' H' Dn w.2 (fun i z => na i (List.mem_append.2 (.inr z))) l' p
  | ret d env' =>
    rw [e] at p
    exact p
  | brk env' =>
    rw [e] at p
    exact p
  | cnt env' =>
    rw [e] at p
    exact p
  | exc c env' =>
    rw [e] at p
    exact p
  | stuck =>
    rw [e] at p
    exact p.elim
variable (hgl : ∀ n d, G.gl n = some d → ∀ F : Hp, Rp K F (gv.gl n) d)
include hgl
mutual
theorem ex_ok : ∀ s : S, SOk K cls G gv s
  | .asg i e => s_asg (ev_ok hgl e)
  | .asgM i e => s_asgM (ev_ok hgl e)
  | .unp is e => s_unp (ev_ok hgl e)
  | .unpF i j f as => s_unpF (evAs_ok hgl as)
  | .par i j a b => s_par (ev_ok hgl a) (ev_ok hgl b)
  | .app i e => s_app (ev_ok hgl e)
  | .ext i e => s_ext (ev_ok hgl e)
  | .forO tg one en i kill body => s_forO (exs_ok body)
  | .grp t it i k => s_grp (evI_ok hgl it) (ev_ok hgl k)
  | .setI i k v => s_setI (ev_ok hgl k) (ev_ok hgl v)
  | .newD i t => s_newD
  | .setD i k v => s_setD (ev_ok hgl k) (ev_ok hgl v)
  | .asgD i e => s_asgD (ev_ok hgl e)
  | .drop e => s_drop (ev_ok hgl e)
  | .ite c a b => s_ite (evT_ok hgl c) (exs_ok a) (exs_ok b)
  | .for_ tg one it kill body => s_for (evI_ok hgl it) (exs_ok body)
  | .while_ fuel c kill body => s_while (evT_ok hgl c) (exs_ok body)
  | .ret e => s_ret (ev_ok hgl e)
  | .raise c => s_raise
  | .tryO i body => s_try (exs_ok body)
  | .junk => s_junk
  | .brk => s_brk
  | .cnt => s_cnt
  | .pass => s_pass
theorem exs_ok : ∀ ss : List S, SsOk K cls G gv ss
  | [] => ss_nil
  | s :: ss => ss_cons (ex_ok s) (exs_ok ss)
end
end
end Nv

set_option Elab.async false
set_option linter.all false
set_option maxRecDepth 100000
/-! NvW: the def that tells which of the own exceptions was caught. -/
namespace Nv
open PySem PySem.Spec PyProof.Rows L2

structure FnW (P : Program) (w : World) (K : PySem.W.Frag) (mg : Str → Option Value) (base : Heap) (k : Nat) (f : Addr) (fd : FuncData) (n : Str) (hd : Value → D → Prop) : Prop where
  run : ∀ (A : Around) (outer : List Env) (s : Shared) (H : Hp) (args : Args) (Q : VK) (E : XK) (p : Addr × Obj) (cl : Value) (dd : D), L2H.RoomH k A → L2H.Hot1 A p → L2H.PinOk outer H s p → Zc cl none p.2 → (∃ vs, p.2.data = .fields vs) → Env0 P w K mg base A outer s H → BindsTo s fd args [(n, .ref p.1)] → hd cl dd →
    (∃ F, Ex F H ∧ ∀ v F' H', Stp (fun _ => False) F H F' H' → Rp K F' v dd → Q v H') → codeAny (model P w) A (.call (.ref f) args) (CR (L2N.CX P w) outer P w H s Q E) s
theorem FnW.mono {P : Program} {w : World} {K : PySem.W.Frag} {mg : Str → Option Value} {base : Heap} {j k : Nat} {f : Addr} {fd : FuncData} {n : Str} {hd : Value → D → Prop} (F : FnW P w K mg base j f fd n hd) (h : j ≤ k) : FnW P w K mg base k f fd n hd :=
  ⟨fun A outer s H args Q E p cl dd r => F.run A outer s H args Q E p cl dd (r.mono h)⟩

section
variable {X : Cx} {D : Addr} {p : Addr × Obj}
/-- isinstance of the exception that X holds -/
theorem call_isW (C : ExcC X.K D) (hz : Zc (.ref D) none p.2) (hf : ∃ vs, p.2.data = .fields vs) (hp : p ∈ X.pn) : CallR X (.builtin "isinstance") (rIsE X.K D p.1) := by
  intro pins s σ H xs us Q I r h
  obtain ⟨c, cv, b, rfl, hcv, e, q⟩ := h
  obtain ⟨a, oe⟩ := p
  cases r with
  | cons rx rr =>
    cases rr with
    | cons rt rr =>
      cases rr
      cases rx
      have ec := hcv _ rt
      subst ec
      obtain ⟨hget, _⟩ := I.pin (a, oe) (List.mem_append.mpr (.inl hp))
      obtain ⟨vs, hv⟩ := hf
      have J : PySem.W.InstAt s.heap a oe D none := by
        obtain ⟨oc, od, oda, osl⟩ := oe
        obtain ⟨h1, h2⟩ := hz
        dsimp only at h1 h2 hv
        subst h1 h2 hv
        exact ⟨hget, rfl, rfl, trivial⟩
      exact PySem.W.kia_one (PySem.W.handS_kitx_exc C.hg C.hk C.hs C.hd C.ha C.hn C.ht C.hm) I.kIn J e (fun z => nomatch z) fun tk => ⟨.bl b, H, I.kept (t' := tk) fun _ _ z => z, rfl, q⟩
/-- the def that tells is called -/
theorem pe_callW {k : Nat} {f : Addr} {fd : FuncData} {n : Str} {hd : Value → Nv.D → Prop} {x : Str} {q pos : Pos} {e : Expr} {te : TE} {cl : Value} (F : FnW X.prog X.w X.K X.mg X.base k f fd n hd) (hr : L2H.RoomH k X.A) (hot : L2H.Hot1 X.A p) (hp : p ∈ X.pn) (hz : Zc cl none p.2) (hf : ∃ vs, p.2.data = .fields vs)
    (hg : Gl X x) (hm : X.mg x = some (.ref f)) (hk : PySem.W.keepIn X.K (.ref f) = true) (hb : Binds X.K fd [n] []) (ha : PE X e te) (hdb : (x == ("__debug__" : Str)) = false) (he : starEach [e] X.env = (false, eval e X.env) :: starEach [] X.env) :
    PE X (.Call (.Name x q) [e] [] pos) (fun σ H Q => te σ H fun v H1 => v = .ref p.1 ∧ ∃ dd, hd cl dd ∧ ∃ F, Ex F H1 ∧ ∀ v F' H', Stp (fun _ => False) F H1 F' H' → Rp X.K F' v dd → Q v H') := by
  refine ⟨fun pins s σ H Q I h => ?_⟩
  refine wpAny_Call_Name_kw (ld_glob I hg hm ?_ hdb)
  have hpa : PA X [e] (tCons te tNil) := pa_cons ha pa_nil he
  refine PySem.W.callWith_K (h₀ := X.base) I.ok.mod.kin hk (thn (hpa.run pos pins s σ H (fun vs H1 => vs = [.ref p.1] ∧ ∃ dd, hd cl dd ∧ ∃ F, Ex F H1 ∧ ∀ v F' H', Stp (fun _ => False) F H1 F' H' → Rp X.K F' v dd → Q v H') I ?_) fun us s1 ⟨vs, H1, I1, r, q1⟩ => ⟨I1.kIn, ?_⟩) he (by rfl)
  · have key : ∀ (t : TE) (Q1 Q2 : VK), (∀ v H, Q1 v H → Q2 v H) → ∀ σ H, te σ H Q1 → True := fun _ _ _ _ _ _ _ => trivial
    show te σ H fun x H1 => tNil σ H1 fun xs H2 => _
    have e1 : (fun (v : V) (H1 : Hp) => v = .ref p.1 ∧ ∃ dd, hd cl dd ∧ ∃ F, Ex F H1 ∧ ∀ v F' H', Stp (fun _ => False) F H1 F' H' → Rp X.K F' v dd → Q v H') = fun x H1 => tNil σ H1 fun xs H2 => (x :: xs) = [V.ref p.1] ∧ ∃ dd, hd cl dd ∧ ∃ F, Ex F H2 ∧ ∀ v F' H', Stp (fun _ => False) F H2 F' H' → Rp X.K F' v dd → Q v H' := by
      funext x H1
      show _ = ((x :: []) = [V.ref p.1] ∧ _)
      simp
    rw [← e1]
    exact h
  · obtain ⟨rfl, dd, hdd, hQ⟩ := q1
    obtain ⟨u, rfl, ru⟩ := r.one
    cases ru
    have b := hb s1 [.ref p.1] I1.kIn (by rfl)
    have P1 := I1.pin p (List.mem_append_left _ hp)
    have hpin : L2H.PinOk X.stack H1 s1 p := ⟨P1.1, P1.2.1, fun hm => (List.mem_cons.mp (I1.stkSub p.1 hm)).elim P1.2.2.1 P1.2.2.2.1, P1.2.2.2.2⟩
    refine wpAny_call (codeAny_mono (F.run X.A X.stack s1 H1 ⟨[.ref p.1], []⟩ Q (fun _ _ _ => False) p cl dd hr hot hpin hz hf I1.env0 (by simpa using b) hdd hQ) fun r s' hq => ?_)
    cases r with
    | error e =>
      obtain ⟨_, _, _, _, _, _, _, _, _, _, _, _, z⟩ := hq
      exact z.elim
    | ok fl =>
      cases fl with
      | ret u => exact I1.after hq
      | next => exact False.elim hq
      | brk => exact False.elim hq
      | cont => exact False.elim hq
/-- l.count(x) -/
def rCountD (K : PySem.W.Frag) : V → List V → Hp → VK → Prop := fun x xs H Q => ∃ (a : Addr) (y : V) (d : PyData) (ds : List PyData), x = V.ref a ∧ xs = [y] ∧ Dp K H (V.ref a) (.list ds) ∧ Dp K H y d ∧
  SeqAt.shaped (.list ds) = true ∧ SeqAt.shaped d = true ∧ Q (.int (ds.countP (fun z => PyData.eqv z d) : Nat)) H
theorem mt_countD (hu : X.A.units + 65 < cLine) : MtR X "list.count" (rCountD X.K) := by
  intro pins s σ H x xs v us Q I rx rxs h
  obtain ⟨a, y, d, ds, rfl, rfl, hl, hy, sl, sd, q⟩ := h
  cases rx
  cases rxs with
  | cons ry rt =>
    rename_i uy ut
    cases rt
    obtain ⟨bs, r1⟩ := Dp.reads I d y uy hy ry
    have hxs : PyData.canLayAll0 ds = true := SeqAt.canLay_of_shaped sl
    have hroom : X.A.units + 1 + min (PyData.depthAll ds) d.depth < cLine := room_in_shaped sd hu
    cases hl with
    | lst hs ha =>
      obtain ⟨its, rv, ⟨⟨cls, dd, data, sls⟩, n, ho, hc, hdn, hdt⟩, hlen⟩ := I.list hs
      simp only at hc hdt
      subst hc hdt
      obtain ⟨as, h4⟩ := Dp.readsAll I ds _ its ha rv
      have hmap : its.map (SeqAt.readOf s.heap) = ds := SeqAt.readsAll_map ds its as hxs h4
      refine call_meets PySem.F.slot_list_count ⟨_, ho, rfl⟩ PySem.F.entry_list_count (PySem.F.args_list_count_2 _ _)
        (SeqAt.list_countAt a its.toArray n dd sls uy (fun u => PyData.eqv (SeqAt.readOf s.heap u) d)) ⟨ho, SeqAt.items_eqAt (vs := its.toArray) (show ReadsAll s.heap its.toArray.toList ds as from h4) r1 hxs (SeqAt.canLay_of_shaped sd) hroom, ?_⟩
      refine ⟨.int (ds.countP (fun z => PyData.eqv z d) : Nat), H, I.tok _, ⟨s.toks, ?_⟩, q⟩
      show Value.int ((its.toArray.toList.countP (fun u => PyData.eqv (SeqAt.readOf s.heap u) d) : Nat) : Int) s.toks = Value.int ((ds.countP (fun z => PyData.eqv z d) : Nat) : Int) s.toks
      rw [← hmap, List.countP_map]
      rfl
end
end Nv

set_option Elab.async false
set_option linter.all false
set_option maxRecDepth 100000
/-! Nv11: the text's expressions against the small language's. -/
namespace Nv
open PySem L2

/-- what the check knows: the names of the slots, the defs (name, how many parameters), the module's constants, the own exceptions -/
structure Cc where
  N : List Str
  fn : Nat → Option Str
  gl : Nat → Option Str
  ex : Nat → Option Str
  /-- the class of an except clause, the def that tells -/
  wh : Option (Str × Str)

def kindIs (sc : Scope) (x : Str) (k : NameKind) : Bool := decide (sc.names.lookup x = some k)
def visB (sc : Scope) (x : Str) : Bool := kindIs sc x .local || kindIs sc x .cell || kindIs sc x .free
def locB (sc : Scope) (x : Str) : Bool := kindIs sc x .local || kindIs sc x .cell
def glB (sc : Scope) (x : Str) : Bool := kindIs sc x .globalImplicit
def plainN (x : Str) : Bool := !(x == ("__debug__" : Str)) && !(x == ("__classdict__" : Str))
/-- a name in the i-th slot -/
def ckName (c : Cc) (sc : Scope) (e : Expr) (i : Nat) : Bool := match e with
  | .Name x _ => decide (c.N[i]? = some x) && visB sc x && plainN x
  | _ => false
def ckCst (e : Expr) (d : D) : Bool := match e, d with
  | .Constant .none _ _, .none => true
  | .Constant (.bool b) _ _, .bool b' => b == b'
  | .Constant (.int b) _ _, .int b' => b == b'
  | .Constant (.str b) _ _, .str b' => b == b'
  | _, _ => false
def ckGlob (c : Cc) (sc : Scope) (e : Expr) (n : Nat) : Bool := match e with
  | .Name x _ => decide (c.gl n = some x) && glB sc x && plainN x
  | _ => false
/-- the built-ins that are called -/
def biOf : Op → Option Str
  | .len => some "len"
  | .tuple => some "tuple"
  | .list => some "list"
  | .allB => some "all"
  | .anyB => some "any"
  | .min2 => some "min"
  | .max2 => some "max"
  | .intOf => some "int"
  | .absI => some "abs"
  | .srt => some "sorted"
  | .minL => some "min"
  | .maxL => some "max"
  | _ => none
def bins : Op → Option Operator
  | .add => some .Add
  | .sub => some .Sub
  | .mul => some .Mult
  | .mod => some .Mod
  | .fdiv => some .FloorDiv
  | .pow => some .Pow
  | _ => none
def cmps : Op → Option CmpOp
  | .eq => some .Eq
  | .ne => some .NotEq
  | .lt => some .Lt
  | .le => some .LtE
  | .gt => some .Gt
  | .ge => some .GtE
  | .inn => some .In
  | .nin => some .NotIn
  | _ => none
def plainIxB : Expr → Bool
  | .Slice .. => false
  | _ => true
def isTy (sc : Scope) (T : Str) (e : Expr) : Bool := match e with
  | .Name x _ => decide (x = T) && glB sc x
  | _ => false
/-- an operation's operands, where the expression is one -/
def opParts (sc : Scope) (k : Op) (e : Expr) : Option (List Expr) := match e with
  | .BinOp a o b _ => if bins k = some o then some [a, b] else none
  | .UnaryOp .USub a _ => if k = .neg then some [a] else none
  | .Compare a [o] [b] _ =>
    if cmps k = some o ∧ behindInMarks o b = false then some [a, b]
    else (match o, b with
      | .Is, .Constant .none _ _ => if k = .isN then some [a] else none
      | .IsNot, .Constant .none _ _ => if k = .notN then some [a] else none
      | _, _ => none)
  | .Subscript a b _ => (match b with
    | .Slice (some lo) none none _ => if k = .slT then some [a, lo] else none
    | .Slice none (some hi) none _ => if k = .slH then some [a, hi] else none
    | .Slice none none (some (.UnaryOp .USub (.Constant (.int 1) _ _) _)) _ => if k = .rev then some [a] else none
    | .Slice _ _ _ _ => none
    | b => if k = .idx then some [a, b] else none)
  | .Call (.Name f _) es [] _ =>
    if k = .srtSet then (match es with
      | [.Call (.Name g _) [a] [] _] => if f = ("sorted" : Str) ∧ g = ("set" : Str) ∧ glB sc "sorted" = true ∧ glB sc "set" = true then some [a] else none
      | _ => none)
    else if k = .lrg then (match es with
      | [.Call (.Name g _) [a] [] _] => if f = ("list" : Str) ∧ g = ("range" : Str) ∧ glB sc "list" = true ∧ glB sc "range" = true then some [a] else none
      | _ => none)
    else if k = .lrg2 then (match es with
      | [.Call (.Name g _) [a, b] [] _] => if f = ("list" : Str) ∧ g = ("range" : Str) ∧ glB sc "list" = true ∧ glB sc "range" = true then some [a, b] else none
      | _ => none)
    else if k = .trg then (match es with
      | [.Call (.Name g _) [a] [] _] => if f = ("tuple" : Str) ∧ g = ("range" : Str) ∧ glB sc "tuple" = true ∧ glB sc "range" = true then some [a] else none
      | _ => none)
    else if k = .lenSet then (match es with
      | [.Call (.Name g _) [a] [] _] => if f = ("len" : Str) ∧ g = ("set" : Str) ∧ glB sc "len" = true ∧ glB sc "set" = true then some [a] else none
      | _ => none)
    else if k = .lenSetP then (match es with
      | [.Call (.Name g _) [a] [] _] => if f = ("len" : Str) ∧ g = ("set" : Str) ∧ glB sc "len" = true ∧ glB sc "set" = true then some [a] else none
      | _ => none)
    else if biOf k = some f ∧ glB sc f = true then (match es with
      | [] => none
      | a :: r => some (a :: r))
    else if isOp k = true ∧ f = ("isinstance" : Str) ∧ glB sc "isinstance" = true then (match es with
      | [a, t] => if isTy sc (Str.ofString (opTy k)) t then some [a] else none
      | _ => none)
    else none
  | _ => none
def andParts (e : Expr) : Option (Expr × Expr) := match e with
  | .BoolOp .And [a, b] _ => some (a, b)
  | .BoolOp .And (a :: b :: c :: r) p => some (a, .BoolOp .And (b :: c :: r) p)
  | _ => none
def orParts (e : Expr) : Option (Expr × Expr) := match e with
  | .BoolOp .Or [a, b] _ => some (a, b)
  | .BoolOp .Or (a :: b :: c :: r) p => some (a, .BoolOp .Or (b :: c :: r) p)
  | _ => none
def notPart (e : Expr) : Option Expr := match e with
  | .UnaryOp .Not a _ => some a
  | _ => none
def itePart (e : Expr) : Option (Expr × Expr × Expr) := match e with
  | .IfExp t a b _ => some (t, a, b)
  | _ => none
def lePart (e : Expr) : Option (Expr × Expr × Expr) := match e with
  | .Compare a [.LtE, .LtE] [b, d] _ => if lastMarks [.LtE, .LtE] [b, d] = false then some (a, b, d) else none
  | _ => none
def tupPart (e : Expr) : Option (List Expr) := match e with
  | .Tuple es _ _ => some es
  | _ => none
def lstPart (e : Expr) : Option (List Expr) := match e with
  | .List es _ => some es
  | _ => none
def callPart (c : Cc) (sc : Scope) (n : Nat) (e : Expr) : Option (List Expr) := match e with
  | .Call (.Name f _) (a :: r) [] _ => if c.fn n = some f ∧ glB sc f = true ∧ plainN f = true then some (a :: r) else none
  | _ => none
/-- f(.., {}) -/
def lastD : List Expr → Option (List Expr)
  | [] => none
  | [.Dict [] [] _] => some []
  | e :: es => (lastD es).map (e :: ·)
def callNPart (c : Cc) (sc : Scope) (n : Nat) (e : Expr) : Option (List Expr) := match e with
  | .Call (.Name f _) es [] _ => if c.fn n = some f ∧ glB sc f = true ∧ plainN f = true then (match lastD es with
    | some (a :: r) => some (a :: r)
    | _ => none) else none
  | _ => none
/-- a[k] -/
def dgetPart (e : Expr) : Option (Expr × Expr) := match e with
  | .Subscript a k _ => if plainIxB k then some (a, k) else none
  | _ => none
def inOp (neg : Bool) : CmpOp := if neg then .NotIn else .In
/-- k in a -/
def dinPart (neg : Bool) (e : Expr) : Option (Expr × Expr) := match e with
  | .Compare k [o] [a] _ => if o = inOp neg ∧ behindInMarks o a = false then some (k, a) else none
  | _ => none
def allNames (c : Cc) (sc : Scope) : List Expr → List Nat → Bool
  | [], [] => true
  | .Name x _ :: es, n :: ns => decide (c.fn n = some x) && glB sc x && plainN x && allNames c sc es ns
  | _, _ => false
/-- [f, g][i](..) -/
def selPart (c : Cc) (sc : Scope) (fs : List Nat) (e : Expr) : Option (Expr × List Expr) := match e with
  | .Call (.Subscript (.List ns _) ix _) (a :: r) [] _ => if allNames c sc ns fs = true ∧ plainIxB ix = true then some (ix, a :: r) else none
  | _ => none
def notStar : Expr → Bool
  | .Starred .. => false
  | _ => true
/-- a[lo:hi] -/
def slBPart (e : Expr) : Option (Expr × Expr × Expr) := match e with
  | .Subscript a (.Slice (some lo) (some hi) none _) _ => some (a, lo, hi)
  | _ => none
def mthName : Op → Option Str
  | .index => some "index"
  | _ => none
def notCallE : Expr → Bool
  | .Call .. => false
  | _ => true
/-- o.m(e, ..) -/
def mthPart (k : Op) (e : Expr) : Option (Expr × List Expr) := match e with
  | .Call (.Attribute o n ap) [e] [] cp => if mthName k = some n ∧ notCallE o = true ∧ ap.endLine = cp.line ∧ notStar e = true then some (o, [e]) else none
  | _ => none
/-- x.pop(e) -/
def popPart (c : Cc) (sc : Scope) (i : Nat) (e : Expr) : Option Expr := match e with
  | .Call (.Attribute o n ap) [e] [] cp => if n = ("pop" : Str) ∧ ckName c sc o i = true ∧ ap.endLine = cp.line ∧ notStar e = true then some e else none
  | _ => none
/-- a comprehension's names, with their slots -/
def tgNames (es : List Expr) (is : List Nat) : Option (List (Str × Nat)) := match es, is with
  | [], [] => some []
  | .Name x _ :: es, i :: is => (tgNames es is).map ((x, i) :: ·)
  | _, _ => none
def tgOwn (tg : Expr) (is : List Nat) (one : Bool) : Option (List (Str × Nat)) := match one, tg, is with
  | true, .Name x _, [i] => some [(x, i)]
  | false, .Tuple es _ _, is => if is.head? = some 1000000 then none else tgNames es is
  | _, _, _ => none
/-- i, (j, k, ..) -/
def tgOwnN (tg : Expr) (is : List Nat) (one : Bool) : Option (List (Str × Nat)) := match one, tg, is with
  | false, .Tuple [.Name x _, .Tuple es _ _] _ _, m :: i :: is => if m = 1000000 then (tgNames es is).map ((x, i) :: ·) else none
  | _, _, _ => none
structure LcP where
  elt : Expr
  tg : Expr
  iter : Expr
  ifs : List Expr
  scope : Scope
def lcPart (e : Expr) : Option LcP := match e with
  | .ListComp elt [⟨tg, iter, ifs, 0⟩] scope _ => some ⟨elt, tg, iter, ifs, scope⟩
  | _ => none
def isTupTg : Expr → Bool
  | .Tuple .. => true
  | _ => false
def notSetE : Expr → Bool
  | .Set .. => false
  | _ => true
/-- what a for or a comprehension walks: the arguments -/
def itParts (sc : Scope) (tgt : Expr) (it : It) (e : Expr) : Option (List Expr) := match it with
  | .seq _ => if notSetE e then some [e] else none
  | .rng _ => (match e with
    | .Call (.Name f _) [a] [] _ => if f = ("range" : Str) ∧ glB sc "range" = true then some [a] else none
    | _ => none)
  | .rng2 _ _ => (match e with
    | .Call (.Name f _) [a, b] [] _ => if f = ("range" : Str) ∧ glB sc "range" = true then some [a, b] else none
    | _ => none)
  | .zip _ _ => (match e with
    | .Call (.Name f _) [a, b] [] _ => if f = ("zip" : Str) ∧ glB sc "zip" = true then some [a, b] else none
    | _ => none)
  | .enum _ => (match e with
    | .Call (.Name f _) [a] [] _ => if f = ("enumerate" : Str) ∧ glB sc "enumerate" = true ∧ isTupTg tgt = true then some [a] else none
    | _ => none)
  | .dk _ => none
/-- over an owned list, or its items with their places -/
def ownI (en : Bool) (i : Nat) : It := if en then .enum (.own i) else .seq (.own i)
def ckOwnI (c : Cc) (sc : Scope) (tgt e : Expr) (en : Bool) (i : Nat) : Bool := match itParts sc tgt (ownI en i) e with
  | some [x] => (!en || notStar x) && ckName c sc x i
  | _ => false
def allLocal (sc : Scope) (own : List (Str × Nat)) : Bool := own.all fun p => kindIs sc p.1 .local
mutual
def ckE (c : Cc) (sc : Scope) (e : Expr) : E → Bool
  | .var i => ckName c sc e i
  | .move i => ckName c sc e i
  | .cst d => ckCst e d
  | .glob n => ckGlob c sc e n
  | .op k as => (match opParts sc k e with
    | some es => ckAs c sc es as
    | none => false)
  | .and x y => (match andParts e with
    | some (a, b) => ckE c sc a x && ckE c sc b y
    | none => false)
  | .or x y => (match orParts e with
    | some (a, b) => ckE c sc a x && ckE c sc b y
    | none => false)
  | .orT x y => (match orParts e with
    | some (a, b) => ckE c sc a x && ckE c sc b y
    | none => false)
  | .not x => (match notPart e with
    | some a => ckE c sc a x
    | none => false)
  | .ite z x y => (match itePart e with
    | some (t, a, b) => ckE c sc t z && ckE c sc a x && ckE c sc b y
    | none => false)
  | .leLe x y z => (match lePart e with
    | some (a, b, d) => ckE c sc a x && ckE c sc b y && ckE c sc d z
    | none => false)
  | .tup as => (match tupPart e with
    | some es => ckAs c sc es as
    | none => false)
  | .lst as => (match lstPart e with
    | some es => ckAs c sc es as
    | none => false)
  | .call n as => (match callPart c sc n e with
    | some es => ckAs c sc es as
    | none => false)
  | .sel fs ix as => (match selPart c sc fs e with
    | some (x, es) => ckE c sc x ix && ckAs c sc es as
    | none => false)
  | .slB a x y => (match slBPart e with
    | some (o, lo, hi) => ckA c sc o a && ckE c sc lo x && ckE c sc hi y
    | none => false)
  | .dget a k => (match dgetPart e with
    | some (o, x) => ckA c sc o a && ckE c sc x k
    | none => false)
  | .din neg k a => (match dinPart neg e with
    | some (x, o) => ckE c sc x k && ckA c sc o a
    | none => false)
  | .callN _ n as => (match callNPart c sc n e with
    | some es => ckAs c sc es as
    | none => false)
  | .mth k a as => (match mthPart k e with
    | some (o, es) => ckA c sc o a && ckAs c sc es as
    | none => false)
  | .pop i x => (match popPart c sc i e with
    | some a => ckE c sc a x
    | none => false)
  | .callF n as => (match callPart c sc n e with
    | some es => ckAs c sc es as
    | none => false)
  | .lcO elt tg one en i cond => (match lcPart e with
    | some p => (match tgOwn p.tg tg one with
      | some own => blkC c.N sc p.scope own && allLocal (relS p.scope sc) own && ckE c (relS p.scope sc) p.elt elt && ckOwnI c sc p.tg p.iter en i && ckO c (relS p.scope sc) p.ifs cond && notSetE p.iter
      | none => false)
    | none => false)
  | .vals i t => (match lcPart e with
    | some p => (match tgOwn p.tg [t] true with
      | some own => blkC c.N sc p.scope own && allLocal (relS p.scope sc) own && (match dgetPart p.elt with
        | some (o, x) => ckName c (relS p.scope sc) o i && ckName c (relS p.scope sc) x t
        | none => false) && ckName c sc p.iter i && p.ifs.isEmpty && notSetE p.iter
      | none => false)
    | none => false)
  | .lc elt tg one it cond => (match lcPart e with
    | some p => (match tgOwn p.tg tg one with
      | some own => blkC c.N sc p.scope own && allLocal (relS p.scope sc) own && ckE c (relS p.scope sc) p.elt elt && ckI c sc p.tg p.iter it && ckO c (relS p.scope sc) p.ifs cond && notSetE p.iter
      | none => false)
    | none => false)
def ckO (c : Cc) (sc : Scope) (ifs : List Expr) : Option E → Bool
  | none => ifs.isEmpty
  | some x => (match ifs with
    | [e] => ckE c sc e x
    | _ => false)
def ckA (c : Cc) (sc : Scope) (e : Expr) : A → Bool
  | .imm x => ckE c sc e x
  | .own i => ckName c sc e i
def ckAs (c : Cc) (sc : Scope) (es : List Expr) : List A → Bool
  | [] => es.isEmpty
  | a :: as => (match es with
    | e :: es => notStar e && ckA c sc e a && ckAs c sc es as
    | [] => false)
def ckI (c : Cc) (sc : Scope) (tgt : Expr) (e : Expr) : It → Bool
  | .seq a => (match itParts sc tgt (.seq a) e with
    | some [x] => ckA c sc x a
    | _ => false)
  | .rng a => (match itParts sc tgt (.rng a) e with
    | some [x] => notStar x && ckA c sc x a
    | _ => false)
  | .rng2 a b => (match itParts sc tgt (.rng2 a b) e with
    | some [x, y] => notStar x && notStar y && ckA c sc x a && ckA c sc y b
    | _ => false)
  | .zip a b => (match itParts sc tgt (.zip a b) e with
    | some [x, y] => notStar x && notStar y && ckA c sc x a && ckA c sc y b
    | _ => false)
  | .enum a => (match itParts sc tgt (.enum a) e with
    | some [x] => notStar x && ckA c sc x a
    | _ => false)
  | .dk i => ckName c sc e i
end
end Nv

set_option Elab.async false
set_option linter.all false
set_option maxRecDepth 100000
/-! Nv12: the check is sound: expressions. -/
namespace Nv
open PySem PySem.Spec PyProof.Rows L2

def biNames : List Str := ["len", "tuple", "list", "all", "any", "min", "max", "int", "abs", "isinstance", "range", "zip", "enumerate", "bool", "str", "sorted", "set", "dict"]
structure HyE (X : Cx) (c : Cc) (cls : Nat → Value) (G : Gam) (gv : Gv) (L : Nat) (E0 : XK) : Prop where
  N : X.N = c.N
  nd : X.N.Nodup
  calm : X.calm = true
  room : Room L X.A
  pass : Passes (L2N.CX X.prog X.w) X E0
  fn : ∀ n f ms fn, c.fn n = some f → G.fn n = some (ms, fn) → ∃ (a : Addr) (fd : FuncData) (ps : List Str), gv.fa n = .ref a ∧ X.mg f = some (.ref a) ∧ PySem.W.keepIn X.K (.ref a) = true ∧ Binds X.K fd ps [] ∧
    FnOk X.prog X.w X.K X.mg X.base (L2N.CX X.prog X.w) L a fd ps (spF X.K cls ms fn)
  fnS : ∀ n f, c.fn n = some f → (G.fn n).isSome = true
  gl : ∀ n x, c.gl n = some x → ∃ u, X.mg x = some u ∧ RelV (gv.gl n) u
  bi : ∀ x ∈ biNames, X.mg x = none

theorem kindIs_iff {sc : Scope} {x : Str} {k : NameKind} (h : kindIs sc x k = true) : sc.names.lookup x = some k := of_decide_eq_true h
theorem visB_iff {sc : Scope} {x : Str} (h : visB sc x = true) : Vis sc x := by
  unfold visB at h
  simp only [Bool.or_eq_true] at h
  rcases h with (h | h) | h
  · exact .inl (kindIs_iff h)
  · exact .inr (.inl (kindIs_iff h))
  · exact .inr (.inr (kindIs_iff h))
theorem plainN_iff {x : Str} (h : plainN x = true) : (x == ("__debug__" : Str)) = false ∧ (x == ("__classdict__" : Str)) = false := by
  unfold plainN at h
  simpa using h
section
variable {X : Cx} {c : Cc} {cls : Nat → Value} {G : Gam} {gv : Gv} {L : Nat} {E0 : XK}
theorem name_pe (hN : X.N = c.N) {e : Expr} {i : Nat} (h : ckName c X.env.scope e i = true) : PE X e (tVar i) := by
  unfold ckName at h
  split at h
  · simp only [Bool.and_eq_true, decide_eq_true_eq] at h
    obtain ⟨⟨h1, h2⟩, h3⟩ := h
    obtain ⟨h4, h5⟩ := plainN_iff h3
    exact pe_var (by rw [hN]; exact h1) (visB_iff h2) h4 h5
  · cases h
theorem cst_pe {e : Expr} {d : D} (h : ckCst e d = true) : PE X e (tE X.K cls G gv E0 (.cst d)) := by
  unfold ckCst at h
  split at h
  · simp only [tE]; exact pe_non
  · cases eq_of_beq h
    simp only [tE]; exact pe_bl
  · cases eq_of_beq h
    simp only [tE]; exact pe_int
  · cases eq_of_beq h
    simp only [tE]; exact pe_str
  · cases h
theorem glob_pe (hy : HyE X c cls G gv L E0) {e : Expr} {n : Nat} (h : ckGlob c X.env.scope e n = true) : PE X e (tC (gv.gl n)) := by
  unfold ckGlob at h
  split at h
  · simp only [Bool.and_eq_true, decide_eq_true_eq] at h
    obtain ⟨⟨h1, h2⟩, h3⟩ := h
    obtain ⟨u, h4, h5⟩ := hy.gl _ _ h1
    exact pe_glob (kindIs_iff h2) h4 h5 (plainN_iff h3).1
  · cases h
/-- operands -/
inductive PEs (X : Cx) (cls : Nat → Value) (G : Gam) (gv : Gv) (E0 : XK) : List Expr → List A → Prop
  | nil : PEs X cls G gv E0 [] []
  | cons {e es a as} : PE X e (tA X.K cls G gv E0 a) → notStar e = true → PEs X cls G gv E0 es as → PEs X cls G gv E0 (e :: es) (a :: as)
theorem star_ne {e : Expr} {es : List Expr} {env : Env} (h : notStar e = true) : starEach (e :: es) env = (false, eval e env) :: starEach es env := by
  cases e <;> first | rfl | cases h
theorem stars_no {es : List Expr} {as : List A} {pos : Pos} {env : Env} (h : PEs X cls G gv E0 es as) : (backTo pos (starEach es env)).any (·.1) = false := by
  induction h with
  | nil => rfl
  | cons h1 h2 h3 ih =>
    rw [star_ne h2]
    show (false || (backTo pos (starEach _ env)).any (·.1)) = false
    rw [ih]
    rfl
theorem PEs.pa {es : List Expr} {as : List A} (h : PEs X cls G gv E0 es as) : PA X es (tAs X.K cls G gv E0 as) := by
  induction h with
  | nil => exact pa_nil
  | cons h1 h2 h3 ih => exact pa_cons h1 ih (star_ne h2)
theorem op_inT (hu : X.A.units + 65 < cLine) : OpR X (compareOp .In) (rInT X.K) := by
  intro pins s σ H x y v u Q I rx ry h
  obtain ⟨d, ds, hd, he, sd, se, q⟩ := h
  obtain ⟨as, r1⟩ := Dp.reads I d x v hd rx
  obtain ⟨bs, r2⟩ := Dp.reads I (.tuple ds) y u he ry
  exact SeqAt.in_tuple_reads r2 r1 (SeqAt.canLay_of_shaped se) (SeqAt.canLay_of_shaped sd) (room_in_shaped sd hu) ⟨.bl _, H, I, rfl, q⟩
theorem op_notInT (hu : X.A.units + 65 < cLine) : OpR X (compareOp .NotIn) (rNotInT X.K) := by
  intro pins s σ H x y v u Q I rx ry h
  obtain ⟨d, ds, hd, he, sd, se, q⟩ := h
  obtain ⟨as, r1⟩ := Dp.reads I d x v hd rx
  obtain ⟨bs, r2⟩ := Dp.reads I (.tuple ds) y u he ry
  exact SeqAt.notIn_tuple_reads r2 r1 (SeqAt.canLay_of_shaped se) (SeqAt.canLay_of_shaped sd) (room_in_shaped sd hu) ⟨.bl _, H, I, rfl, q⟩
theorem plainIx_of {b : Expr} (h : plainIxB b = true) : PlainIx b := by
  intro o i
  cases b <;> first | rfl | cases h
/-- the binary operators -/
theorem bin_op {k : Op} {o : Operator} (h : bins k = some o) : OpR X (binaryOp o) (fun x y => rd X.K k [x, y]) := by
  cases k <;> first | (cases h; done) | skip
  all_goals cases h
  · exact op_add.or (op_add_str.or (op_cat.or op_catA))
  · exact op_sub
  · exact op_mul.or (op_rep.or op_repT)
  · exact op_mod
  · exact op_fdiv
  · exact op_pow
theorem op_ltD {X : Cx} (hu : X.A.units + 65 < cLine) : OpR X (compareOp .Lt) (rLtD X.K) := by
  intro pins s σ H x y v u Q I rx ry h
  obtain ⟨d, e, hd, he, sd, se, al, hn, q⟩ := h
  obtain ⟨as, r1⟩ := Dp.reads I d x v hd rx
  obtain ⟨bs, r2⟩ := Dp.reads I e y u he ry
  have hdep : d.depth ≤ 64 := by
    unfold SeqAt.shaped at sd
    rw [Bool.and_eq_true, decide_eq_true_eq] at sd
    omega
  exact PySem.W.lt_data r1 r2 al hn (by omega) ⟨.bl _, H, I, rfl, q⟩
theorem cmp_op (hr : Room L X.A) {k : Op} {o : CmpOp} (h : cmps k = some o) : OpR X (compareOp o) (fun x y => rd X.K k [x, y]) := by
  have hu := hr.un
  cases k <;> first | (cases h; done) | skip
  all_goals cases h
  · exact op_eqD (by omega)
  · exact op_neD (by omega)
  · exact op_lt.or (op_ltD (by omega))
  · exact op_le
  · exact op_gt
  · exact op_ge
  · exact (op_inD (by omega)).or (op_inT (by omega))
  · exact (op_notInD (by omega)).or (op_notInT (by omega))
theorem bi_boot {k : Op} {f : Str} (h : biOf k = some f) : (f ∈ biNames) ∧ f ≠ "__name__" ∧ (f == ("__debug__" : Str)) = false := by
  cases k <;> first | (cases h; done) | skip
  all_goals (cases h; exact (by decide +kernel))
/-- the built-ins' calls -/
theorem bi_pe (hy : HyE X c cls G gv L E0) {k : Op} {f : Str} {p pos : Pos} {e : Expr} {es : List Expr} {as : List A} (h : biOf k = some f) (hg : glB X.env.scope f = true) (hp : PEs X cls G gv E0 (e :: es) as) :
    PE X (.Call (.Name f p) (e :: es) [] pos) (tCB (rd X.K k) (tAs X.K cls G gv E0 as)) := by
  obtain ⟨h1, h2, h3⟩ := bi_boot h
  have hm := hy.bi f h1
  have g : Gl X f := kindIs_iff hg
  have hs : ∃ as', PEs X cls G gv E0 es as' ∧ notStar e = true := by
    cases hp with
    | cons q1 q2 q3 => exact ⟨_, q3, q2⟩
  obtain ⟨as', hs, hn⟩ := hs
  have e1 : starEach (e :: es) X.env = (false, eval e X.env) :: starEach es X.env := star_ne hn
  have e2 : (backTo pos (starEach es X.env)).any (·.1) = false := stars_no hs
  cases k <;> first | (cases h; done) | skip
  all_goals cases h
  · exact pe_callB call_len g hm (by decide +kernel) hp.pa h2 h3 e1 e2
  · exact pe_callTy call_tuple_of g hm (by decide +kernel) hp.pa h2 h3 e1 e2
  · exact pe_callTy (call_list_of.or (call_listD hy.calm)) g hm (by decide +kernel) hp.pa h2 h3 e1 e2
  · exact pe_callB (cr_sortD (by have := hy.room.un; omega)) g hm (by decide +kernel) hp.pa h2 h3 e1 e2
  · exact pe_callB (cr_all hy.calm) g hm (by decide +kernel) hp.pa h2 h3 e1 e2
  · exact pe_callB (cr_any hy.calm) g hm (by decide +kernel) hp.pa h2 h3 e1 e2
  · exact pe_callB (cr_minD hy.calm (by have := hy.room.un; omega)) g hm (by decide +kernel) hp.pa h2 h3 e1 e2
  · exact pe_callB (cr_maxD hy.calm (by have := hy.room.un; omega)) g hm (by decide +kernel) hp.pa h2 h3 e1 e2
  · exact pe_callB (call_min2 hy.calm) g hm (by decide +kernel) hp.pa h2 h3 e1 e2
  · exact pe_callB (call_max2 hy.calm) g hm (by decide +kernel) hp.pa h2 h3 e1 e2
  · exact pe_callTy call_int1 g hm (by decide +kernel) hp.pa h2 h3 e1 e2
  · exact pe_callB call_abs g hm (by decide +kernel) hp.pa h2 h3 e1 e2
theorem ty_pe (hy : HyE X c cls G gv L E0) {k : Op} (hk : isOp k = true) {t : Expr} (h : isTy X.env.scope (Str.ofString (opTy k)) t = true) : PE X t (tC (.ty (opTy k))) ∧ notStar t = true := by
  unfold isTy at h
  split at h
  · simp only [Bool.and_eq_true, decide_eq_true_eq] at h
    obtain ⟨h1, h2⟩ := h
    subst h1
    refine ⟨?_, rfl⟩
    cases k <;> first | (cases hk; done) | skip
    · exact pe_bltn (kindIs_iff h2) (hy.bi _ (by decide +kernel)) (u := .type "int") (by decide +kernel) rfl (by decide +kernel) (by decide +kernel)
    · exact pe_bltn (kindIs_iff h2) (hy.bi _ (by decide +kernel)) (u := .type "bool") (by decide +kernel) rfl (by decide +kernel) (by decide +kernel)
    · exact pe_bltn (kindIs_iff h2) (hy.bi _ (by decide +kernel)) (u := .type "tuple") (by decide +kernel) rfl (by decide +kernel) (by decide +kernel)
    · exact pe_bltn (kindIs_iff h2) (hy.bi _ (by decide +kernel)) (u := .type "str") (by decide +kernel) rfl (by decide +kernel) (by decide +kernel)
    · exact pe_bltn (kindIs_iff h2) (hy.bi _ (by decide +kernel)) (u := .type "list") (by decide +kernel) rfl (by decide +kernel) (by decide +kernel)
  · cases h
theorem PEs.one {es : List Expr} {e : Expr} (as : List A) (h : PEs X cls G gv E0 [e] as) : ∃ a, as = [a] ∧ PE X e (tA X.K cls G gv E0 a) ∧ notStar e = true := by
  cases h with
  | cons h1 h2 h3 =>
    cases h3
    exact ⟨_, rfl, h1, h2⟩
theorem PEs.two {e e' : Expr} (as : List A) (h : PEs X cls G gv E0 [e, e'] as) : ∃ a b, as = [a, b] ∧ PE X e (tA X.K cls G gv E0 a) ∧ PE X e' (tA X.K cls G gv E0 b) ∧ notStar e = true ∧ notStar e' = true := by
  cases h with
  | cons h1 h2 h3 =>
    cases h3 with
    | cons h4 h5 h6 =>
      cases h6
      exact ⟨_, _, rfl, h1, h4, h2, h5⟩
/-! len(set(xs)) -/
theorem stepD_mem {acc : List Int} {k j : Int} : j ∈ step_dedup acc k ↔ j ∈ acc ∨ j = k := by
  unfold step_dedup
  split
  · rename_i h
    rw [List.any_eq_true] at h
    obtain ⟨x, hx, e⟩ := h
    have e := eq_of_beq e
    subst e
    exact ⟨.inl, fun z => z.elim id fun z => by rw [z]; exact hx⟩
  · simp
theorem stepD_nodup {acc : List Int} {k : Int} (h : acc.Nodup) : (step_dedup acc k).Nodup := by
  unfold step_dedup
  split
  · exact h
  · rename_i hn
    rw [List.nodup_append]
    refine ⟨h, by simp, fun a ha b hb => ?_⟩
    simp at hb
    subst hb
    intro e
    subst e
    exact hn (List.any_eq_true.mpr ⟨a, ha, by simp⟩)
theorem foldD : ∀ (ns acc : List Int), acc.Nodup → (ns.foldl step_dedup acc).Nodup ∧ ∀ j, j ∈ ns.foldl step_dedup acc ↔ j ∈ acc ∨ j ∈ ns
  | [], acc, h => ⟨h, fun j => by simp⟩
  | n :: ns, acc, h => by
    obtain ⟨h1, h2⟩ := foldD ns (step_dedup acc n) (stepD_nodup h)
    refine ⟨h1, fun j => ?_⟩
    rw [List.foldl_cons, h2, stepD_mem, List.mem_cons]
    exact ⟨fun z => z.elim (fun z => z.elim .inl fun z => .inr (.inl z)) fun z => .inr (.inr z), fun z => z.elim (fun z => .inl (.inl z)) fun z => z.elim (fun z => .inl (.inr z)) .inr⟩
theorem nubI_mem {p : Int} : ∀ {ps : List Int}, p ∈ nubI ps ↔ p ∈ ps
  | [] => Iff.rfl
  | x :: xs => by
    unfold nubI
    have ih := nubI_mem (p := p) (ps := xs)
    split
    · rename_i h
      rw [ih, List.mem_cons]
      exact ⟨.inr, fun z => z.elim (fun e => by rw [e]; exact nubI_mem.mp h) id⟩
    · rw [List.mem_cons, List.mem_cons, ih]
theorem nubI_nodup : ∀ ps : List Int, (nubI ps).Nodup
  | [] => List.nodup_nil
  | x :: xs => by
    unfold nubI
    split
    · exact nubI_nodup xs
    · rename_i h
      exact List.nodup_cons.mpr ⟨h, nubI_nodup xs⟩
theorem sub_len : ∀ {a b : List Int}, a.Nodup → (∀ x ∈ a, x ∈ b) → a.length ≤ b.length
  | [], b, _, _ => Nat.zero_le _
  | x :: a, b, h, hs => by
    rw [List.nodup_cons] at h
    have hx : x ∈ b := hs x List.mem_cons_self
    have := sub_len (a := a) (b := b.erase x) h.2 fun y hy => by
      have hne : y ≠ x := fun e => h.1 (by rw [← e]; exact hy)
      exact (List.mem_erase_of_ne hne).mpr (hs y (List.mem_cons_of_mem _ hy))
    rw [List.length_erase_of_mem hx] at this
    have : 0 < b.length := List.length_pos_of_mem hx
    simp only [List.length_cons]
    omega
theorem range_getD : ∀ ns : List Int, (List.range ns.length).map (fun i => ns.getD i 0) = ns := by
  intro ns
  apply List.ext_getElem
  · simp
  · intro i h1 h2
    simp [List.getD_eq_getElem?_getD, List.getElem?_eq_getElem h2]
theorem met_len (ns : List Int) : (firstMet (fun i => ns.getD i 0) ns.length).length = (nubI ns).length := by
  unfold firstMet
  rw [range_getD]
  obtain ⟨h1, h2⟩ := foldD ns [] List.nodup_nil
  apply Nat.le_antisymm
  · exact sub_len h1 fun x hx => nubI_mem.mpr (((h2 x).mp hx).resolve_left (by simp))
  · exact sub_len (nubI_nodup ns) fun x hx => (h2 x).mpr (.inr (nubI_mem.mp hx))
theorem pe_lenSetG {a : Expr} {ta : TE} {p p2 q pos : Pos} (hc : X.calm = true) (hg : Gl X "len") (hm : X.mg "len" = none) (hg2 : Gl X "set") (hm2 : X.mg "set" = none) (ha : PE X a ta)
    (na : starEach [a] X.env = (false, eval a X.env) :: starEach [] X.env) : PE X (.Call (.Name "len" p) [.Call (.Name "set" p2) [a] [] q] [] pos) (fun σ H Q => ta σ H fun x H1 => ∃ (l : Addr) (ns : List Int), x = .ref l ∧ SqL X.K H1 l (ns.map V.int) ∧ ns.length ≤ 4000 ∧ Q (.int ((nubI ns).length : Nat)) H1) := by
  refine ⟨fun pins s σ H Q I h => ?_⟩
  refine Call_ (ld_blt I hg hm boot_len ?_)
  refine PyProof.Rows.callWith_builtin1 (PyProof.Rows.args_cons ?_ rfl) rfl rfl
  refine Call_ (ld_blt I hg2 hm2 boot_set ?_)
  refine PyProof.Rows.callWith_type1 (PyProof.Rows.args_cons (thn (ha.run pins s σ H _ I h) fun v s1 ⟨x, H1, I1, r1, q1⟩ => PyProof.Rows.args_nil ?_) na) na rfl
  obtain ⟨l, ns, rfl, hq, hl, q1⟩ := q1
  cases r1
  obtain ⟨its, r, pl, hz⟩ := I1.list hq
  have hlen : its.toArray.size = ns.length := by rw [List.size_toArray, ← r.length, List.length_map]
  refine call_set_list (I1.ok.hd hc) pl.isList (by simpa using RZ.intsAre_vals r) (by rw [hlen]; unfold scanBound; omega) fun h' tk hS hk => ?_
  refine PyProof.Rows.args_nil ?_
  rw [hlen] at hS
  obtain ⟨o, es, ep, t, ho, hex, hd, _, _, _, hf, hn⟩ := hS
  have I2 : Inv X pins σ H1 { s1 with heap := h', toks := tk } := I1.kept fun b o e => hk b o (Heap.lt_size e) e
  rw [met_len] at hn
  have hle : (nubI ns).length ≤ ns.length := sub_len (nubI_nodup ns) fun x hx => nubI_mem.mp hx
  exact call_len_set ho hex hd hf (by rw [hn] <;> omega) ⟨.int (nubI ns).length, H1, I2.tok _, ⟨_, by rw [hn]⟩, q1⟩
/-- len(set(xs)), xs a list of pairs -/
def rLenT (K : PySem.W.Frag) (P : Program) (w : World) : List V → Hp → VK → Prop := fun vs H Q => ∃ (a : Addr) (L : List (Addr × List Int)), vs = [V.ref a] ∧ H a = some (SetTO P w a L) ∧ (∀ p ∈ L, SqT K H p.1 (p.2.map V.int)) ∧
  ((L.map (·.2)).Nodup → Q (.int (L.length : Nat)) H)
theorem cr_lenT (hc : X.calm = true) : CallR X (.builtin "len") (rLenT X.K X.prog X.w) := by
  intro pins s σ H vs us Q I r h
  obtain ⟨a, L, rfl, ha, hk, q⟩ := h
  have R0 : SetT0 X.prog X.w s.heap a L := (I.hok a _ ha).1
  obtain ⟨es, ep, t, R⟩ := R0.full fun p hp => I.isT (hk p hp)
  rw [Vals.ref1 r]
  obtain ⟨o, ho, hex, hd⟩ := R.ob
  have hsz := R.size
  have hfew := R.few
  exact call_len_set ho hex hd R.fits (by omega) ⟨.int (L.length : Nat), H, I.tok _, ⟨_, by rw [hsz]⟩, q R.nd⟩
theorem pe_lenSetP {a : Expr} {ta : TE} {p p2 q pos : Pos} (hc : X.calm = true) (hu : X.A.units + 64 < cLine) (hg : Gl X "len") (hm : X.mg "len" = none) (hg2 : Gl X "set") (hm2 : X.mg "set" = none) (ha : PE X a ta)
    (na : starEach [a] X.env = (false, eval a X.env) :: starEach [] X.env) : PE X (.Call (.Name "len" p) [.Call (.Name "set" p2) [a] [] q] [] pos) (tCB (rLenSetP X.K) (tCons ta tNil)) := by
  have h1 : PE X (.Call (.Name "set" p2) [a] [] q) (tCB (rSetOfT X.K X.prog X.w) (tCons (tMono ta) tNil)) := pe_callTy (cr_setOfT hc hu) hg2 hm2 PyProof.Rows.boot_set (pa_cons (pe_mono ha) pa_nil na) (by decide) (by decide) na rfl
  have h2 : PE X (.Call (.Name "len" p) [.Call (.Name "set" p2) [a] [] q] [] pos) (tCB (rLenT X.K X.prog X.w) (tCons (tCB (rSetOfT X.K X.prog X.w) (tCons (tMono ta) tNil)) tNil)) := pe_callB (cr_lenT hc) hg hm boot_len (pa_cons h1 pa_nil)
  refine ⟨fun pins s σ H Q I h => h2.run pins s σ H Q I ⟨_, h, fun x H1 hx => ?_⟩⟩
  obtain ⟨t, ks, e, hT, hk, hf, k⟩ := hx
  refine ⟨t, ks.map kOf, e, by rw [List.map_map]; exact hT, ?_, by rw [List.length_map]; exact hf, fun a L ha hL1 hL2 => ?_⟩
  · intro p hp
    obtain ⟨p', hp', rfl⟩ := List.mem_map.mp hp
    exact hk p' hp'
  have back : ∀ p ∈ L, ∃ p' ∈ ks, p = kOf p' := fun p hp => by
    obtain ⟨p', hp', rfl⟩ := List.mem_map.mp (hL1 p hp)
    exact ⟨p', hp', rfl⟩
  refine ⟨a, L, rfl, upd_same, fun p hp => ?_, fun hnd => ?_⟩
  · obtain ⟨p', hp', rfl⟩ := back p hp
    exact ex_t (Ex.new ha) (hk p' hp')
  · have e1 : L.length = (nubP (ks.map (·.2))).length := by
      have hp : (L.map (·.2)).Perm ((nubP (ks.map (·.2))).map fun p => [p.1, p.2]) := by
        refine (List.perm_ext_iff_of_nodup hnd ?_).mpr fun z => ?_
        · refine List.Pairwise.map _ (fun a b hab e => hab ?_) (nubP_nodup _)
          injection e with e1 e2
          injection e2 with e2 _
          exact Prod.ext e1 e2
        · constructor
          · intro hz
            obtain ⟨p, hp, rfl⟩ := List.mem_map.mp hz
            obtain ⟨p', hp', rfl⟩ := back p hp
            exact List.mem_map.mpr ⟨p'.2, nubP_mem.mpr (List.mem_map_of_mem hp'), rfl⟩
          · intro hz
            obtain ⟨q, hq, rfl⟩ := List.mem_map.mp hz
            obtain ⟨p', hp', rfl⟩ := List.mem_map.mp (nubP_mem.mp hq)
            exact hL2 (kOf p') (List.mem_map_of_mem hp')
      have := hp.length_eq
      rwa [List.length_map, List.length_map] at this
    rw [e1]
    exact k a _ ha
/-- an operation -/
theorem op_pe (hy : HyE X c cls G gv L E0) {k : Op} {e : Expr} {es : List Expr} {as : List A} (h : opParts X.env.scope k e = some es) (hp : PEs X cls G gv E0 es as) : PE X e (tE X.K cls G gv E0 (.op k as)) := by
  simp only [tE]
  unfold opParts at h
  split at h
  · split at h
    · rename_i hb
      cases h
      obtain ⟨x, y, rfl, h1, h2, _, _⟩ := hp.two
      exact pe_op (bin_op hb) h1 h2
    · cases h
  · split at h
    · rename_i hb
      cases h
      subst hb
      obtain ⟨x, rfl, h1, _⟩ := hp.one (es := [])
      exact pe_un un_neg h1
    · cases h
  · split at h
    · rename_i hb
      cases h
      obtain ⟨x, y, rfl, h1, h2, _, _⟩ := hp.two
      exact pe_cmpR (cmp_op hy.room hb.1) h1 h2 hb.2
    · split at h
      · split at h
        · rename_i hb
          cases h
          subst hb
          obtain ⟨x, rfl, h1, _⟩ := hp.one (es := [])
          exact pe_cmpR op_isN h1 pe_non (by rfl)
        · cases h
      · split at h
        · rename_i hb
          cases h
          subst hb
          obtain ⟨x, rfl, h1, _⟩ := hp.one (es := [])
          exact pe_cmpR op_notN h1 pe_non (by rfl)
        · cases h
      · cases h
  · split at h
    · split at h
      · rename_i hb
        cases h
        subst hb
        obtain ⟨x, y, rfl, h1, h2, _, _⟩ := hp.two
        exact pe_slice (sl_list.or sl_tupA) h1 (po_some h2) po_none
      · cases h
    · split at h
      · rename_i hb
        cases h
        subst hb
        obtain ⟨x, y, rfl, h1, h2, _, _⟩ := hp.two
        exact pe_slice (sl_list.or sl_tupA) h1 po_none (po_some h2)
      · cases h
    · split at h
      · rename_i hb
        cases h
        subst hb
        obtain ⟨x, rfl, h1, _⟩ := hp.one (es := [])
        refine ⟨fun pins s σ H Q I q => (pe_revA (pe_mono h1)).run pins s σ H Q I ⟨_, q, fun x H1 hx => ?_⟩⟩
        obtain ⟨a, xs, e, k1⟩ := hx
        cases e
        exact ⟨a, xs, rfl, k1⟩
      · cases h
    · cases h
    · rename_i h1 h2 h4 h3
      split at h
      · rename_i hb
        cases h
        subst hb
        obtain ⟨x, y, rfl, k1, k2, _, _⟩ := hp.two
        refine pe_ix ix_seq k1 k2 (plainIx_of ?_)
        unfold plainIxB
        split
        · exact absurd rfl (h3 _ _ _ _)
        · rfl
      · cases h
  · split at h
    · rename_i hb
      subst hb
      split at h
      · split at h
        · rename_i hc
          cases h
          obtain ⟨c1, c2, c3, c4⟩ := hc
          subst c1 c2
          obtain ⟨x, rfl, h1, h2⟩ := hp.one (es := [])
          have hu : X.A.units + 64 < cLine := by have := hy.room.un; omega
          exact pe_srtSet hy.calm hu (kindIs_iff c3) (hy.bi _ (by decide +kernel)) (kindIs_iff c4) (hy.bi _ (by decide +kernel)) h1 (star_ne h2)
        · cases h
      · cases h
    split at h
    · rename_i hb
      subst hb
      split at h
      · split at h
        · rename_i hc
          cases h
          obtain ⟨c1, c2, c3, c4⟩ := hc
          subst c1 c2
          obtain ⟨x, rfl, h1, h2⟩ := hp.one (es := [])
          refine ⟨fun pins s σ H Q I q => (pe_listRg hy.calm (kindIs_iff c3) (hy.bi _ (by decide +kernel)) (prg_1 (kindIs_iff c4) (hy.bi _ (by decide +kernel)) (pe_mono h1) (star_ne h2))).run pins s σ H Q I ⟨_, q, fun x H1 hx => ?_⟩⟩
          obtain ⟨i, j, e1, e2, e3, e4⟩ := hx
          cases e1
          exact ⟨j, e2, e3, e4⟩
        · cases h
      · cases h
    split at h
    · rename_i hb
      subst hb
      split at h
      · split at h
        · rename_i hc
          cases h
          obtain ⟨c1, c2, c3, c4⟩ := hc
          subst c1 c2
          obtain ⟨x, y, rfl, h1, h2, h3, h4⟩ := hp.two
          refine ⟨fun pins s σ H Q I q => (pe_listRg hy.calm (kindIs_iff c3) (hy.bi _ (by decide +kernel)) (prg_2 (kindIs_iff c4) (hy.bi _ (by decide +kernel)) (pe_mono h1) (pe_mono h2) (star_ne h3) (star_ne h4) (by rw [star_ne h4]; rfl))).run pins s σ H Q I ⟨_, q, fun x H1 hx => ⟨_, hx, fun y H2 hy2 => ?_⟩⟩⟩
          obtain ⟨i, j, e1, e2, e3, e4⟩ := hy2
          exact ⟨i, j, e1, e2, e3, e4⟩
        · cases h
      · cases h
    split at h
    · rename_i hb
      subst hb
      split at h
      · split at h
        · rename_i hc
          cases h
          obtain ⟨c1, c2, c3, c4⟩ := hc
          subst c1 c2
          obtain ⟨x, rfl, h1, h2⟩ := hp.one (es := [])
          refine ⟨fun pins s σ H Q I q => (pe_tupRg hy.calm (kindIs_iff c3) (hy.bi _ (by decide +kernel)) (prg_1 (kindIs_iff c4) (hy.bi _ (by decide +kernel)) (pe_mono h1) (star_ne h2))).run pins s σ H Q I ⟨_, q, fun x H1 hx => ?_⟩⟩
          obtain ⟨i, j, e1, e2, e3, e4⟩ := hx
          cases e1
          exact ⟨j, e2, e3, e4⟩
        · cases h
      · cases h
    split at h
    · rename_i hb
      subst hb
      split at h
      · split at h
        · rename_i hc
          cases h
          obtain ⟨c1, c2, c3, c4⟩ := hc
          subst c1 c2
          obtain ⟨x, rfl, h1, h2⟩ := hp.one (es := [])
          refine ⟨fun pins s σ H Q I q => (pe_lenSetG hy.calm (kindIs_iff c3) (hy.bi _ (by decide +kernel)) (kindIs_iff c4) (hy.bi _ (by decide +kernel)) (pe_mono h1) (star_ne h2)).run pins s σ H Q I ⟨_, q, fun x H1 hx => ?_⟩⟩
          obtain ⟨l, ns, e, k1, k2, k3⟩ := hx
          cases e
          exact ⟨l, ns, rfl, k1, k2, k3⟩
        · cases h
      · cases h
    split at h
    · rename_i hb
      subst hb
      split at h
      · split at h
        · rename_i hc
          cases h
          obtain ⟨c1, c2, c3, c4⟩ := hc
          subst c1 c2
          obtain ⟨x, rfl, h1, h2⟩ := hp.one (es := [])
          have hu : X.A.units + 64 < cLine := by have := hy.room.un; omega
          exact pe_lenSetP hy.calm hu (kindIs_iff c3) (hy.bi _ (by decide +kernel)) (kindIs_iff c4) (hy.bi _ (by decide +kernel)) h1 (star_ne h2)
        · cases h
      · cases h
    split at h
    · rename_i hb
      split at h
      · cases h
      · cases h
        exact bi_pe hy hb.1 hb.2 hp
    · split at h
      · rename_i hb
        obtain ⟨b1, b2, b3⟩ := hb
        subst b2
        split at h
        · split at h
          · rename_i ht
            cases h
            obtain ⟨x, rfl, h1, h2⟩ := hp.one (es := [])
            obtain ⟨h3, h4⟩ := ty_pe hy b1 ht
            have hpa := pa_cons h1 (pa_cons h3 pa_nil (star_ne h4)) (star_ne h2)
            have e2 : ∀ {pos : Pos} {t : Expr}, notStar t = true → (backTo pos (starEach [t] X.env)).any (·.1) = false := fun {pos t} ht => by
              rw [star_ne ht]
              rfl
            have r : ∀ p pos : Pos, PE X (.Call (.Name (Str.ofString "isinstance") p) _ [] pos) (tCB (rIsi X.K) _) := fun p pos => pe_callB call_isi (kindIs_iff b3) (hy.bi _ (by decide +kernel)) (by decide +kernel) hpa (by decide +kernel) (by decide +kernel) (star_ne h2) (e2 h4)
            cases k <;> first | (cases b1; done) | exact r _ _
          · cases h
        · cases h
      · cases h
  · cases h
end
end Nv

set_option Elab.async false
set_option linter.all false
set_option maxRecDepth 100000
/-! Nv13: the check is sound: expressions, by recursion. -/
namespace Nv
open PySem PySem.Spec PyProof.Rows L2

section
variable {X : Cx} {c : Cc} {cls : Nat → Value} {G : Gam} {gv : Gv} {L : Nat} {E0 : XK}
theorem pi_seq {tg l : Expr} {tl : TE} (hl : PE X l tl) : PI X tg l (iSeq X.K tl) := by
  refine ⟨fun pins s σ H R I h => ?_⟩
  refine thn (hl.run pins s σ H _ I h) fun v s1 ⟨x, H1, I1, r1, q1⟩ => ?_
  obtain ⟨a, e, q⟩ := q1
  subst e
  cases r1
  rcases q with ⟨⟨xs, hq⟩, q⟩ | ⟨⟨xs, hq⟩, q⟩
  · obtain ⟨its, rv, p, hz⟩ := I1.list hq
    refine wpAny_pyIter_list p.isList ?_
    refine ⟨s1.heap.objs.size, [s1.heap.objs.size], _, _, H1, rfl, I1.kept (t' := s1.toks) fun b o e => Heap.get?_push_of_some _ e, turn_list a _, ⟨_, Heap.get?_push_size _ rfl, rfl, rfl⟩, fun b hb => ?_, q⟩
    have e : b = s1.heap.objs.size := by simpa using hb
    subst e
    exact I1.fpOk (Nat.le_refl _) (I1.hok.fresh (Nat.le_refl _))
  · obtain ⟨its, rv, p, hz⟩ := I1.tuple hq
    refine wpAny_pyIter_tuple (show s1.heap.IsTuple a its.toArray from p) ?_
    refine ⟨s1.heap.objs.size, [s1.heap.objs.size], _, _, H1, rfl, I1.kept (t' := s1.toks) fun b o e => Heap.get?_push_of_some _ e, turn_tuple a _, ⟨_, Heap.get?_push_size _ rfl, rfl, rfl⟩, fun b hb => ?_, q⟩
    have e : b = s1.heap.objs.size := by simpa using hb
    subst e
    exact I1.fpOk (Nat.le_refl _) (I1.hok.fresh (Nat.le_refl _))
theorem passN : Passes (L2N.CX X.prog X.w) X E0F := fun _ _ _ _ _ _ _ h => by
  obtain ⟨_, _, _, _, _, _, _, _, _, _, _, _, z⟩ := h
  exact z.elim
theorem HyE.blk (hy : HyE X c cls G gv L E0) (s : Shared) (H : Hp) (scope : Scope) (env : Env) (fp : List Addr) : HyE (X.blk s H scope env fp) c cls G gv L E0F :=
  ⟨hy.N, hy.nd, hy.calm, hy.room, passN, hy.fn, hy.fnS, hy.gl, hy.bi⟩
theorem notSet_fold {iter : Expr} {env : Env} (h : notSetE iter = true) : ∀ x, foldedSetIterable iter env x = pure x := by
  intro x
  cases iter <;> first | rfl | cases h

/-! ### targets -/
theorem tgNames_ok : ∀ {es : List Expr} {is : List Nat} {own : List (Str × Nat)}, tgNames es is = some own → own.map (·.2) = is ∧ es.length = is.length
  | [], [], _, h => by cases h; exact ⟨rfl, rfl⟩
  | e :: es, i :: is, own, h => by
    cases e <;> first | (cases h; done) | skip
    simp only [tgNames, Option.map_eq_some_iff] at h
    obtain ⟨r, h1, h2⟩ := h
    subst h2
    obtain ⟨h3, h4⟩ := tgNames_ok h1
    exact ⟨by simp [h3], by simp [h4]⟩
  | [], _ :: _, _, h => by cases h
  | e :: _, [], _, h => by cases e <;> cases h
theorem tgOwn_slots {tg : Expr} {is : List Nat} {one : Bool} {own : List (Str × Nat)} (h : tgOwn tg is one = some own) : own.map (·.2) = is := by
  unfold tgOwn at h
  split at h
  · cases h; rfl
  · split at h
    · cases h
    · exact (tgNames_ok h).1
  · cases h
/-- the names' stores -/
structure Stor (X : Cx) (own : List (Str × Nat)) : Prop where
  nd : X.N.Nodup
  calm : X.calm = true
  ix : ∀ p ∈ own, X.N[p.2]? = some p.1 ∧ L2.Loc X.env.scope p.1 ∧ (X.fn p.1 = true ∨ X.env.scope.names.lookup p.1 = some .local)
theorem pgs_ok : ∀ {es : List Expr} {is : List Nat} {own : List (Str × Nat)}, tgNames es is = some own → Stor X own → PGs X es (tTgs is) ∧ (assignEach es X.env).length = is.length ∧ (assignEach es X.env).findIdx? (·.1) = none
  | [], [], _, h, s => by cases h; exact ⟨pgs_nil, rfl, rfl⟩
  | e :: es, i :: is, own, h, s => by
    cases e <;> first | (cases h; done) | skip
    rename_i x p
    simp only [tgNames, Option.map_eq_some_iff] at h
    obtain ⟨r, h1, h2⟩ := h
    subst h2
    obtain ⟨h3, h4, h5⟩ := pgs_ok h1 ⟨s.nd, s.calm, fun q hq => s.ix q (List.mem_cons_of_mem _ hq)⟩
    obtain ⟨k1, k2, k3⟩ := s.ix (x, i) List.mem_cons_self
    refine ⟨pgs_cons (pg_name s.nd k1 k2 k3) h3, ?_, ?_⟩
    · show (assignEach es X.env).length + 1 = is.length + 1
      rw [h4]
    · show ((false, assign (.Name x p) X.env) :: assignEach es X.env).findIdx? (·.1) = none
      rw [List.findIdx?_cons]
      simp [h5]
  | [], _ :: _, _, h, s => by cases h
  | e :: _, [], _, h, s => by cases e <;> cases h
theorem pg_ok {tg : Expr} {is : List Nat} {one : Bool} {own : List (Str × Nat)} (h : tgOwn tg is one = some own) (s : Stor X own) : PG X tg (tTg X.K is one) := by
  unfold tgOwn at h
  split at h
  · cases h
    obtain ⟨k1, k2, k3⟩ := s.ix _ List.mem_cons_self
    exact pg_name s.nd k1 k2 k3
  · split at h
    · cases h
    · rename_i hm
      obtain ⟨h1, h2, h3⟩ := pgs_ok h s
      unfold tTg
      simp only [Bool.false_eq_true, if_false, if_neg hm]
      exact pg_tup s.calm h1 h2 h3
  · cases h
theorem pg_okN {tg : Expr} {is : List Nat} {one : Bool} {own : List (Str × Nat)} (h : tgOwnN tg is one = some own) (s : Stor X own) : PG X tg (tTg X.K is one) := by
  unfold tgOwnN at h
  split at h
  · split at h
    · rename_i hm
      subst hm
      obtain ⟨r, h1, rfl⟩ := Option.map_eq_some_iff.mp h
      obtain ⟨k1, k2, k3⟩ := pgs_ok h1 ⟨s.nd, s.calm, fun q hq => s.ix q (List.mem_cons_of_mem _ hq)⟩
      obtain ⟨m1, m2, m3⟩ := s.ix _ List.mem_cons_self
      unfold tTg
      simp only [Bool.false_eq_true, if_false, List.head?_cons, if_true]
      exact pg_tup s.calm (pgs_cons (pg_name s.nd m1 m2 m3) (pgs_cons (pg_tup s.calm k1 k2 k3) pgs_nil)) rfl rfl
    · cases h
  · cases h
theorem allLocal_iff {sc : Scope} {own : List (Str × Nat)} (h : allLocal sc own = true) : ∀ p ∈ own, sc.names.lookup p.1 = some .local := fun p hp => kindIs_iff (List.all_eq_true.mp h p hp)

/-! ### tests -/
/-- whatever the whole is -/
theorem pw_of {op : BoolOp} {vs : List Expr} {p : Pos} {t : TT} (h : PT X (.BoolOp op vs p) t) : PW X (.BoolOp op vs p) t := ⟨fun _ pins s σ H Q I hw => h.run pins s σ H Q I hw⟩
theorem op_pt (hy : HyE X c cls G gv L E0) {k : Op} {e : Expr} {es : List Expr} {as : List A} (h : opParts X.env.scope k e = some es) (hp : PEs X cls G gv E0 es as) : PT X e (tT X.K cls G gv E0 (.op k as)) := by
  have hpe := op_pe hy h hp
  simp only [tE] at hpe
  simp only [tT]
  unfold opParts at h
  split at h
  · exact pt_val hpe
  · exact pt_val hpe
  · split at h
    · rename_i hb
      cases h
      obtain ⟨x, y, rfl, h1, h2, _, _⟩ := hp.two
      exact pt_cmpR (cmp_op hy.room hb.1) h1 h2 hb.2
    · split at h
      · split at h
        · rename_i hb
          cases h
          subst hb
          obtain ⟨x, rfl, h1, _⟩ := hp.one (es := [])
          exact pt_cmpR op_isN h1 pe_non (by rfl)
        · cases h
      · split at h
        · rename_i hb
          cases h
          subst hb
          obtain ⟨x, rfl, h1, _⟩ := hp.one (es := [])
          exact pt_cmpR op_notN h1 pe_non (by rfl)
        · cases h
      · cases h
  · exact pt_val hpe
  · exact pt_val hpe
  · cases h
theorem PEs.tail {e : Expr} {es : List Expr} {as : List A} (hp : PEs X cls G gv E0 (e :: es) as) : ∃ as', PEs X cls G gv E0 es as' ∧ notStar e = true := by
  cases hp with
  | cons q1 q2 q3 => exact ⟨_, q3, q2⟩
theorem call_pe (hy : HyE X c cls G gv L E0) {n : Nat} {e : Expr} {es : List Expr} {as : List A} (h : callPart c X.env.scope n e = some es) (hp : PEs X cls G gv E0 es as) : PE X e (tE X.K cls G gv E0 (.call n as)) ∧ ∀ whole, isTrue e X.env whole = (do let v ← whole; standAt e.pos; holding [v] (truthy v)) := by
  unfold callPart at h
  split at h
  · split at h
    · rename_i hb
      obtain ⟨b1, b2, b3⟩ := hb
      cases h
      refine ⟨?_, fun _ => rfl⟩
      simp only [tE]
      cases hf : G.fn n with
      | none => exact ⟨fun _ _ _ _ _ _ z => z.elim⟩
      | some mf =>
        obtain ⟨ms, fn⟩ := mf
        obtain ⟨a, fd, ps, _, h1, h2, h3, h4⟩ := hy.fn n _ ms fn b1 hf
        obtain ⟨as', hs, hn⟩ := hp.tail
        exact pe_call h4 hy.room (kindIs_iff b2) h1 h2 h3 .nil hy.pass hp.pa (plainN_iff b3).1 (star_ne hn) (stars_no hs)
    · cases h
  · cases h
theorem andParts_cases {e a b : Expr} (h : andParts e = some (a, b)) : (∃ p, e = .BoolOp .And [a, b] p) ∨ ∃ b' c r p, e = .BoolOp .And (a :: b' :: c :: r) p ∧ b = .BoolOp .And (b' :: c :: r) p := by
  unfold andParts at h
  split at h
  · cases h; exact .inl ⟨_, rfl⟩
  · cases h; exact .inr ⟨_, _, _, _, rfl, rfl⟩
  · cases h
theorem orParts_cases {e a b : Expr} (h : orParts e = some (a, b)) : (∃ p, e = .BoolOp .Or [a, b] p) ∨ ∃ b' c r p, e = .BoolOp .Or (a :: b' :: c :: r) p ∧ b = .BoolOp .Or (b' :: c :: r) p := by
  unfold orParts at h
  split at h
  · cases h; exact .inl ⟨_, rfl⟩
  · cases h; exact .inr ⟨_, _, _, _, rfl, rfl⟩
  · cases h
end

section
variable (c : Cc) (cls : Nat → Value) (G : Gam) (gv : Gv) (L : Nat)
def KE (x : E) : Prop := ∀ (X : Cx) (E0 : XK) (e : Expr), HyE X c cls G gv L E0 → ckE c X.env.scope e x = true → PE X e (tE X.K cls G gv E0 x)
def KT (x : E) : Prop := ∀ (X : Cx) (E0 : XK) (e : Expr), HyE X c cls G gv L E0 → okT x = true → ckE c X.env.scope e x = true → PT X e (tT X.K cls G gv E0 x)
def KA (a : A) : Prop := ∀ (X : Cx) (E0 : XK) (e : Expr), HyE X c cls G gv L E0 → ckA c X.env.scope e a = true → PE X e (tA X.K cls G gv E0 a)
def KAs (as : List A) : Prop := ∀ (X : Cx) (E0 : XK) (es : List Expr), HyE X c cls G gv L E0 → ckAs c X.env.scope es as = true → PEs X cls G gv E0 es as
def KI (it : It) : Prop := ∀ (X : Cx) (E0 : XK) (tg e : Expr), HyE X c cls G gv L E0 → ckI c X.env.scope tg e it = true → PI X tg e (tI X.K cls G gv E0 it)
def KO (o : Option E) : Prop := ∀ (X : Cx) (ifs : List Expr), HyE X c cls G gv L E0F → (∀ x, o = some x → okT x = true) → ckO c X.env.scope ifs o = true → PTs X ifs (tO X.K cls G gv o)
end
section
variable {c : Cc} {cls : Nat → Value} {G : Gam} {gv : Gv} {L : Nat}
theorem ke_op {k : Op} {as : List A} (ka : KAs c cls G gv L as) : KE c cls G gv L (.op k as) := by
  intro X E0 e hy h
  simp only [ckE] at h
  split at h
  · rename_i es he
    exact op_pe hy he (ka X E0 es hy h)
  · cases h
theorem kt_op {k : Op} {as : List A} (ka : KAs c cls G gv L as) : KT c cls G gv L (.op k as) := by
  intro X E0 e hy _ h
  simp only [ckE] at h
  split at h
  · rename_i es he
    exact op_pt hy he (ka X E0 es hy h)
  · cases h
theorem ke_and {x y : E} (kx : KE c cls G gv L x) (ky : KE c cls G gv L y) : KE c cls G gv L (.and x y) := by
  intro X E0 e hy h
  simp only [ckE] at h
  split at h
  · rename_i a b he
    simp only [Bool.and_eq_true] at h
    have h1 := kx X E0 a hy h.1
    have h2 := ky X E0 b hy h.2
    simp only [tE]
    rcases andParts_cases he with ⟨p, rfl⟩ | ⟨b', d, r, p, rfl, rfl⟩
    · exact pe_and h1 (pe_one h2)
    · exact pe_and h1 h2
  · cases h
theorem ke_or {x y : E} (kx : KE c cls G gv L x) (ky : KE c cls G gv L y) : KE c cls G gv L (.or x y) := by
  intro X E0 e hy h
  simp only [ckE] at h
  split at h
  · rename_i a b he
    simp only [Bool.and_eq_true] at h
    have h1 := kx X E0 a hy h.1
    have h2 := ky X E0 b hy h.2
    simp only [tE]
    rcases orParts_cases he with ⟨p, rfl⟩ | ⟨b', d, r, p, rfl, rfl⟩
    · exact pe_or h1 (pe_one h2)
    · exact pe_or h1 h2
  · cases h
theorem ke_orT {x y : E} (kx : KE c cls G gv L x) (ky : KE c cls G gv L y) : KE c cls G gv L (.orT x y) := by
  intro X E0 e hy h
  simp only [ckE] at h
  split at h
  · rename_i a b he
    simp only [Bool.and_eq_true] at h
    have h1 := kx X E0 a hy h.1
    have h2 := ky X E0 b hy h.2
    simp only [tE]
    rcases orParts_cases he with ⟨p, rfl⟩ | ⟨b', d, r, p, rfl, rfl⟩
    · exact pe_orT h1 (pe_one h2)
    · exact pe_orT h1 h2
  · cases h
theorem kt_and {x y : E} (kx : KT c cls G gv L x) (ky : KT c cls G gv L y) : KT c cls G gv L (.and x y) := by
  intro X E0 e hy o h
  simp only [ckE] at h
  simp only [okT, Bool.and_eq_true] at o
  split at h
  · rename_i a b he
    simp only [Bool.and_eq_true] at h
    have h1 := kx X E0 a hy o.1 h.1
    have h2 := ky X E0 b hy o.2 h.2
    simp only [tT]
    rcases andParts_cases he with ⟨p, rfl⟩ | ⟨b', d, r, p, rfl, rfl⟩
    · exact (pw_and h1 (pw_and1 h2)).pt
    · exact (pw_and h1 (pw_of h2)).pt
  · cases h
theorem kt_or {x y : E} (kx : KT c cls G gv L x) (ky : KT c cls G gv L y) : KT c cls G gv L (.or x y) := by
  intro X E0 e hy o h
  simp only [ckE] at h
  simp only [okT, Bool.and_eq_true] at o
  split at h
  · rename_i a b he
    simp only [Bool.and_eq_true] at h
    have h1 := kx X E0 a hy o.1 h.1
    have h2 := ky X E0 b hy o.2 h.2
    simp only [tT]
    rcases orParts_cases he with ⟨p, rfl⟩ | ⟨b', d, r, p, rfl, rfl⟩
    · exact (pw_or h1 (pw_or1 h2)).pt
    · exact (pw_or h1 (pw_of h2)).pt
  · cases h
theorem ke_not {x : E} (kx : KE c cls G gv L x) : KE c cls G gv L (.not x) := by
  intro X E0 e hy h
  simp only [ckE] at h
  split at h
  · rename_i a he
    have h1 := kx X E0 a hy h
    simp only [tE]
    unfold notPart at he
    split at he
    · cases he
      exact pe_not h1
    · cases he
  · cases h
theorem kt_not {x : E} (kx : KT c cls G gv L x) : KT c cls G gv L (.not x) := by
  intro X E0 e hy o h
  simp only [ckE] at h
  split at h
  · rename_i a he
    have h1 := kx X E0 a hy (by simpa [okT] using o) h
    simp only [tT]
    unfold notPart at he
    split at he
    · cases he
      exact pt_not h1
    · cases he
  · cases h
theorem ke_ite {z x y : E} (oz : okT z = true) (kz : KT c cls G gv L z) (kx : KE c cls G gv L x) (ky : KE c cls G gv L y) : KE c cls G gv L (.ite z x y) := by
  intro X E0 e hy h
  simp only [ckE] at h
  split at h
  · rename_i t a b he
    simp only [Bool.and_eq_true] at h
    have h0 := kz X E0 t hy oz h.1.1
    have h1 := kx X E0 a hy h.1.2
    have h2 := ky X E0 b hy h.2
    simp only [tE]
    unfold itePart at he
    split at he
    · cases he
      exact pe_ifExp h0 h1 h2
    · cases he
  · cases h
theorem ke_le {z x y : E} (kx : KE c cls G gv L x) (ky : KE c cls G gv L y) (kz : KE c cls G gv L z) : KE c cls G gv L (.leLe x y z) := by
  intro X E0 e hy h
  simp only [ckE] at h
  split at h
  · rename_i a b d he
    simp only [Bool.and_eq_true] at h
    have h0 := kx X E0 a hy h.1.1
    have h1 := ky X E0 b hy h.1.2
    have h2 := kz X E0 d hy h.2
    simp only [tE]
    unfold lePart at he
    split at he
    · split at he
      · rename_i hm
        cases he
        exact pe_chain op_le op_le h0 h1 h2 hm
      · cases he
    · cases he
  · cases h
theorem kt_le {z x y : E} (kx : KE c cls G gv L x) (ky : KE c cls G gv L y) (kz : KE c cls G gv L z) : KT c cls G gv L (.leLe x y z) := by
  intro X E0 e hy _ h
  simp only [ckE] at h
  split at h
  · rename_i a b d he
    simp only [Bool.and_eq_true] at h
    have h0 := kx X E0 a hy h.1.1
    have h1 := ky X E0 b hy h.1.2
    have h2 := kz X E0 d hy h.2
    simp only [tT]
    unfold lePart at he
    split at he
    · split at he
      · rename_i hm
        cases he
        exact pt_chain op_le op_le h0 h1 h2 hm
      · cases he
    · cases he
  · cases h
theorem ke_tup {as : List A} (ka : KAs c cls G gv L as) : KE c cls G gv L (.tup as) := by
  intro X E0 e hy h
  simp only [ckE] at h
  split at h
  · rename_i es he
    have h1 := ka X E0 es hy h
    simp only [tE]
    unfold tupPart at he
    split at he
    · cases he
      exact pe_tup h1.pa
    · cases he
  · cases h
theorem ke_lst {as : List A} (ka : KAs c cls G gv L as) : KE c cls G gv L (.lst as) := by
  intro X E0 e hy h
  simp only [ckE] at h
  split at h
  · rename_i es he
    have h1 := ka X E0 es hy h
    simp only [tE]
    unfold lstPart at he
    split at he
    · cases he
      exact pe_lst h1.pa
    · cases he
  · cases h
theorem ke_call {n : Nat} {as : List A} (ka : KAs c cls G gv L as) : KE c cls G gv L (.call n as) := by
  intro X E0 e hy h
  simp only [ckE] at h
  split at h
  · rename_i es he
    exact (call_pe hy he (ka X E0 es hy h)).1
  · cases h
theorem base_ok {o : Expr} {name : Str} {env : Env} {w : Sem Value} (h : notCallE o = true) : attributeBase o name env w = w := by
  cases o <;> first | rfl | cases h
theorem ke_pop {i : Nat} {x : E} (kx : KE c cls G gv L x) : KE c cls G gv L (.pop i x) := by
  intro X E0 e hy h
  simp only [ckE] at h
  split at h
  · rename_i a he
    have h1 := kx X E0 a hy h
    simp only [tE]
    unfold popPart at he
    split at he
    · split at he
      · rename_i hb
        cases he
        obtain ⟨b1, b2, b3, b4⟩ := hb
        subst b1
        have ho := name_pe hy.N b2
        unfold ckName at b2
        split at b2
        · refine pe_bm PySem.F.plainAttrs_list PySem.F.slot_list_pop PySem.F.type_list_pop mt_popAt ho (pa_cons h1 pa_nil (star_ne b4)) rfl ?_ (by simpa using b3) (star_ne b4) ?_
          · rw [star_ne b4]
            rfl
          · rfl
        · cases b2
      · cases he
    · cases he
  · cases h
theorem noSl_of {b : Expr} (h : plainIxB b = true) : NoSl b := by
  intro o i
  cases b <;> first | rfl | cases h
theorem ke_dget {a : A} {k : E} (ka : KA c cls G gv L a) (kk : KE c cls G gv L k) : KE c cls G gv L (.dget a k) := by
  intro X E0 e hy h
  simp only [ckE] at h
  split at h
  · rename_i o x he
    simp only [Bool.and_eq_true] at h
    have h0 := ka X E0 o hy h.1
    have h1 := kk X E0 x hy h.2
    simp only [tE]
    unfold dgetPart at he
    split at he
    · split at he
      · rename_i hb
        cases he
        exact pe_dget (by have := hy.room.un; omega) h0 h1 (noSl_of hb)
      · cases he
    · cases he
  · cases h
theorem din_parts {neg : Bool} {k : E} {a : A} (kk : KE c cls G gv L k) (ka : KA c cls G gv L a) {X : Cx} {E0 : XK} {e : Expr} (hy : HyE X c cls G gv L E0) (h : ckE c X.env.scope e (.din neg k a) = true) :
    ∃ x o op p, e = .Compare x [op] [o] p ∧ PC X op x o (tDInB neg (tE X.K cls G gv E0 k) (tA X.K cls G gv E0 a)) ∧ behindInMarks op o = false := by
  simp only [ckE] at h
  split at h
  · rename_i x o he
    simp only [Bool.and_eq_true] at h
    have h0 := kk X E0 x hy h.1
    have h1 := ka X E0 o hy h.2
    unfold dinPart at he
    split at he
    · split at he
      · rename_i hb
        cases he
        obtain ⟨rfl, b2⟩ := hb
        refine ⟨_, _, _, _, rfl, ?_, b2⟩
        have hu : X.A.units + 1 < cLine := by have := hy.room.un; omega
        unfold tDInB
        cases neg with
        | false => exact pc_din hu h0 h1
        | true => exact pc_dnotin hu h0 h1
      · cases he
    · cases he
  · cases h
theorem ke_din {neg : Bool} {k : E} {a : A} (kk : KE c cls G gv L k) (ka : KA c cls G gv L a) : KE c cls G gv L (.din neg k a) := by
  intro X E0 e hy h
  obtain ⟨x, o, op, p, rfl, h1, h2⟩ := din_parts kk ka hy h
  simp only [tE]
  exact pe_cmp h1 h2
theorem kt_din {neg : Bool} {k : E} {a : A} (kk : KE c cls G gv L k) (ka : KA c cls G gv L a) : KT c cls G gv L (.din neg k a) := by
  intro X E0 e hy _ h
  obtain ⟨x, o, op, p, rfl, h1, h2⟩ := din_parts kk ka hy h
  simp only [tT]
  exact pt_cmp h1 h2
theorem pes_star {X : Cx} {E0 : XK} {es : List Expr} {as : List A} (h : PEs X cls G gv E0 es as) : ∀ e ∈ es, notStar e = true := by
  induction h with
  | nil => intro e z; cases z
  | cons h1 h2 h3 ih =>
    intro e z
    rcases List.mem_cons.mp z with rfl | z
    · exact h2
    · exact ih e z
theorem stars_all {pos : Pos} {env : Env} : ∀ {es : List Expr}, (∀ e ∈ es, notStar e = true) → (backTo pos (starEach es env)).any (·.1) = false
  | [], _ => rfl
  | e :: es, h => by
    rw [star_ne (h e List.mem_cons_self)]
    show (false || (backTo pos (starEach es env)).any (·.1)) = false
    rw [stars_all fun x hx => h x (List.mem_cons_of_mem _ hx)]
    rfl
theorem lastD_eq : ∀ {es r : List Expr}, lastD es = some r → ∃ p, es = r ++ [.Dict [] [] p]
  | [], _, h => by cases h
  | [e], r, h => by
    unfold lastD at h
    split at h
    · rename_i z; cases z
    · rename_i p z
      cases z
      cases h
      exact ⟨p, rfl⟩
    · rename_i e' es' hn z
      cases z
      unfold lastD at h
      cases h
  | e :: e2 :: es, r, h => by
    have h' : (lastD (e2 :: es)).map (e :: ·) = some r := by
      rw [← h]
      rw [lastD.eq_3 e (e2 :: es) (fun p z1 z2 => by cases z2)]
    obtain ⟨r', h1, rfl⟩ := Option.map_eq_some_iff.mp h'
    obtain ⟨p, h2⟩ := lastD_eq h1
    exact ⟨p, by rw [h2]; rfl⟩
theorem pa_apn {X : Cx} {E0 : XK} {t : Bool} {p : Pos} {es : List Expr} {as : List A} (h : PEs X cls G gv E0 es as) : PA X (es ++ [.Dict [] [] p]) (tApN (tAs X.K cls G gv E0 as) t) := by
  have hd : PE X (.Dict [] [] p) (fun σ H Q => ∀ q, H q = none → Q (.ref q) (upd H q (if t then .dT [] else .dK []))) := by
    cases t with
    | true => exact pe_dnewT
    | false => exact pe_dnewK
  induction h with
  | nil => exact pa_cons hd pa_nil (star_ne rfl)
  | cons h1 h2 h3 ih => exact pa_cons h1 ih (star_ne h2)
theorem ke_callN {t : Bool} {n : Nat} {as : List A} (ka : KAs c cls G gv L as) : KE c cls G gv L (.callN t n as) := by
  intro X E0 e hy h
  simp only [ckE] at h
  split at h
  · rename_i es he
    have hp := ka X E0 es hy h
    unfold callNPart at he
    split at he
    · rename_i f pf es0 pc
      split at he
      · rename_i hb
        obtain ⟨b1, b2, b3⟩ := hb
        split at he
        · rename_i a r hl
          cases he
          obtain ⟨p, rfl⟩ := lastD_eq hl
          simp only [tE]
          cases hf : G.fn n with
          | none => exact ⟨fun _ _ _ _ _ _ z => z.elim⟩
          | some mf =>
            obtain ⟨ms, fn⟩ := mf
            obtain ⟨a', fd, ps, _, h1, h2, h3, h4⟩ := hy.fn n _ ms fn b1 hf
            have hst := pes_star hp
            refine pe_call h4 hy.room (kindIs_iff b2) h1 h2 h3 .nil hy.pass (pa_apn hp) (plainN_iff b3).1 (star_ne (hst a List.mem_cons_self)) (stars_all fun x hx => ?_)
            rcases List.mem_append.mp hx with z | z
            · exact hst x (List.mem_cons_of_mem _ z)
            · simp at z
              rw [z]
              rfl
        · cases he
      · cases he
    · cases he
  · cases h
theorem ke_slB {a : A} {x y : E} (ka : KA c cls G gv L a) (kx : KE c cls G gv L x) (ky : KE c cls G gv L y) : KE c cls G gv L (.slB a x y) := by
  intro X E0 e hy h
  simp only [ckE] at h
  split at h
  · rename_i o lo hi he
    simp only [Bool.and_eq_true] at h
    have h0 := ka X E0 o hy h.1.1
    have h1 := kx X E0 lo hy h.1.2
    have h2 := ky X E0 hi hy h.2
    simp only [tE]
    unfold slBPart at he
    split at he
    · cases he
      exact pe_slice (sl_list.or sl_tupA) h0 (po_some h1) (po_some h2)
    · cases he
  · cases h
/-- a method's call -/
theorem mth_pe (hu : X.A.units + 65 < cLine) {k : Op} {o e : Expr} {n : Str} {to te : TE} {ap cp : Pos} (hk : mthName k = some n) (ho : PE X o to) (he : PE X e te) (hc : notCallE o = true) (hl : ap.endLine = cp.line) (hs : notStar e = true) :
    PE X (.Call (.Attribute o n ap) [e] [] cp) (tBM X.K (mthTy k) (fun x xs H Q => rd X.K k (x :: xs) H Q) to (tCons te tNil)) := by
  cases k <;> first | (cases hk; done) | skip
  · cases hk
    have hm : MtR X "list.index" (fun x xs H Q => rd X.K .index (x :: xs) H Q) := by
      intro pins s σ H x xs v us Q I rx rxs h
      match xs, h with
      | [y], h =>
        refine mt_indexD hu pins s σ H x [y] v us Q I rx rxs ?_
        exact h
      | [], h => exact h.elim
      | _ :: _ :: _, h => exact h.elim
    refine pe_bm PySem.F.plainAttrs_list PySem.F.slot_list_index PySem.F.type_list_index hm ho (pa_cons he pa_nil (star_ne hs)) (base_ok hc) ?_ (by simpa using hl) (star_ne hs) ?_
    · rw [star_ne hs]
      rfl
    · rfl
theorem ke_mth {k : Op} {a : A} {as : List A} (ka : KA c cls G gv L a) (kas : KAs c cls G gv L as) : KE c cls G gv L (.mth k a as) := by
  intro X E0 e hy h
  simp only [ckE] at h
  split at h
  · rename_i o es he
    simp only [Bool.and_eq_true] at h
    have h0 := ka X E0 o hy h.1
    have h1 := kas X E0 es hy h.2
    simp only [tE]
    unfold mthPart at he
    split at he
    · split at he
      · rename_i hb
        cases he
        obtain ⟨b1, b2, b3, b4⟩ := hb
        obtain ⟨x, rfl, k1, k2⟩ := h1.one (es := [])
        exact mth_pe (by have := hy.room.un; omega) b1 h0 k1 b2 b3 b4
      · cases he
    · cases he
  · cases h
theorem names_pa {X : Cx} {E0 : XK} (hy : HyE X c cls G gv L E0) : ∀ {es : List Expr} {fs : List Nat}, allNames c X.env.scope es fs = true → (∀ n ∈ fs, (G.fn n).isSome = true) → PA X es (tCs (fs.map gv.fa))
  | [], [], _, _ => pa_nil
  | e :: es, n :: ns, h, hg => by
    cases e <;> first | (cases h; done) | skip
    rename_i x p
    simp only [allNames, Bool.and_eq_true, decide_eq_true_eq] at h
    obtain ⟨⟨⟨h1, h2⟩, h3⟩, h4⟩ := h
    obtain ⟨mf, hf⟩ := Option.isSome_iff_exists.mp (hg n List.mem_cons_self)
    obtain ⟨a, fd, ps, k0, k1, _⟩ := hy.fn n x mf.1 mf.2 h1 (by rw [hf])
    simp only [List.map_cons, tCs]
    rw [k0]
    exact pa_cons (pe_glob (kindIs_iff h2) k1 rfl (plainN_iff h3).1) (names_pa hy h4 fun m hm => hg m (List.mem_cons_of_mem _ hm)) rfl
  | [], _ :: _, h, _ => by cases h
  | e :: _, [], h, _ => by cases e <;> cases h
theorem allNames_fn : ∀ {es : List Expr} {fs : List Nat} {sc : Scope}, allNames c sc es fs = true → ∀ n ∈ fs, ∃ x, c.fn n = some x
  | [], [], _, _, n, hn => by cases hn
  | e :: es, m :: ns, _, h, n, hn => by
    cases e <;> first | (cases h; done) | skip
    simp only [allNames, Bool.and_eq_true, decide_eq_true_eq] at h
    rcases List.mem_cons.mp hn with z | z
    · rw [z]
      exact ⟨_, h.1.1.1⟩
    · exact allNames_fn h.2 n z
  | [], _ :: _, _, h, _, _ => by cases h
  | e :: _, [], _, h, _, _ => by cases e <;> cases h
theorem ke_sel {fs : List Nat} {ix : E} {as : List A} (kx : KE c cls G gv L ix) (kas : KAs c cls G gv L as) : KE c cls G gv L (.sel fs ix as) := by
  intro X E0 e hy h
  simp only [ckE] at h
  split at h
  · rename_i x es he
    simp only [Bool.and_eq_true] at h
    have h0 := kx X E0 x hy h.1
    have h1 := kas X E0 es hy h.2
    simp only [tE]
    unfold selPart at he
    split at he
    · rename_i ns p1 ix' p2 a r p3
      split at he
      · rename_i hb
        obtain ⟨b1, b2⟩ := hb
        have ee := Option.some.inj he
        injection ee with e1 e2
        subst e1 e2
        obtain ⟨as', hs, hn⟩ := h1.tail
        have hall : ∀ n ∈ fs, (G.fn n).isSome = true := fun n hn => by
          obtain ⟨nm, hc⟩ := allNames_fn b1 n hn
          exact hy.fnS n nm hc
        · refine ⟨fun pins s σ H Q I q => ?_⟩
          have hix : PE X (.Subscript (.List ns p1) ix' p2) (tOp (rIx X.K) (tLst (tCs (fs.map gv.fa))) (tE X.K cls G gv E0 ix)) := pe_ix ix_seq (pe_lst (names_pa hy b1 hall)) h0 (plainIx_of b2)
          refine Call_ (thn (hix.run pins s σ H _ I q) fun u s1 ⟨y, H1, I1, ry, n, ms, fn, hn1, ey, hf, q1⟩ => ?_) rfl
          obtain ⟨nm, hc⟩ := allNames_fn b1 n hn1
          obtain ⟨ad, fd, ps, k0, k1, k2, k3, k4⟩ := hy.fn n nm ms fn hc hf
          rw [k0] at ey
          subst ey
          cases ry
          refine PySem.W.callWith_K (h₀ := X.base) I1.ok.mod.kin k2 (thn (h1.pa.run p3 pins s1 σ H1 _ I1 q1) fun us s2 ⟨vs, H2, I2, r2, q2⟩ => ⟨I2.kIn, ?_⟩) (star_ne hn) (stars_no hs)
          exact run_fn k4 hy.room k3 .nil hy.pass I2 r2 q2
      · cases he
    · cases he
  · cases h
theorem kt_call {n : Nat} {as : List A} (ka : KAs c cls G gv L as) : KT c cls G gv L (.call n as) := by
  intro X E0 e hy _ h
  simp only [ckE] at h
  split at h
  · rename_i es he
    obtain ⟨h1, h2⟩ := call_pe hy he (ka X E0 es hy h)
    rw [tt_call]
    exact pt_val h1 h2
  · cases h
/-- a comprehension's parts -/
theorem lc_parts {elt : E} {tg : List Nat} {one : Bool} {it : It} {cond : Option E} (kelt : KE c cls G gv L elt) (kit : KI c cls G gv L it) (ko : KO c cls G gv L cond) (oc : ∀ x, cond = some x → okT x = true) {X : Cx} {E0 : XK} {e : Expr}
    (hy : HyE X c cls G gv L E0) (h : ckE c X.env.scope e (.lc elt tg one it cond) = true) : ∃ (x t i : Expr) (ifs : List Expr) (scope : Scope) (pos : Pos) (own : List (Str × Nat)), e = .ListComp x [⟨t, i, ifs, 0⟩] scope pos ∧ own.map (·.2) = tg ∧
      PI X t i (tI X.K cls G gv E0 it) ∧ BlkOk X.N X.env.scope scope own ∧ (∀ (s : Shared) (H : Hp) (C : Addr) (cl : List (Str × Addr)) (fp : List Addr), PG (X.blk s H scope (compEnvC scope cl C X.env) fp) t (tTg X.K tg one)) ∧
      (∀ (s : Shared) (H : Hp) (C : Addr) (cl : List (Str × Addr)) (fp : List Addr), PTs (X.blk s H scope (compEnvC scope cl C X.env) fp) ifs (tO X.K cls G gv cond)) ∧
      (∀ (s : Shared) (H : Hp) (C : Addr) (cl : List (Str × Addr)) (fp : List Addr), PE (X.blk s H scope (compEnvC scope cl C X.env) fp) x (tE X.K cls G gv E0F elt)) ∧ (∀ y, foldedSetIterable i X.env y = pure y) := by
  simp only [ckE] at h
  split at h
  · rename_i p he
    split at h
    · rename_i own ho
      simp only [Bool.and_eq_true] at h
      obtain ⟨⟨⟨⟨⟨h1, h2⟩, h3⟩, h4⟩, h5⟩, h6⟩ := h
      unfold lcPart at he
      split at he
      · rename_i elt' tg' iter' ifs' scope' pos'
        cases he
        have hb : BlkOk X.N X.env.scope scope' own := by rw [hy.N]; exact blkOk_by h1
        refine ⟨_, _, _, _, _, _, own, rfl, tgOwn_slots ho, kit X E0 _ _ hy h4, hb, fun s H C cl fp => ?_, fun s H C cl fp => ?_, fun s H C cl fp => ?_, notSet_fold h6⟩
        · exact pg_ok (X := X.blk s H scope' (compEnvC scope' cl C X.env) fp) ho ⟨hy.nd, hy.calm, fun p hp => ⟨hb.ix p hp, .inl (allLocal_iff h2 p hp), .inr (allLocal_iff h2 p hp)⟩⟩
        · exact ko (X.blk s H scope' (compEnvC scope' cl C X.env) fp) _ (hy.blk s H _ _ fp) oc h5
        · exact kelt (X.blk s H scope' (compEnvC scope' cl C X.env) fp) E0F _ (hy.blk s H _ _ fp) h3
      · cases he
    · cases h
  · cases h
theorem ke_lc {elt : E} {tg : List Nat} {one : Bool} {it : It} {cond : Option E} (kelt : KE c cls G gv L elt) (kit : KI c cls G gv L it) (ko : KO c cls G gv L cond) (oc : ∀ x, cond = some x → okT x = true) : KE c cls G gv L (.lc elt tg one it cond) := by
  intro X E0 e hy h
  obtain ⟨x, t, i, ifs, scope, pos, own, rfl, h0, h1, h2, h3, h4, h5, h6⟩ := lc_parts kelt kit ko oc hy h
  simp only [tE]
  rw [← h0]
  rw [← h0] at h3
  exact pe_lc hy.calm hy.nd h1 h2 h3 h4 h5 h6
theorem ka_imm {x : E} (kx : KE c cls G gv L x) : KA c cls G gv L (.imm x) := fun X E0 e hy h => by
  simp only [ckA] at h
  simp only [tA]
  exact kx X E0 e hy h
theorem ka_own {i : Nat} : KA c cls G gv L (.own i) := fun X E0 e hy h => by
  simp only [ckA] at h
  simp only [tA]
  exact name_pe hy.N h
theorem kas_nil : KAs c cls G gv L [] := fun X E0 es hy h => by
  simp only [ckAs] at h
  cases es with
  | nil => exact .nil
  | cons _ _ => cases h
theorem kas_cons {a : A} {as : List A} (k : KA c cls G gv L a) (ks : KAs c cls G gv L as) : KAs c cls G gv L (a :: as) := fun X E0 es hy h => by
  simp only [ckAs] at h
  cases es with
  | nil => cases h
  | cons e es =>
    simp only [Bool.and_eq_true] at h
    exact .cons (k X E0 e hy h.1.2) h.1.1 (ks X E0 es hy h.2)
theorem one_star {e : Expr} {env : Env} (h : notStar e = true) : starEach [e] env = [(false, eval e env)] := star_ne h
theorem ki_seq {a : A} (k : KA c cls G gv L a) : KI c cls G gv L (.seq a) := fun X E0 tg e hy h => by
  simp only [ckI, itParts] at h
  split at h
  · rename_i x hx
    split at hx
    · cases hx
      simp only [tI]
      exact pi_seq (k X E0 e hy h)
    · cases hx
  · cases h
theorem ki_rng {a : A} (k : KA c cls G gv L a) : KI c cls G gv L (.rng a) := fun X E0 tg e hy h => by
  simp only [ckI, itParts] at h
  split at h
  · rename_i x hx
    simp only [Bool.and_eq_true] at h
    split at hx
    · split at hx
      · rename_i hb
        cases hx
        obtain ⟨rfl, b2⟩ := hb
        simp only [tI]
        exact pi_range1 (kindIs_iff b2) (hy.bi _ (by decide +kernel)) (pa_cons (k X E0 _ hy h.2) pa_nil (star_ne h.1)) (one_star h.1)
      · cases hx
    · cases hx
  · cases h
theorem ki_rng2 {a b : A} (k : KA c cls G gv L a) (k2 : KA c cls G gv L b) : KI c cls G gv L (.rng2 a b) := fun X E0 tg e hy h => by
  simp only [ckI, itParts] at h
  split at h
  · rename_i x y hx
    simp only [Bool.and_eq_true] at h
    split at hx
    · split at hx
      · rename_i hb
        cases hx
        obtain ⟨rfl, b2⟩ := hb
        simp only [tI]
        exact pi_range2 (kindIs_iff b2) (hy.bi _ (by decide +kernel)) (pa_cons (k X E0 _ hy h.1.2) (pa_cons (k2 X E0 _ hy h.2) pa_nil (star_ne h.1.1.2)) (star_ne h.1.1.1)) (by rw [star_ne h.1.1.1, star_ne h.1.1.2]; rfl) (one_star h.1.1.2)
      · cases hx
    · cases hx
  · cases h
theorem ki_zip {a b : A} (k : KA c cls G gv L a) (k2 : KA c cls G gv L b) : KI c cls G gv L (.zip a b) := fun X E0 tg e hy h => by
  simp only [ckI, itParts] at h
  split at h
  · rename_i x y hx
    simp only [Bool.and_eq_true] at h
    split at hx
    · split at hx
      · rename_i hb
        cases hx
        obtain ⟨rfl, b2⟩ := hb
        simp only [tI]
        exact pi_zipQ (kindIs_iff b2) (hy.bi _ (by decide +kernel)) (pa_cons (k X E0 _ hy h.1.2) (pa_cons (k2 X E0 _ hy h.2) pa_nil (star_ne h.1.1.2)) (star_ne h.1.1.1)) (star_ne h.1.1.1) (by rw [star_ne h.1.1.2]; rfl)
      · cases hx
    · cases hx
  · cases h
theorem ki_enum {a : A} (k : KA c cls G gv L a) : KI c cls G gv L (.enum a) := fun X E0 tg e hy h => by
  simp only [ckI, itParts] at h
  split at h
  · rename_i x hx
    simp only [Bool.and_eq_true] at h
    split at hx
    · split at hx
      · rename_i hb
        cases hx
        obtain ⟨rfl, b2, b3⟩ := hb
        simp only [tI]
        cases tg <;> first | (cases b3; done) | skip
        exact pi_enum (kindIs_iff b2) (hy.bi _ (by decide +kernel)) (pa_cons (k X E0 _ hy h.2) pa_nil (star_ne h.1)) (one_star h.1)
      · cases hx
    · cases hx
  · cases h
theorem ki_dk {i : Nat} : KI c cls G gv L (.dk i) := fun X E0 tg e hy h => by
  simp only [ckI] at h
  simp only [tI]
  exact pi_keys (name_pe hy.N h)
theorem ko_none : KO c cls G gv L none := fun X ifs hy o h => by
  simp only [ckO] at h
  cases ifs with
  | nil => exact pts_nil
  | cons _ _ => cases h
theorem ko_some {x : E} (k : KT c cls G gv L x) : KO c cls G gv L (some x) := fun X ifs hy o h => by
  simp only [ckO] at h
  split at h
  · simp only [tO]
    exact pts_one (k X E0F _ hy (o x rfl) h)
  · cases h
end
end Nv

set_option Elab.async false
set_option linter.all false
set_option maxRecDepth 100000
/-! Nv14: the check is sound: statements. -/
namespace Nv
open PySem PySem.Spec PyProof.Rows L2

section
variable {c : Cc} {cls : Nat → Value} {G : Gam} {gv : Gv} {L : Nat}
theorem ke_var {i : Nat} : KE c cls G gv L (.var i) := fun X E0 e hy h => by
  simp only [ckE] at h
  simp only [tE]
  exact name_pe hy.N h
theorem ke_callF {n : Nat} {as : List A} (ka : KAs c cls G gv L as) : KE c cls G gv L (.callF n as) := fun X E0 e hy h => by
  have h2 : ckE c X.env.scope e (.call n as) = true := by
    simp only [ckE] at h ⊢
    exact h
  have q := ke_call ka X E0 e hy h2
  simp only [tE] at q ⊢
  exact q
theorem ki_ownI {en : Bool} {i : Nat} : KI c cls G gv L (ownI en i) := by
  cases en with
  | true => exact ki_enum ka_own
  | false => exact ki_seq ka_own
theorem tI_own {K : PySem.W.Frag} {E0 : XK} {en : Bool} {i : Nat} : tI K cls G gv E0 (ownI en i) = (if en then iEnum K (tCons (tVar i) tNil) else iSeq K (tVar i)) := by
  cases en <;> simp [ownI, tI, tA]
theorem ke_lcO {elt : E} {tg : List Nat} {one en : Bool} {i : Nat} {cond : Option E} (kelt : KE c cls G gv L elt) (ko : KO c cls G gv L cond) (oc : ∀ x, cond = some x → okT x = true) : KE c cls G gv L (.lcO elt tg one en i cond) := fun X E0 e hy h => by
  have h2 : ckE c X.env.scope e (.lc elt tg one (ownI en i) cond) = true := by
    cases en <;> simpa [ckE, ckI, ckA, ownI, ckOwnI] using h
  have q := ke_lc kelt ki_ownI ko oc X E0 e hy h2
  simp only [tE, tI_own] at q ⊢
  exact q
theorem ke_vals {i t : Nat} : KE c cls G gv L (.vals i t) := fun X E0 e hy h => by
  have h2 : ckE c X.env.scope e (.lc (.dget (.own i) (.var t)) [t] true (.dk i) none) = true := by
    simp only [ckE, ckI, ckO, ckA] at h ⊢
    exact h
  have q := ke_lc (ke_dget ka_own ke_var) ki_dk ko_none (fun _ h => nomatch h) X E0 e hy h2
  simp only [tE, tI, tA, tO] at q ⊢
  exact pe_lock q
end
section
variable {c : Cc} {cls : Nat → Value} {G : Gam} {gv : Gv} {L : Nat}
mutual
theorem ke_ok : ∀ x : E, wfE x = true → KE c cls G gv L x
  | .var i, _ => fun X E0 e hy h => by
    simp only [ckE] at h
    simp only [tE]
    exact name_pe hy.N h
  | .move i, _ => fun X E0 e hy h => by
    simp only [ckE] at h
    simp only [tE]
    exact name_pe hy.N h
  | .cst d, _ => fun X E0 e hy h => by
    simp only [ckE] at h
    exact cst_pe h
  | .glob n, _ => fun X E0 e hy h => by
    simp only [ckE] at h
    simp only [tE]
    exact glob_pe hy h
  | .op k as, w => ke_op (kas_ok as (by simpa [wfE] using w))
  | .and a b, w => by
    simp only [wfE, Bool.and_eq_true] at w
    exact ke_and (ke_ok a w.1) (ke_ok b w.2)
  | .orT a b, w => by
    simp only [wfE, Bool.and_eq_true] at w
    exact ke_orT (ke_ok a w.1) (ke_ok b w.2)
  | .or a b, w => by
    simp only [wfE, Bool.and_eq_true] at w
    exact ke_or (ke_ok a w.1) (ke_ok b w.2)
  | .not a, w => ke_not (ke_ok a (by simpa [wfE] using w))
  | .ite z a b, w => by
    simp only [wfE, Bool.and_eq_true] at w
    exact ke_ite w.1.1.1 (kt_ok z w.1.1.2) (ke_ok a w.1.2) (ke_ok b w.2)
  | .leLe a b d, w => by
    simp only [wfE, Bool.and_eq_true] at w
    exact ke_le (ke_ok a w.1.1) (ke_ok b w.1.2) (ke_ok d w.2)
  | .tup as, w => ke_tup (kas_ok as (by simpa [wfE] using w))
  | .lst as, w => ke_lst (kas_ok as (by simpa [wfE] using w))
  | .call f as, w => ke_call (kas_ok as (by simpa [wfE] using w))
  | .sel fs ix as, w => by
    simp only [wfE, Bool.and_eq_true] at w
    exact ke_sel (ke_ok ix w.1.2) (kas_ok as w.2)
  | .pop i e, w => ke_pop (ke_ok e (by simpa [wfE] using w))
  | .slB a x y, w => by
    simp only [wfE, Bool.and_eq_true] at w
    exact ke_slB (ka_ok a w.1.1) (ke_ok x w.1.2) (ke_ok y w.2)
  | .mth k a as, w => by
    simp only [wfE, Bool.and_eq_true] at w
    exact ke_mth (ka_ok a w.1) (kas_ok as w.2)
  | .dget a k, w => by
    simp only [wfE, Bool.and_eq_true] at w
    exact ke_dget (ka_ok a w.1) (ke_ok k w.2)
  | .din neg k a, w => by
    simp only [wfE, Bool.and_eq_true] at w
    exact ke_din (ke_ok k w.1) (ka_ok a w.2)
  | .callN t n as, w => ke_callN (kas_ok as (by simpa [wfE] using w))
  | .callF n as, w => ke_callF (kas_ok as (by simpa [wfE] using w))
  | .lcO elt tg one en i none, w => by
    simp only [wfE, Bool.and_eq_true] at w
    exact ke_lcO (ke_ok elt w.1) ko_none (fun _ h => nomatch h)
  | .lcO elt tg one en i (some x), w => by
    simp only [wfE, wfO, Bool.and_eq_true] at w
    exact ke_lcO (ke_ok elt w.1) (ko_some (kt_ok x w.2.2)) (fun _ h => by cases h; exact w.2.1)
  | .vals i t, _ => ke_vals
  | .lc elt tg one it none, w => by
    simp only [wfE, Bool.and_eq_true] at w
    exact ke_lc (ke_ok elt w.1.1) (ki_ok it w.1.2) ko_none (fun _ h => nomatch h)
  | .lc elt tg one it (some x), w => by
    simp only [wfE, wfO, Bool.and_eq_true] at w
    exact ke_lc (ke_ok elt w.1.1) (ki_ok it w.1.2) (ko_some (kt_ok x w.2.2)) (fun _ h => by cases h; exact w.2.1)
theorem kt_ok : ∀ x : E, wfE x = true → KT c cls G gv L x
  | .var i, _ => fun X E0 e hy _ h => by
    simp only [ckE] at h
    simp only [tT]
    have h1 := name_pe hy.N h
    unfold ckName at h
    split at h
    · exact pt_val h1
    · cases h
  | .op k as, w => kt_op (kas_ok as (by simpa [wfE] using w))
  | .and a b, w => by
    simp only [wfE, Bool.and_eq_true] at w
    exact kt_and (kt_ok a w.1) (kt_ok b w.2)
  | .or a b, w => by
    simp only [wfE, Bool.and_eq_true] at w
    exact kt_or (kt_ok a w.1) (kt_ok b w.2)
  | .not a, w => kt_not (kt_ok a (by simpa [wfE] using w))
  | .leLe a b d, w => by
    simp only [wfE, Bool.and_eq_true] at w
    exact kt_le (ke_ok a w.1.1) (ke_ok b w.1.2) (ke_ok d w.2)
  | .call f as, w => kt_call (kas_ok as (by simpa [wfE] using w))
  | .move i, _ => fun X E0 e hy o h => by simp [okT] at o
  | .cst i, _ => fun X E0 e hy o h => by simp [okT] at o
  | .glob i, _ => fun X E0 e hy o h => by simp [okT] at o
  | .ite _ _ _, _ => fun X E0 e hy o h => by simp [okT] at o
  | .tup _, _ => fun X E0 e hy o h => by simp [okT] at o
  | .lst _, _ => fun X E0 e hy o h => by simp [okT] at o
  | .lc _ _ _ _ _, _ => fun X E0 e hy o h => by simp [okT] at o
  | .sel _ _ _, _ => fun X E0 e hy o h => by simp [okT] at o
  | .pop _ _, _ => fun X E0 e hy o h => by simp [okT] at o
  | .slB _ _ _, _ => fun X E0 e hy o h => by simp [okT] at o
  | .mth _ _ _, _ => fun X E0 e hy o h => by simp [okT] at o
  | .dget _ _, _ => fun X E0 e hy o h => by simp [okT] at o
  | .callN _ _ _, _ => fun X E0 e hy o h => by simp [okT] at o
  | .callF _ _, _ => fun X E0 e hy o h => by simp [okT] at o
  | .orT _ _, _ => fun X E0 e hy o h => by simp [okT] at o
  | .lcO _ _ _ _ _ _, _ => fun X E0 e hy o h => by simp [okT] at o
  | .vals _ _, _ => fun X E0 e hy o h => by simp [okT] at o
  | .din neg k a, w => by
    simp only [wfE, Bool.and_eq_true] at w
    exact kt_din (ke_ok k w.1) (ka_ok a w.2)
theorem ka_ok : ∀ a : A, wfA a = true → KA c cls G gv L a
  | .imm e, w => ka_imm (ke_ok e (by simpa [wfA] using w))
  | .own i, _ => ka_own
theorem kas_ok : ∀ as : List A, wfAs as = true → KAs c cls G gv L as
  | [], _ => kas_nil
  | a :: as, w => by
    simp only [wfAs, Bool.and_eq_true] at w
    exact kas_cons (ka_ok a w.1) (kas_ok as w.2)
theorem ki_ok : ∀ it : It, wfI it = true → KI c cls G gv L it
  | .seq (.imm e), w => ki_seq (ka_imm (ke_ok e (by simpa [wfI] using w)))
  | .seq (.own i), w => by simp [wfI] at w
  | .rng a, w => ki_rng (ka_ok a (by simpa [wfI] using w))
  | .rng2 a b, w => by
    simp only [wfI, Bool.and_eq_true] at w
    exact ki_rng2 (ka_ok a w.1) (ka_ok b w.2)
  | .zip (.imm a) (.imm b), w => by
    simp only [wfI, Bool.and_eq_true] at w
    exact ki_zip (ka_imm (ke_ok a w.1)) (ka_imm (ke_ok b w.2))
  | .zip (.own _) _, w => by simp [wfI] at w
  | .zip (.imm _) (.own _), w => by simp [wfI] at w
  | .enum (.imm a), w => ki_enum (ka_imm (ke_ok a (by simpa [wfI] using w)))
  | .enum (.own _), w => by simp [wfI] at w
  | .dk _, w => by simp [wfI] at w
end
end

/-! ### statements -/
/-- is a comprehension stored by the one frame -/
def swapB (sc : Scope) (e : Expr) (x : Str) (p : Pos) : Bool := match e with
  | .ListComp _ _ scope pos => sc.names.lookup x == some .local && p.line == pos.line && !(scope.names.any fun (n, k) => n == x && (k == .local || k == .cell))
  | _ => false
def plainV : Expr → Bool
  | .SetComp .. => false
  | .DictComp .. => false
  | _ => true
def notTup : Expr → Bool
  | .Tuple .. => false
  | _ => true
def notLc : Expr → Bool
  | .ListComp .. => false
  | .SetComp .. => false
  | .DictComp .. => false
  | _ => true
def locN (c : Cc) (sc : Scope) (x : Str) (i : Nat) : Bool := decide (c.N[i]? = some x) && locB sc x
def asgPart (c : Cc) (sc : Scope) (st : Stmt) (i : Nat) : Option Expr := match st with
  | .Assign [.Name x _] e _ => if locN c sc x i && plainV e then some e else none
  | _ => none
def allLoc (c : Cc) (sc : Scope) (own : List (Str × Nat)) : Bool := own.all fun p => locN c sc p.1 p.2
def unpPart (c : Cc) (sc : Scope) (st : Stmt) (is : List Nat) : Option Expr := match st with
  | .Assign [.Tuple es _ _] e _ => (match tgNames es is with
    | some own => if allLoc c sc own && notTup e then some e else none
    | none => none)
  | _ => none
def parPart (c : Cc) (sc : Scope) (st : Stmt) (i j : Nat) : Option (Expr × Expr) := match st with
  | .Assign [.Tuple [.Name x px, .Name y py] _ _] (.Tuple [a, b] _ _) _ =>
    if decide (c.N[i]? = some x) && decide (c.N[j]? = some y) && decide (i ≠ j) && kindIs sc x .local && kindIs sc y .local && decide (px.line = py.line) && decide (x ≠ y) && notStar a && notStar b
      && !([a, b].all (foldedForSure 8)) && !([a, b].all (constantsAlone 8)) then some (a, b) else none
  | _ => none
/-- x.m(e) -/
def methPart (c : Cc) (sc : Scope) (st : Stmt) (i : Nat) (m : Str) : Option Expr := match st with
  | .Expr (.Call (.Attribute o n ap) [e] [] cp) _ => if decide (n = m) && ckName c sc o i && decide (ap.endLine = cp.line) && notStar e then some e else none
  | _ => none
def setPart (c : Cc) (sc : Scope) (st : Stmt) (i : Nat) : Option (Expr × Expr) := match st with
  | .Assign [.Subscript o k _] e _ => if ckName c sc o i && plainIxB k then some (k, e) else none
  | _ => none
/-- x = {} -/
def newPart (c : Cc) (sc : Scope) (st : Stmt) (i : Nat) : Bool := match st with
  | .Assign [.Name x _] (.Dict [] [] _) _ => locN c sc x i
  | _ => false
/-- x[k] = e, a dict -/
def setDPart (c : Cc) (sc : Scope) (st : Stmt) (i : Nat) : Option (Expr × Expr) := match st with
  | .Assign [.Subscript o k _] e _ => if ckName c sc o i && notLc e then some (k, e) else none
  | _ => none
/-- x = dict(e) -/
def asgDPart (c : Cc) (sc : Scope) (st : Stmt) (i : Nat) : Option Expr := match st with
  | .Assign [.Name x _] (.Call (.Name f _) [a] [] _) _ => if locN c sc x i && decide (f = ("dict" : Str)) && glB sc "dict" && notStar a then some a else none
  | _ => none
def dropPart (st : Stmt) : Option Expr := match st with
  | .Expr e _ => if notLc e then some e else none
  | _ => none
def ifPart (st : Stmt) : Option (Expr × List Stmt × List Stmt) := match st with
  | .If t a b _ => some (t, a, b)
  | _ => none
structure ForP where
  tg : Expr
  iter : Expr
  body : List Stmt
  own : List (Str × Nat)
def forPart (c : Cc) (sc : Scope) (st : Stmt) (tg : List Nat) (one : Bool) : Option ForP := match st with
  | .For t i body [] _ => (match tgOwn t tg one with
    | some own => if allLoc c sc own && notSetE i then some ⟨t, i, body, own⟩ else none
    | none => (match tgOwnN t tg one with
      | some own => if allLoc c sc own && notSetE i then some ⟨t, i, body, own⟩ else none
      | none => none))
  | _ => none
/-- no list of a dict's values -/
def nvE : E → Bool
  | .vals _ _ => false
  | .lcO _ _ _ _ _ _ => false
  | _ => true
/-- for t in it: x.setdefault(k, []).append(t) -/
def grpPart (c : Cc) (sc : Scope) (st : Stmt) (t i : Nat) : Option (Expr × Expr × Expr × List (Str × Nat)) := match st with
  | .For tg it [.Expr (.Call (.Attribute (.Call (.Attribute o n ap) [k, .List [] _] [] cp) n2 ap2) [v] [] cp2) _] [] _ => (match tgOwn tg [t] true with
    | some own => if n = ("setdefault" : Str) ∧ n2 = ("append" : Str) ∧ ckName c sc o i = true ∧ ckName c sc v t = true ∧ ap.endLine = cp.line ∧ ap2.endLine = cp2.line ∧ notStar k = true ∧ allLoc c sc own = true ∧ notSetE it = true then some (tg, it, k, own) else none
    | none => none)
  | _ => none
def whilePart (st : Stmt) : Option (Expr × List Stmt) := match st with
  | .While t body [] _ => some (t, body)
  | _ => none
def retPart (st : Stmt) : Option Expr := match st with
  | .Return (some e) _ => some e
  | _ => none
def raiseOk (c : Cc) (sc : Scope) (st : Stmt) (n : Nat) : Bool := match st with
  | .Raise (some (.Call (.Name x _) [.Constant (.str _) _ _] [] _)) none _ => decide (c.ex n = some x) && glB sc x && plainN x
  | _ => false
/-- try: .. except C as n: return w(n) -/
def tryPart (c : Cc) (sc : Scope) (st : Stmt) (i : Nat) : Option (List Stmt) := match st with
  | .Try body [.ExceptHandler (some (.Name x _)) (some n) [.Return (some (.Call (.Name wn _) [.Name n2 _] [] _)) _] _] [] [] _ =>
    if c.wh = some (x, wn) ∧ c.N[i]? = some n ∧ n2 = n ∧ kindIs sc n .local = true ∧ plainN n = true ∧ glB sc x = true ∧ plainN x = true ∧ glB sc wn = true ∧ plainN wn = true then some body else none
  | _ => none
mutual
def ckS (c : Cc) (sc : Scope) (st : Stmt) : S → Bool
  | .asg i e => nvE e && (match asgPart c sc st i with
    | some x => ckE c sc x e
    | none => false)
  | .asgM i e => nvE e && (match asgPart c sc st i with
    | some x => ckE c sc x e
    | none => false)
  | .unp is e => (match unpPart c sc st is with
    | some x => ckE c sc x e
    | none => false)
  | .unpF i j f as => (match unpPart c sc st [i, j] with
    | some x => ckE c sc x (.call f as)
    | none => false)
  | .par i j a b => (match parPart c sc st i j with
    | some (x, y) => ckE c sc x a && ckE c sc y b
    | none => false)
  | .app i e => (match methPart c sc st i "append" with
    | some x => ckE c sc x e
    | none => false)
  | .ext i e => (match methPart c sc st i "extend" with
    | some x => ckE c sc x e
    | none => false)
  | .setI i k e => (match setPart c sc st i with
    | some (x, y) => ckE c sc x k && ckE c sc y e
    | none => false)
  | .newD i _ => newPart c sc st i
  | .setD i k e => (match setDPart c sc st i with
    | some (x, y) => ckE c sc x k && ckE c sc y e
    | none => false)
  | .asgD i e => (match asgDPart c sc st i with
    | some x => ckE c sc x e
    | none => false)
  | .drop e => (match dropPart st with
    | some x => ckE c sc x e
    | none => false)
  | .ite z a b => (match ifPart st with
    | some (t, x, y) => ckE c sc t z && ckSs c sc x a && ckSs c sc y b
    | none => false)
  | .for_ tg one it _ body => (match forPart c sc st tg one with
    | some p => ckI c sc p.tg p.iter it && ckSs c sc p.body body
    | none => false)
  | .while_ _ z _ body => (match whilePart st with
    | some (t, x) => ckE c sc t z && ckSs c sc x body
    | none => false)
  | .forO tg one en i _ body => (match forPart c sc st tg one with
    | some p => ckI c sc p.tg p.iter (ownI en i) && ckSs c sc p.body body
    | none => false)
  | .grp t it i k => (match grpPart c sc st t i with
    | some (tg, x, y, _) => ckI c sc tg x it && ckE c sc y k
    | none => false)
  | .ret e => (match retPart st with
    | some x => ckE c sc x e
    | none => false)
  | .raise n => raiseOk c sc st n
  | .tryO i body => (match tryPart c sc st i with
    | some x => ckSs c sc x body
    | none => false)
  | .junk => true
  | .brk => (match st with
    | .Break _ => true
    | _ => false)
  | .cnt => (match st with
    | .Continue _ => true
    | _ => false)
  | .pass => (match st with
    | .Pass _ => true
    | _ => false)
def ckSs (c : Cc) (sc : Scope) (sts : List Stmt) : List S → Bool
  | [] => sts.isEmpty
  | s :: ss => (match sts with
    | st :: sts => ckS c sc st s && ckSs c sc sts ss
    | [] => false)
end
structure HyS (X : Cx) (c : Cc) (cls : Nat → Value) (G : Gam) (gv : Gv) (L : Nat) (E0 : XK) : Prop where
  e : HyE X c cls G gv L E0
  kind : X.env.scope.kind = .function
  fn : ∀ x, X.fn x = true
  own : PassesOwn (model X.prog X.w) X.A X.env X.xe
  takes : L2N.Takes X (fun cls d _ H => E0 cls d H)
  stack : X.stack = X.env :: X.outer
  frame : X.env.frame = some X.env.locals
  wh : ∀ x wn, c.wh = some (x, wn) → (∃ OE, X.mg x = some OE ∧ ∀ n dd, G.wh n = some dd → PySem.W.exmOne X.K (cls n) OE = some true) ∧ ∃ (f : Addr) (fd : FuncData) (p : Str), X.mg wn = some (.ref f) ∧ PySem.W.keepIn X.K (.ref f) = true ∧ Binds X.K fd [p] [] ∧ FnW X.prog X.w X.K X.mg X.base L f fd p (fun cl dd => ∃ n, cl = cls n ∧ G.wh n = some dd)
  ex : ∀ n x, c.ex n = some x → ∃ C, cls n = .ref C ∧ X.mg x = some (.ref C) ∧ PySem.W.keepIn X.K (.ref C) = true ∧ PySem.W.excIn X.K C [.type "ValueError", .type "Exception", .type "BaseException", .type "object"] "ValueError.__new__" = true ∧ Raises X (.ref C)

section
variable (c : Cc) (cls : Nat → Value) (G : Gam) (gv : Gv) (L : Nat)
def KS (s : S) : Prop := ∀ (X : Cx) (E0 : XK) (st : Stmt), HyS X c cls G gv L E0 → ckS c X.env.scope st s = true → PS X st (tS X.K cls G gv E0 s)
def KSs (ss : List S) : Prop := ∀ (X : Cx) (E0 : XK) (sts : List Stmt), HyS X c cls G gv L E0 → ckSs c X.env.scope sts ss = true → PSs X sts (tSs X.K cls G gv E0 ss)
end
section
variable {c : Cc} {cls : Nat → Value} {G : Gam} {gv : Gv} {L : Nat} {X : Cx} {E0 : XK}
theorem locB_iff {sc : Scope} {x : Str} (h : locB sc x = true) : L2.Loc sc x := by
  unfold locB at h
  simp only [Bool.or_eq_true] at h
  rcases h with h | h
  · exact .inl (kindIs_iff h)
  · exact .inr (kindIs_iff h)
theorem locN_iff (hN : X.N = c.N) {sc : Scope} {x : Str} {i : Nat} (h : locN c sc x i = true) : X.N[i]? = some x ∧ L2.Loc sc x := by
  unfold locN at h
  simp only [Bool.and_eq_true, decide_eq_true_eq] at h
  exact ⟨by rw [hN]; exact h.1, locB_iff h.2⟩
theorem block_fun {env : Env} (h : env.scope.kind = .function) : (env.blockKind == .function) = true := by
  unfold Env.blockKind
  rw [h]
  rfl
theorem sw_eq {elt : Expr} {gs : List Comprehension} {scope : Scope} {pos py : Pos} {y : Str} {l : Nat} {env : Env} (hk : env.scope.kind = .function) :
    swapsWith (.ListComp elt gs scope pos) (some (.Name y py)) l env = pure (swapB env.scope (.ListComp elt gs scope pos) y py) := by
  have e : swapsWith (.ListComp elt gs scope pos) (some (.Name y py)) l env = pure (env.blockKind == .function && env.kindOf y == some .local && py.line == pos.line && !(scope.names.any fun (n, k) => n == y && (k == .local || k == .cell))) := rfl
  rw [e, block_fun hk]
  rfl
theorem sw_plain {e : Expr} {t : Option Expr} {l : Nat} {env : Env} (h : notLc e = true) : swapsWith e t l env = pure false := by
  cases e <;> first | rfl | cases h
theorem sw_tup {e : Expr} {es : List Expr} {k l : Nat} {p : Pos} {env : Env} : swapsWithSole [.Tuple es k p] e l env = pure false := by
  cases e <;> rfl
theorem sw_sub {e a b : Expr} {l : Nat} {p : Pos} {env : Env} : swapsWithSole [.Subscript a b p] e l env = pure false := by
  cases e <;> rfl
theorem ks_asg0 {i : Nat} {e : E} (nv : nvE e = true) (w : wfE e = true) {st : Stmt} (hy : HyS X c cls G gv L E0) (h : (match asgPart c X.env.scope st i with
    | some x => ckE c X.env.scope x e
    | none => false) = true) : PS X st (tAsg (tE X.K cls G gv E0 e) (gName i)) := by
  split at h
  · rename_i x hx
    unfold asgPart at hx
    split at hx
    · rename_i y py e' ps
      split at hx
      · rename_i hb
        cases hx
        simp only [Bool.and_eq_true] at hb
        obtain ⟨h1, h2⟩ := locN_iff hy.e.N hb.1
        have hpe := ke_ok (c := c) e w X E0 x hy.e h
        cases hlc : notLc x with
        | true => exact ps_set hy.e.nd h1 h2 hpe (sw_plain hlc) (.inl (hy.fn y))
        | false =>
          cases x <;> first | (cases hlc; done) | (cases hb.2; done) | skip
          rename_i elt gs scope pos
          cases hsw : swapB X.env.scope (.ListComp elt gs scope pos) y py with
          | false => exact ps_set hy.e.nd h1 h2 hpe (by rw [sw_eq hy.kind, hsw]) (.inl (hy.fn y))
          | true =>
            have hyl : X.env.scope.names.lookup y = some .local := by
              unfold swapB at hsw
              simp only [Bool.and_eq_true] at hsw
              have := hsw.1.1
              cases hq : X.env.scope.names.lookup y with
              | none =>
                rw [hq] at this
                cases this
              | some k =>
                rw [hq] at this
                cases k <;> first | rfl | cases this
            have hsw' : swapsWith (.ListComp elt gs scope pos) (some (.Name y py)) ps.line X.env = pure true := by rw [sw_eq hy.kind, hsw]
            -- the comprehension's parts
            cases e <;> first | (cases nv; done) | (simp only [ckE, ckName, ckGlob, opParts, andParts, orParts, notPart, itePart, lePart, tupPart, lstPart, callPart] at h; cases h; done) | skip
            · rename_i elt' tg one it cond
              have w' : wfE elt' = true ∧ wfI it = true ∧ wfO cond = true := by
                simp only [wfE, Bool.and_eq_true] at w
                exact ⟨w.1.1, w.1.2, w.2⟩
              have ko : KO c cls G gv L cond := by
                cases cond with
                | none => exact ko_none
                | some x =>
                  simp only [wfO, Bool.and_eq_true] at w'
                  exact ko_some (kt_ok x w'.2.2.2)
              have oc : ∀ x, cond = some x → okT x = true := fun x hx => by
                subst hx
                simp only [wfO, Bool.and_eq_true] at w'
                exact w'.2.2.1
              obtain ⟨x', t', i', ifs', scope', pos', own, he, h0, k1, k2, k3, k4, k5, k6⟩ := lc_parts (ke_ok elt' w'.1) (ki_ok it w'.2.1) ko oc hy.e h
              cases he
              simp only [tE]
              rw [← h0]
              rw [← h0] at k3
              exact ps_setLc hy.e.calm hy.e.nd h1 hyl hsw' k1 k2 k3 k4 k5 k6
      · cases hx
    · cases hx
  · cases h
theorem allLoc_iff (hy : HyS X c cls G gv L E0) {own : List (Str × Nat)} (h : allLoc c X.env.scope own = true) : Stor X own := by
  refine ⟨hy.e.nd, hy.e.calm, fun p hp => ?_⟩
  obtain ⟨h1, h2⟩ := locN_iff hy.e.N (List.all_eq_true.mp h p hp)
  exact ⟨h1, h2, .inl (hy.fn p.1)⟩
theorem pg_either {es : List Expr} {is : List Nat} {own : List (Str × Nat)} {k : Nat} {p : Pos} (h : tgNames es is = some own) (s : Stor X own) : PG X (.Tuple es k p) (gEither X.K is.length (tTgs is)) := by
  obtain ⟨h1, h2, h3⟩ := pgs_ok h s
  refine ⟨fun pins s' σ H v u Q I r hw => ?_⟩
  rcases hw with hw | hw
  · exact (pg_tup s.calm h1 h2 h3).run pins s' σ H v u Q I r hw
  · exact (pg_lst s.calm h1 h2 h3).run pins s' σ H v u Q I r hw
theorem ks_unp {is : List Nat} {e : E} (w : wfE e = true) : KS c cls G gv L (.unp is e) := by
  intro X E0 st hy h
  simp only [ckS] at h
  simp only [tS]
  split at h
  · rename_i x hx
    unfold unpPart at hx
    split at hx
    · split at hx
      · rename_i own ho
        split at hx
        · rename_i hb
          cases hx
          simp only [Bool.and_eq_true] at hb
          refine ps_asg (ke_ok e w X E0 _ hy.e h) (pg_either ho (allLoc_iff hy hb.1)) sw_tup ?_ rfl
          have hn := hb.2
          cases x <;> first | rfl | cases hn
        · cases hx
      · cases hx
    · cases hx
  · cases h
theorem ks_unpF {i j f : Nat} {as : List A} (w : wfAs as = true) : KS c cls G gv L (.unpF i j f as) := by
  intro X E0 st hy h
  have q := ks_unp (c := c) (cls := cls) (G := G) (gv := gv) (L := L) (is := [i, j]) (e := .call f as) (by simpa [wfE] using w) X E0 st hy (by simpa [ckS] using h)
  simp only [tS, List.length_cons, List.length_nil] at q ⊢
  exact q
theorem ks_drop {e : E} (w : wfE e = true) : KS c cls G gv L (.drop e) := by
  intro X E0 st hy h
  simp only [ckS] at h
  simp only [tS]
  split at h
  · rename_i x hx
    unfold dropPart at hx
    split at hx
    · split at hx
      · rename_i hb
        cases hx
        exact ps_expr (ke_ok e w X E0 _ hy.e h) (sw_plain hb)
      · cases hx
    · cases hx
  · cases h
theorem ks_ret {e : E} (w : wfE e = true) : KS c cls G gv L (.ret e) := by
  intro X E0 st hy h
  simp only [ckS] at h
  simp only [tS]
  split at h
  · rename_i x hx
    unfold retPart at hx
    split at hx
    · cases hx
      exact ps_ret (ke_ok e w X E0 _ hy.e h)
    · cases hx
  · cases h
theorem meth_ps {i : Nat} {e : E} {m : Str} {id : String} {r : V → List V → Hp → VK → Prop} (w : wfE e = true) (hy : HyS X c cls G gv L E0) {st : Stmt} (slot : PySem.Slot "list" m id) (hty : typeOf (.builtin id) = pure (.type "method_descriptor")) (hm : MtR X id r)
    (h : (match methPart c X.env.scope st i m with
    | some x => ckE c X.env.scope x e
    | none => false) = true) : PS X st (tDrop (tBM X.K "list" r (tVar i) (tCons (tE X.K cls G gv E0 e) tNil))) := by
  split at h
  · rename_i x hx
    unfold methPart at hx
    split at hx
    · split at hx
      · rename_i hb
        cases hx
        simp only [Bool.and_eq_true, decide_eq_true_eq] at hb
        obtain ⟨⟨⟨b1, b2⟩, b3⟩, b4⟩ := hb
        subst b1
        have ho := name_pe hy.e.N b2
        unfold ckName at b2
        split at b2
        · refine ps_expr (pe_bm PySem.F.plainAttrs_list slot hty hm ho (pa_cons (ke_ok e w X E0 _ hy.e h) pa_nil (star_ne b4)) rfl ?_ (by simpa using b3) (star_ne b4) ?_) rfl
          · rw [star_ne b4]
            rfl
          · rfl
        · cases b2
      · cases hx
    · cases hx
  · cases h
theorem swapped_none {ts : List Expr} {e : Expr} {env : Env} (h : notTup e = true) : swappedStores ts e env = pure none := by
  cases e <;> first | (cases h; done) | (cases ts with
    | nil => rfl
    | cons t r => cases r with
      | nil => cases t <;> rfl
      | cons _ _ => cases t <;> rfl)
theorem swapped_sub {a b e : Expr} {p : Pos} {env : Env} : swappedStores [.Subscript a b p] e env = pure none := by
  cases e <;> rfl
theorem ks_setI {i : Nat} {k e : E} (wk : wfE k = true) (w : wfE e = true) : KS c cls G gv L (.setI i k e) := by
  intro X E0 st hy h
  simp only [ckS] at h
  simp only [tS]
  split at h
  · rename_i x y hx
    unfold setPart at hx
    split at hx
    · split at hx
      · rename_i hb
        cases hx
        simp only [Bool.and_eq_true] at hb h
        obtain ⟨b1, b2⟩ := hb
        refine ps_asg (ke_ok e w X E0 _ hy.e h.2) (pg_sub (name_pe hy.e.N b1) (ke_ok k wk X E0 _ hy.e h.1) set_list ?_) sw_sub swapped_sub rfl
        intro v
        cases x <;> first | rfl | cases b2
      · cases hx
    · cases hx
  · cases h
theorem ks_newD {i : Nat} {t : Bool} : KS c cls G gv L (.newD i t) := by
  intro X E0 st hy h
  simp only [ckS] at h
  simp only [tS]
  unfold newPart at h
  split at h
  · rename_i y py pd ps
    obtain ⟨h1, h2⟩ := locN_iff hy.e.N h
    have hpe : PE X (.Dict [] [] pd) (tDNew t) := by
      cases t with
      | true => exact pe_dnewT
      | false => exact pe_dnewK
    exact ps_set hy.e.nd h1 h2 hpe (sw_plain rfl) (.inl (hy.fn y))
  · cases h
theorem ks_asgD {i : Nat} {e : E} (w : wfE e = true) : KS c cls G gv L (.asgD i e) := by
  intro X E0 st hy h
  simp only [ckS] at h
  simp only [tS]
  split at h
  · rename_i x hx
    unfold asgDPart at hx
    split at hx
    · rename_i y py f pf aa pc ps
      split at hx
      · rename_i hb
        cases hx
        simp only [Bool.and_eq_true, decide_eq_true_eq] at hb
        obtain ⟨⟨⟨b1, b2⟩, b3⟩, b4⟩ := hb
        subst b2
        obtain ⟨h1, h2⟩ := locN_iff hy.e.N b1
        have hu := hy.e.room.un
        have e1 : starEach [x] X.env = (false, eval x X.env) :: starEach [] X.env := star_ne b4
        exact ps_set hy.e.nd h1 h2 (pe_callTy (call_dictT hy.e.calm (by omega)) (kindIs_iff b3) (hy.e.bi _ (by decide +kernel)) (by decide +kernel) (pa_cons (ke_ok e w X E0 _ hy.e h) pa_nil e1) (by decide +kernel) (by decide +kernel) e1 rfl) (sw_plain rfl) (.inl (hy.fn y))
      · cases hx
    · cases hx
  · cases h
theorem sw_subD {e a b : Expr} {l : Nat} {p : Pos} {env : Env} (h : notLc e = true) : swapsWith e (some (.Subscript a b p)) l env = pure false := by
  cases e <;> first | rfl | cases h
theorem ks_setD {i : Nat} {k e : E} (wk : wfE k = true) (w : wfE e = true) : KS c cls G gv L (.setD i k e) := by
  intro X E0 st hy h
  simp only [ckS] at h
  simp only [tS]
  split at h
  · rename_i x y hx
    unfold setDPart at hx
    split at hx
    · split at hx
      · rename_i hb
        cases hx
        simp only [Bool.and_eq_true] at hb h
        obtain ⟨b1, b3⟩ := hb
        exact ps_dput (by have := hy.e.room.un; omega) (name_pe hy.e.N b1) (ke_ok k wk X E0 _ hy.e h.1) (ke_ok e w X E0 _ hy.e h.2) (sw_subD b3)
      · cases hx
    · cases hx
  · cases h
theorem star_any (a : Expr) (h : notStar a = true) : (match a with | .Starred .. => true | _ => false) = false := by
  cases a <;> first | rfl | cases h
theorem swapped_par {x y : Str} {px py p p2 : Pos} {k k2 : Nat} {a b : Expr} {env : Env} (hk : env.scope.kind = .function) (hx : env.scope.names.lookup x = some .local) (hy : env.scope.names.lookup y = some .local) (hl : px.line = py.line) (hne : x ≠ y)
    (ha : notStar a = true) (hb : notStar b = true) (hf : ([a, b].all (foldedForSure 8)) = false) (hc : ([a, b].all (constantsAlone 8)) = false) :
    swappedStores [.Tuple [.Name x px, .Name y py] k p] (.Tuple [a, b] k2 p2) env = pure (some [x, y]) := by
  have kx : env.kindOf x = some .local := hx
  have ky : env.kindOf y = some .local := hy
  have hbk : env.blockKind = .function := by
    unfold Env.blockKind
    rw [hk]
    rfl
  have hne' : (y == x) = false := beq_eq_false_iff_ne.mpr (Ne.symm hne)
  have hed : ([x, y] : List Str).eraseDups = [x, y] := by
    simp [List.eraseDups_cons, hne']
  unfold swappedStores
  simp only [pure_bind]
  rw [if_neg (by simp [hbk])]
  rw [if_neg (by
    simp only [List.any_cons, List.any_nil, Bool.or_false, Bool.or_eq_true, not_or]
    exact ⟨by cases a <;> first | (cases ha; done) | (exact Bool.false_ne_true), by cases b <;> first | (cases hb; done) | (exact Bool.false_ne_true)⟩)]
  simp only [List.filterMap_cons, List.filterMap_nil, kx, ky, List.head?_cons, Option.map_some, Option.getD_some, Expr.pos, hl, beq_self_eq_true, Bool.and_self, if_true]
  rw [hed, hf, hc]
  rfl
theorem ks_par {i j : Nat} {a b : E} (wa : wfE a = true) (wb : wfE b = true) : KS c cls G gv L (.par i j a b) := by
  intro X E0 st hy h
  simp only [ckS] at h
  simp only [tS]
  split at h
  · rename_i x y hx
    unfold parPart at hx
    split at hx
    · split at hx
      · rename_i hb
        cases hx
        simp only [Bool.and_eq_true, decide_eq_true_eq, Bool.not_eq_true'] at hb h
        obtain ⟨⟨⟨⟨⟨⟨⟨⟨⟨⟨b1, b2⟩, b3⟩, b4⟩, b5⟩, b6⟩, b7⟩, b8⟩, b9⟩, b10⟩, b11⟩ := hb
        exact ps_par hy.e.calm hy.e.nd (by rw [hy.e.N]; exact b1) (by rw [hy.e.N]; exact b2) b3 (kindIs_iff b4) (kindIs_iff b5) (pa_cons (ke_ok a wa X E0 _ hy.e h.1) (pa_cons (ke_ok b wb X E0 _ hy.e h.2) pa_nil (star_ne b9)) (star_ne b8))
          (swapped_par hy.kind (kindIs_iff b4) (kindIs_iff b5) b6 b7 b8 b9 b10 b11) sw_tup
      · cases hx
    · cases hx
  · cases h
theorem ks_ite {z : E} {a b : List S} (oz : okT z = true) (w : wfE z = true) (ka : KSs c cls G gv L a) (kb : KSs c cls G gv L b) : KS c cls G gv L (.ite z a b) := by
  intro X E0 st hy h
  simp only [ckS] at h
  simp only [tS]
  split at h
  · rename_i t x y hx
    simp only [Bool.and_eq_true] at h
    unfold ifPart at hx
    split at hx
    · cases hx
      exact ps_if (kt_ok z w X E0 _ hy.e oz h.1.1) (ka X E0 _ hy h.1.2) (kb X E0 _ hy h.2)
    · cases hx
  · cases h
theorem ks_for {tg : List Nat} {one : Bool} {it : It} {kill : List Nat} {body : List S} (w : wfI it = true) (kb : KSs c cls G gv L body) : KS c cls G gv L (.for_ tg one it kill body) := by
  intro X E0 st hy h
  simp only [ckS] at h
  simp only [tS]
  split at h
  · rename_i p hx
    simp only [Bool.and_eq_true] at h
    unfold forPart at hx
    split at hx
    · split at hx
      · rename_i own ho
        split at hx
        · rename_i hb
          cases hx
          simp only [Bool.and_eq_true] at hb
          exact ps_for hy.own hy.e.calm (ki_ok it w X E0 _ _ hy.e h.1) (pg_ok ho (allLoc_iff hy hb.1)) (kb X E0 _ hy h.2) (notSet_fold hb.2)
        · cases hx
      · split at hx
        · rename_i own ho
          split at hx
          · rename_i hb
            cases hx
            simp only [Bool.and_eq_true] at hb
            exact ps_for hy.own hy.e.calm (ki_ok it w X E0 _ _ hy.e h.1) (pg_okN ho (allLoc_iff hy hb.1)) (kb X E0 _ hy h.2) (notSet_fold hb.2)
          · cases hx
        · cases hx
    · cases hx
  · cases h
theorem ks_forO {tg : List Nat} {one en : Bool} {i : Nat} {kill : List Nat} {body : List S} (kb : KSs c cls G gv L body) : KS c cls G gv L (.forO tg one en i kill body) := by
  intro X E0 st hy h
  simp only [ckS] at h
  simp only [tS, ← tI_own (cls := cls) (G := G) (gv := gv) (E0 := E0)]
  split at h
  · rename_i p hx
    simp only [Bool.and_eq_true] at h
    unfold forPart at hx
    split at hx
    · split at hx
      · rename_i own ho
        split at hx
        · rename_i hb
          cases hx
          simp only [Bool.and_eq_true] at hb
          exact ps_for hy.own hy.e.calm (ki_ownI (cls := cls) (G := G) (gv := gv) X E0 _ _ hy.e h.1) (pg_ok ho (allLoc_iff hy hb.1)) (kb X E0 _ hy h.2) (notSet_fold hb.2)
        · cases hx
      · split at hx
        · rename_i own ho
          split at hx
          · rename_i hb
            cases hx
            simp only [Bool.and_eq_true] at hb
            exact ps_for hy.own hy.e.calm (ki_ownI (cls := cls) (G := G) (gv := gv) X E0 _ _ hy.e h.1) (pg_okN ho (allLoc_iff hy hb.1)) (kb X E0 _ hy h.2) (notSet_fold hb.2)
          · cases hx
        · cases hx
    · cases hx
  · cases h
theorem ks_grp {t i : Nat} {it : It} {k : E} (w : wfI it = true) (wk : wfE k = true) : KS c cls G gv L (.grp t it i k) := by
  intro X E0 st hy h
  simp only [ckS] at h
  simp only [tS]
  split at h
  · rename_i tg x y own hx
    simp only [Bool.and_eq_true] at h
    unfold grpPart at hx
    split at hx
    · rename_i tg' it' o n ap k' lp cp n2 ap2 v cp2 ep fp
      split at hx
      · rename_i own' ho
        split at hx
        · rename_i hb
          cases hx
          obtain ⟨rfl, rfl, b1, b2, b3, b4, b5, b6, b7⟩ := hb
          have hv : notStar v = true := by
            unfold ckName at b2
            split at b2
            · rfl
            · cases b2
          have po := name_pe hy.e.N b1
          have pv := name_pe hy.e.N b2
          have pk := ke_ok k wk X E0 _ hy.e h.2
          have s1 : starEach [y, .List [] lp] X.env = (false, eval y X.env) :: starEach [.List [] lp] X.env := star_ne b5
          have pl : PE X (.List [] lp) (tLst tNil) := pe_lst pa_nil
          have hbase : attributeBase o "setdefault" X.env (eval o X.env) = eval o X.env := by
            unfold ckName at b1
            split at b1
            · rfl
            · cases b1
          have pd : PE X (.Call (.Attribute o "setdefault" ap) [y, .List [] lp] [] cp) (tDSetd (tVar i) (tE X.K cls G gv E0 k) (tLst tNil)) := pe_dsetd po pk pl ⟨hbase, by rw [s1]; rfl, by simpa using b3, by rw [s1]; rfl⟩
          have pb : PS X (.Expr (.Call (.Attribute (.Call (.Attribute o "setdefault" ap) [y, .List [] lp] [] cp) "append" ap2) [v] [] cp2) ep) (tGrpB X.K t i (tE X.K cls G gv E0 k)) :=
            ps_expr (pe_bm PySem.F.plainAttrs_list PySem.F.slot_list_append PySem.F.type_list_append mt_append pd (pa_cons pv pa_nil (star_ne hv)) rfl (by rw [star_ne hv]; rfl) (by simpa using b4) (star_ne hv) rfl) rfl
          exact ps_for hy.own hy.e.calm (ki_ok it w X E0 _ _ hy.e h.1) (pg_ok ho (allLoc_iff hy b6)) (pss_one pb) (notSet_fold b7)
        · cases hx
      · cases hx
    · cases hx
  · cases h
theorem ks_while {fuel : Nat} {z : E} {kill : List Nat} {body : List S} (oz : okT z = true) (w : wfE z = true) (kb : KSs c cls G gv L body) : KS c cls G gv L (.while_ fuel z kill body) := by
  intro X E0 st hy h
  simp only [ckS] at h
  simp only [tS]
  split at h
  · rename_i t x hx
    simp only [Bool.and_eq_true] at h
    unfold whilePart at hx
    split at hx
    · cases hx
      exact ps_while hy.own (kt_ok z w X E0 _ hy.e oz h.1) (kb X E0 _ hy h.2)
    · cases hx
  · cases h
theorem ks_raise {n : Nat} : KS c cls G gv L (.raise n) := by
  intro X E0 st hy h
  simp only [ckS] at h
  simp only [tS]
  unfold raiseOk at h
  split at h
  · simp only [Bool.and_eq_true, decide_eq_true_eq] at h
    obtain ⟨C, h1, h2, h3, h4, h5⟩ := hy.ex n _ h.1.1
    rw [h1]
    exact L2N.ps_raise hy.e.calm hy.takes (L2N.pmk_own PySem.F.excBase_ValueError h4 h2 h3 h5 (kindIs_iff h.1.2) (plainN_iff h.2).1)
  · cases h
theorem ks_junk : KS c cls G gv L .junk := by
  intro X E0 st hy h
  simp only [tS]
  exact ⟨fun _ _ _ _ _ _ z => z.elim⟩
theorem PSs.weak {X : Cx} {sts : List Stmt} {t t' : TS} (h : PSs X sts t) (w : ∀ D σ H, t' D σ H → t D σ H) : PSs X sts t' := ⟨fun pins s σ H D I q => h.run pins s σ H D I (w D σ H q)⟩
theorem ks_try {i : Nat} {body : List S} (kb : KSs c cls G gv L body) : KS c cls G gv L (.tryO i body) := by
  intro X E0 st hy h
  simp only [ckS] at h
  simp only [tS]
  split at h
  · rename_i sts hx
    unfold tryPart at hx
    split at hx
    · rename_i bd x px n wn pw n2 pn2 pc pr ph pt
      split at hx
      · rename_i hb
        cases hx
        obtain ⟨b1, b2, b3, b4, b5, b6, b7, b8, b9⟩ := hb
        subst b3
        obtain ⟨⟨OE, o1, o2⟩, f, fd, p, w1, w2, w3, w4⟩ := hy.wh x wn b1
        have hN : X.N[i]? = some n2 := by rw [hy.e.N]; exact b2
        refine ⟨fun pins s σ H Dn I q => ?_⟩
        refine (L2N.ps_try_as (X := X) (Wout := fun cls d _ H => E0 cls d H) (c := OE) (i := i) (tb := fun W D σ H => ∃ E1 : XK, (∀ cl d σ' H', σ'.length = X.N.length → E1 cl d H' → W cl d σ' H') ∧ tSs X.K cls G gv E1 body D σ H)
          (ts := fun a cl d D σ H => σ[i]? = some (some (.ref a)) ∧ ∃ c dd F, cl = cls c ∧ d = none ∧ G.wh c = some dd ∧ Ex F H ∧ ∀ v F2 H2, Stp (fun _ => False) F H F2 H2 → Rp X.K F2 v dd → D.rt v H2)
          hy.stack hy.frame hy.e.nd hN (kindIs_iff b4) ⟨kindIs_iff b6, (plainN_iff b7).1, .inl o1⟩ hy.takes ?_ ?_).run pins s σ H Dn I ?_
        · intro W pn xe tk ow
          refine ⟨fun pins s σ H D I q => ?_⟩
          obtain ⟨E1, e1, q⟩ := q
          have tk1 : L2N.Takes (X.tr pn xe) (fun cl d _ H => E1 cl d H) := fun u s' ⟨a, B, sI, pins, σ, H, cls, d, e, I, nb, up, sky, na, os, ag, w⟩ =>
            tk u s' ⟨a, B, sI, pins, σ, H, cls, d, e, I, nb, up, sky, na, os, ag, e1 _ _ _ _ I.len w⟩
          have hy' : HyS (X.tr pn xe) c cls G gv L E1 := ⟨⟨hy.e.N, hy.e.nd, hy.e.calm, hy.e.room, L2N.passes_call tk1 (fun _ _ _ _ h => h), hy.e.fn, hy.e.fnS, hy.e.gl, hy.e.bi⟩, hy.kind, hy.fn, ow, tk1, hy.stack, hy.frame, hy.wh, hy.ex⟩
          exact (kb (X.tr pn xe) E1 _ hy' h).run pins s σ H D I q
        · intro a oe cl d pn hz hf
          refine ⟨fun pins s σ H D I q => ?_⟩
          obtain ⟨hs, c, dd, F, rfl, rfl, hw, hx, hq⟩ := q
          obtain ⟨vs, hv⟩ := hf
          have hot : L2H.Hot1 (X.suite a ((a, oe) :: pn)).A (a, oe) := ⟨rfl, vs, hv, hz.2.2 vs hv⟩
          have hc := pe_callW (X := X.suite a ((a, oe) :: pn)) (p := (a, oe)) (cl := cls c) (q := pw) (pos := pc) w4 ⟨hy.e.room.dp, hy.e.room.un⟩ hot List.mem_cons_self hz.zc ⟨vs, hv⟩ (kindIs_iff b8) w1 w2 w3 (pe_var (pos := pn2) hN (.inl (kindIs_iff b4)) (plainN_iff b5).1 (plainN_iff b5).2) (plainN_iff b9).1 rfl
          exact (pss_cons (ps_ret (pos := pr) hc) pss_nil).run pins s σ H D I ⟨.ref a, hs, rfl, dd, ⟨c, rfl, hw⟩, F, hx, hq⟩
        · obtain ⟨E1, e1, q⟩ := q
          refine ⟨E1, fun cl d σ' H' hl z => ?_, q⟩
          obtain ⟨c, dd, F', rfl, rfl, hw, hx, hq⟩ := e1 cl d H' z
          refine ⟨true, o2 c dd hw, fun _ a ha => ⟨?_, c, dd, F', rfl, rfl, hw, hx, hq⟩, fun z => nomatch z⟩
          rw [List.getElem?_set_self]
          rw [hl]
          exact (List.getElem?_eq_some_iff.mp hN).1
      · cases hx
    · cases hx
  · cases h
mutual
theorem ks_ok : ∀ s : S, wfS s = true → KS c cls G gv L s
  | .asg i e, w => fun X E0 st hy h => by
    simp only [ckS, Bool.and_eq_true] at h
    simp only [tS]
    exact ks_asg0 h.1 (by simpa [wfS] using w) hy h.2
  | .asgM i e, w => fun X E0 st hy h => by
    simp only [ckS, Bool.and_eq_true] at h
    simp only [tS]
    simp only [wfS, Bool.and_eq_true] at w
    exact ks_asg0 h.1 w.1 hy h.2
  | .unp is e, w => ks_unp (by simpa [wfS] using w)
  | .unpF i j f as, w => ks_unpF (by simpa [wfS] using w)
  | .par i j a b, w => by
    simp only [wfS, Bool.and_eq_true] at w
    exact ks_par w.1 w.2
  | .app i e, w => fun X E0 st hy h => by
    simp only [ckS] at h
    simp only [tS]
    exact meth_ps (by simpa [wfS] using w) hy PySem.F.slot_list_append PySem.F.type_list_append mt_append h
  | .ext i e, w => fun X E0 st hy h => by
    simp only [ckS] at h
    simp only [tS]
    exact meth_ps (by simpa [wfS] using w) hy PySem.F.slot_list_extend PySem.F.type_list_extend mt_ext h
  | .setI i k v, w => by
    simp only [wfS, Bool.and_eq_true] at w
    exact ks_setI w.1 w.2
  | .newD i t, _ => ks_newD
  | .setD i k v, w => by
    simp only [wfS, Bool.and_eq_true] at w
    exact ks_setD w.1 w.2
  | .asgD i e, w => ks_asgD (by simpa [wfS] using w)
  | .drop e, w => ks_drop (by simpa [wfS] using w)
  | .ite z a b, w => by
    simp only [wfS, Bool.and_eq_true] at w
    exact ks_ite w.1.1.1 w.1.1.2 (kss_ok a w.1.2) (kss_ok b w.2)
  | .for_ tg one it kill body, w => by
    simp only [wfS, Bool.and_eq_true] at w
    exact ks_for w.1 (kss_ok body w.2)
  | .while_ fuel z kill body, w => by
    simp only [wfS, Bool.and_eq_true] at w
    exact ks_while w.1.1 w.1.2 (kss_ok body w.2)
  | .ret e, w => ks_ret (by simpa [wfS] using w)
  | .forO tg one en i kill body, w => by
    simp only [wfS, Bool.and_eq_true] at w
    exact ks_forO (kss_ok body w.2)
  | .grp t it i k, w => by
    simp only [wfS, Bool.and_eq_true] at w
    exact ks_grp w.1 w.2
  | .raise n, _ => ks_raise
  | .tryO i body, w => ks_try (kss_ok body (by simpa [wfS] using w))
  | .junk, _ => ks_junk
  | .brk, _ => fun X E0 st hy h => by
    simp only [ckS] at h
    simp only [tS]
    split at h
    · exact ps_break
    · cases h
  | .cnt, _ => fun X E0 st hy h => by
    simp only [ckS] at h
    simp only [tS]
    split at h
    · exact ps_continue
    · cases h
  | .pass, _ => fun X E0 st hy h => by
    simp only [ckS] at h
    simp only [tS]
    split at h
    · exact ps_pass
    · cases h
theorem kss_ok : ∀ ss : List S, wfSs ss = true → KSs c cls G gv L ss
  | [], _ => fun X E0 sts hy h => by
    simp only [ckSs] at h
    simp only [tSs]
    cases sts with
    | nil => exact pss_nil
    | cons _ _ => cases h
  | s :: ss, w => fun X E0 sts hy h => by
    simp only [wfSs, Bool.and_eq_true] at w
    simp only [ckSs] at h
    simp only [tSs]
    cases sts with
    | nil => cases h
    | cons st sts =>
      simp only [Bool.and_eq_true] at h
      exact pss_cons (ks_ok s w.1 X E0 st hy h.1) (kss_ok ss w.2 X E0 sts hy h.2)
end
end
end Nv

set_option Elab.async false
set_option linter.all false
set_option maxRecDepth 100000
/-! Nv15: a def of the text holds the promise of its mirror. -/
namespace Nv
open PySem PySem.Spec PyProof.Rows L2

section
variable {K : PySem.W.Frag} {F H F' H' : Hp}
theorem ArgsOk.len {ms : List Bool} {vs : List V} {ds : List D} (h : ArgsOk K F H ms vs ds) : vs.length = ms.length ∧ ds.length = ms.length := by
  induction h with
  | nil => exact ⟨rfl, rfl⟩
  | im _ _ ih => exact ⟨by simp [ih.1], by simp [ih.2]⟩
  | mu _ _ _ _ ih => exact ⟨by simp [ih.1], by simp [ih.2]⟩
theorem slots_len {ms : List Bool} {vs : List V} {ds : List D} (h : ArgsOk K F H ms vs ds) : (slots ms ds).length = ms.length := by
  induction h with
  | nil => rfl
  | im _ _ ih => simp [slots, ih]
  | mu _ _ _ _ ih => simp [slots, ih]
theorem args_im {ms : List Bool} {vs : List V} {ds : List D} (h : ArgsOk K F H ms vs ds) : ∀ (i : Nat) (d : D), (slots ms ds)[i]? = some (Sl.im d) → ∃ v, vs[i]? = some v ∧ Rp K F v d := by
  induction h with
  | nil => intro i d e; cases i <;> simp [slots] at e
  | im r _ ih =>
    intro i d e
    cases i with
    | zero =>
      simp [slots] at e
      subst e
      exact ⟨_, rfl, r⟩
    | succ i => exact ih i d (by simpa [slots] using e)
  | mu _ _ _ _ ih =>
    intro i d e
    cases i with
    | zero => simp [slots] at e
    | succ i => exact ih i d (by simpa [slots] using e)
theorem args_mu {ms : List Bool} {vs : List V} {ds : List D} (h : ArgsOk K F H ms vs ds) : ∀ (i : Nat) (d : D), (slots ms ds)[i]? = some (Sl.mu d) → ∃ a o, vs[i]? = some (.ref a) ∧ ms[i]? = some true ∧ a ∈ ownAddrs ms vs ∧ F a = none ∧ H a = some o ∧ Cont K F o d := by
  induction h with
  | nil => intro i d e; cases i <;> simp [slots] at e
  | @im v d0 ms vs ds r _ ih =>
    intro i d e
    cases i with
    | zero => simp [slots] at e
    | succ i =>
      obtain ⟨a, o, h1, h2, h3, h4⟩ := ih i d (by simpa [slots] using e)
      refine ⟨a, o, h1, h2, ?_, h4⟩
      cases v <;> simpa [ownAddrs] using h3
  | @mu a o d0 ms vs ds h1 h2 h3 _ ih =>
    intro i d e
    cases i with
    | zero =>
      simp [slots] at e
      subst e
      exact ⟨a, o, rfl, rfl, by simp [ownAddrs], h1, h2, h3⟩
    | succ i =>
      obtain ⟨a, o, h1, h2, h3, h4⟩ := ih i d (by simpa [slots] using e)
      exact ⟨a, o, h1, h2, by simp [ownAddrs, h3], h4⟩
theorem owns_there {ms : List Bool} {vs : List V} {ds : List D} (h : ArgsOk K F H ms vs ds) : ∀ a ∈ ownAddrs ms vs, H a ≠ none := by
  induction h with
  | nil => intro a z; simp [ownAddrs] at z
  | @im v d0 ms vs ds r _ ih =>
    intro a z
    refine ih a ?_
    cases v <;> simpa [ownAddrs] using z
  | @mu b o d0 ms vs ds h1 h2 h3 _ ih =>
    intro a z
    simp only [ownAddrs, List.mem_cons] at z
    rcases z with rfl | z
    · rw [h2]
      exact fun q => by cases q
    · exact ih a z
theorem ownA_mem {a : Addr} : ∀ {ms : List Bool} {vs : List V} {i : Nat}, ms[i]? = some true → vs[i]? = some (.ref a) → a ∈ ownAddrs ms vs
  | [], _, _, h, _ => by simp at h
  | _ :: _, [], i, _, h => by simp at h
  | b :: ms, v :: vs, 0, h1, h2 => by
    simp only [List.getElem?_cons_zero, Option.some.injEq] at h1 h2
    subst h1 h2
    simp [ownAddrs]
  | b :: ms, v :: vs, i + 1, h1, h2 => by
    have := ownA_mem (ms := ms) (vs := vs) (i := i) (by simpa using h1) (by simpa using h2)
    cases b with
    | false => cases v <;> simpa [ownAddrs] using this
    | true => cases v <;> simp [ownAddrs, this]
/-- two owned arguments are two objects -/
theorem own_sep {a : Addr} : ∀ {ms : List Bool} {vs : List V} {i j : Nat}, (ownAddrs ms vs).Nodup → ms[i]? = some true → ms[j]? = some true → vs[i]? = some (.ref a) → vs[j]? = some (.ref a) → i = j
  | [], _, _, _, _, h, _, _, _ => by simp at h
  | _ :: _, [], _, _, _, _, _, h, _ => by simp at h
  | b :: ms, v :: vs, i, j, nd, h1, h2, h3, h4 => by
    have step : ∀ k, ms[k]? = some true → vs[k]? = some (V.ref a) → b = true → v = .ref a → False := fun k q1 q2 q3 q4 => by
      subst q3 q4
      simp only [ownAddrs, List.nodup_cons] at nd
      exact nd.1 (ownA_mem q1 q2)
    have nd' : (ownAddrs ms vs).Nodup := by
      cases b with
      | false => cases v <;> simpa [ownAddrs] using nd
      | true => cases v <;> first | (simpa [ownAddrs] using nd) | (simp only [ownAddrs, List.nodup_cons] at nd; exact nd.2)
    cases i with
    | zero =>
      cases j with
      | zero => rfl
      | succ j => exact (step j (by simpa using h2) (by simpa using h4) (by simpa using h1) (by simpa using h3)).elim
    | succ i =>
      cases j with
      | zero => exact (step i (by simpa using h1) (by simpa using h3) (by simpa using h2) (by simpa using h4)).elim
      | succ j => exact congrArg (· + 1) (own_sep nd' (by simpa using h1) (by simpa using h2) (by simpa using h3) (by simpa using h4))
theorem startE_get {n : Nat} {ms : List Bool} {ds : List D} {i : Nat} {s : Sl} (h : (startE n ms ds)[i]? = some s) : (slots ms ds)[i]? = some s ∨ s = .no := by
  unfold startE at h
  rw [List.getElem?_append] at h
  split at h
  · exact .inl h
  · rw [List.getElem?_replicate] at h
    split at h
    · exact .inr (Option.some.inj h).symm
    · cases h
theorem start_get {N : List Str} {vs : List V} {i : Nat} {v : V} (h : vs[i]? = some v) : (L2.start N vs)[i]? = some (some v) := by
  unfold L2.start
  have hl : i < vs.length := (List.getElem?_eq_some_iff.mp h).1
  rw [List.getElem?_append_left (by simpa using hl), List.getElem?_map, h]
  rfl
theorem good_start {N : List Str} {ms : List Bool} {vs : List V} {ds : List D} (e : Ex F H) (h : ArgsOk K F H ms vs ds) (nd : (ownAddrs ms vs).Nodup) : Good K (· ∈ ownAddrs ms vs) (startE N.length ms ds) (L2.start N vs) F H := by
  have hl := h.len
  have hs := slots_len h
  refine ⟨e, ?_, fun i d q => ?_, fun i d q => ?_, fun i j di dj a q1 q2 q3 q4 => ?_, fun a z => owns_there h a z⟩
  · unfold L2.start startE
    simp only [List.length_append, List.length_map, List.length_replicate]
    omega
  · rcases startE_get q with z | z
    · obtain ⟨v, h1, h2⟩ := args_im h i d z
      exact ⟨v, start_get h1, h2⟩
    · cases z
  · rcases startE_get q with z | z
    · obtain ⟨a, o, h1, _, h2, h3, h4, h5⟩ := args_mu h i d z
      exact ⟨a, o, start_get h1, h2, h3, h4, h5⟩
    · cases z
  · rcases startE_get q1 with z1 | z1
    · rcases startE_get q2 with z2 | z2
      · obtain ⟨b, o, h1, h2, _⟩ := args_mu h i di z1
        obtain ⟨c, o', k1, k2, _⟩ := args_mu h j dj z2
        rw [start_get h1] at q3
        cases q3
        rw [start_get k1] at q4
        cases q4
        exact own_sep nd h2 k2 h1 k1
      · cases z2
    · cases z1
theorem outs_ok {M : Addr → Prop} {env : En} {σ : L2.St} {ms : List Bool} {vs : List V} {ds : List D} (g : Good K M env σ F' H') (h : ArgsOk K F H ms vs ds) : ∀ (i : Nat) (outs : List D), (∀ j v, ms[j]? = some true → vs[j]? = some v → σ[i + j]? = some (some v)) → outsOf env ms i = some outs → OutsOk K F' H' ms vs outs := by
  induction h with
  | nil =>
    intro i outs _ e
    simp only [outsOf] at e
    cases e
    exact .nil
  | @im v d ms vs ds r _ ih =>
    intro i outs q e
    simp only [outsOf] at e
    exact .im (ih (i + 1) outs (fun j v h1 h2 => by have := q (j + 1) v h1 h2; rwa [show i + (j + 1) = i + 1 + j by omega] at this) e)
  | @mu a o d ms vs ds h1 h2 h3 _ ih =>
    intro i outs q e
    simp only [outsOf] at e
    cases em : getM env i with
    | none =>
      rw [em] at e
      cases e
    | some d' =>
      rw [em] at e
      simp only [Option.bind_some, Option.map_eq_some_iff] at e
      obtain ⟨ds', e1, rfl⟩ := e
      have q0 := q 0 (.ref a) rfl rfl
      obtain ⟨b, o', k1, k2, k3, k4, k5⟩ := g.mu i d' (getM_some em)
      rw [Nat.add_zero] at q0
      rw [q0] at k1
      cases k1
      exact .mu k3 k4 k5 (ih (i + 1) ds' (fun j v h1 h2 => by have := q (j + 1) v h1 h2; rwa [show i + (j + 1) = i + 1 + j by omega] at this) e1)
end

/-! ### the module, as far as a def asks -/
structure Tb where
  N : List Str
  fns : List (Str × List Bool × Fn)
  gls : List (Str × D)
  exs : List (Nat × Str)
  wh : Option (Str × Str × List (Nat × D)) := none
def vOf : D → V
  | .int i => .int i
  | .str x => .str x
  | .bool b => .bl b
  | _ => .non
def Tb.G (t : Tb) : Gam := ⟨fun n => (t.fns[n]?).map (·.2), fun n => (t.gls[n]?).map (·.2), fun n => t.wh.bind fun q => q.2.2.lookup n⟩
def Tb.c (t : Tb) : Cc := ⟨t.N, fun n => (t.fns[n]?).map (·.1), fun n => (t.gls[n]?).map (·.1), fun n => t.exs.lookup n, t.wh.map fun q => (q.1, q.2.1)⟩
def plainD : D → Bool
  | .int _ => true
  | .str _ => true
  | .bool _ => true
  | _ => false
section
variable (P : Program) (w : World) (K : PySem.W.Frag) (mg : Str → Option Value) (base : Heap) (cls : Nat → Value)
/-- a def that may be called: it has room L -/
def Has (L : Nat) (p : Str × List Bool × Fn) : Prop := ∃ (a : Addr) (fd : FuncData) (ps : List Str), mg p.1 = some (.ref a) ∧ PySem.W.keepIn K (.ref a) = true ∧ Binds K fd ps [] ∧ FnOk P w K mg base (L2N.CX P w) L a fd ps (spF K cls p.2.1 p.2.2)
def HasG (p : Str × D) : Prop := ∃ u v, mg p.1 = some u ∧ RelV v u ∧ ∀ F : Hp, Rp K F v p.2
def HasW (L : Nat) (q : Str × Str × List (Nat × D)) : Prop := (∃ OE, mg q.1 = some OE ∧ ∀ p ∈ q.2.2, PySem.W.exmOne K (cls p.1) OE = some true) ∧
  ∃ (f : Addr) (fd : FuncData) (p : Str), mg q.2.1 = some (.ref f) ∧ PySem.W.keepIn K (.ref f) = true ∧ Binds K fd [p] [] ∧ FnW P w K mg base L f fd p (fun cl dd => ∃ n, cl = cls n ∧ q.2.2.lookup n = some dd)
def HasX (p : Nat × Str) : Prop := ∃ C, cls p.1 = .ref C ∧ mg p.2 = some (.ref C) ∧ PySem.W.keepIn K (.ref C) = true ∧ PySem.W.excIn K C [.type "ValueError", .type "Exception", .type "BaseException", .type "object"] "ValueError.__new__" = true ∧ PySem.W.subIn K (.ref C) (.type "BaseException") = some true ∧ PySem.W.typeIn K (.ref C) = some (.type "type")
structure Md : Prop where
  bi : ∀ x ∈ biNames, mg x = none
structure MdT (t : Tb) (L : Nat) : Prop where
  fns : ∀ p ∈ t.fns, Has P w K mg base cls L p
  gls : ∀ p ∈ t.gls, HasG K mg p
  exs : ∀ p ∈ t.exs, HasX K mg cls p
  wh : ∀ q, t.wh = some q → HasW P w K mg base cls L q
end
def scB (N P : List Str) (sc : Scope) : Bool :=
  decide (sc.kind = .function) && !sc.isCoroutine && !sc.isGenerator && decide N.Nodup && decide (N.take P.length = P) && P.all (fun x => decide (sc.names.lookup x = some .local) || decide (sc.names.lookup x = some .cell)) && sc.names.all (fun y => !decide (y.2 = .free))
/-- all that a look at the text tells -/
def okDef (t : Tb) (d : Def) (ps : List Str) (st : Stmt) : Bool :=
  scB t.N ps (defScope st) && ckSs t.c (defScope st) (defBody st) d.body && wfSs d.body && decide (d.n = t.N.length) && decide (d.ps.length = ps.length) && (asgSs d.body).all fun i => !decide (d.ps[i]? = some true)
theorem lookup_mem {α β : Type} [BEq α] [LawfulBEq α] {k : α} {v : β} : ∀ {l : List (α × β)}, l.lookup k = some v → (k, v) ∈ l
  | [], h => by cases h
  | (a, b) :: l, h => by
    rw [List.lookup_cons] at h
    split at h
    · rename_i e
      cases h
      have := eq_of_beq e
      subst this
      exact List.mem_cons_self
    · exact List.mem_cons_of_mem _ (lookup_mem h)
section
variable {P : Program} {w : World} {K : PySem.W.Frag} {mg : Str → Option Value} {base : Heap} {cls : Nat → Value}
theorem Has.mono {j k : Nat} {p : Str × List Bool × Fn} (h : Has P w K mg base cls j p) (l : j ≤ k) : Has P w K mg base cls k p := by
  obtain ⟨a, fd, ps, h1, h2, h3, h4⟩ := h
  exact ⟨a, fd, ps, h1, h2, h3, h4.mono l⟩
theorem HasW.mono {j k : Nat} {q : Str × Str × List (Nat × D)} (h : HasW P w K mg base cls j q) (l : j ≤ k) : HasW P w K mg base cls k q := by
  obtain ⟨h0, f, fd, p, h1, h2, h3, h4⟩ := h
  exact ⟨h0, f, fd, p, h1, h2, h3, h4.mono l⟩
theorem spF_len {ms : List Bool} {fn : Fn} {vs : List V} {H : Hp} {Q : VK} {E : XK} (h : spF K cls ms fn vs H Q E) : vs.length = ms.length := by
  obtain ⟨F, ds, _, h, _⟩ := h
  exact h.len.1
theorem scC_of {N P : List Str} {sc : Scope} (h : scB N P sc = true) : FnScope N P sc := by
  unfold scB at h
  simp only [Bool.and_eq_true, Bool.not_eq_true', decide_eq_true_eq, List.all_eq_true, Bool.or_eq_true, decide_eq_false_iff_not] at h
  obtain ⟨⟨⟨⟨⟨⟨h1, h2⟩, h3⟩, h4⟩, h5⟩, h6⟩, h7⟩ := h
  exact ⟨h1, h2, h3, h4, h5, h6, h7⟩
theorem Fun.okN {x qual : Str} {st : Stmt} {f : Addr} {fd : FuncData} {N ps : List Str} {k : Nat} {sp : Sp} (F : L2.Fun K x qual st f fd) (S : FnScope N ps (defScope st)) (len : ∀ vs H Q E, sp vs H Q E → vs.length = ps.length)
    (hbody : ∀ (cdv : Value) (A : Around) (outer : List Env) (s : Shared) (H : Hp) (vs : List V) (Q : VK) (E : XK), Room k (A.deeper (envOfC qual (defScope st) s.heap.objs.size f cdv)) → sp vs H Q E →
      ∃ t, PSs (cxOf (L2N.CX P w) P w K mg base N qual (defScope st) f cdv A outer s H E) (defBody st) t ∧ t { nx := fun _ H' => Q .non H', rt := Q } (L2.start N vs) H) : FnOk P w K mg base (L2N.CX P w) (k + 1) f fd ps sp := by
  obtain ⟨oc, od, kV, doc, pm, an, cdv, ct, osl, rfl, lk, hcd⟩ := F.ex
  exact fn_of lk hcd S len fun A outer s H vs Q E hr hsp => hbody cdv A outer s H vs Q E hr hsp
theorem gls_ex {t : Tb} {L : Nat} (T : MdT P w K mg base cls t L) : ∃ gv : Gv, (∀ n d, t.G.gl n = some d → ∀ F : Hp, Rp K F (gv.gl n) d) ∧ (∀ n x, t.c.gl n = some x → ∃ u, mg x = some u ∧ RelV (gv.gl n) u) ∧
    ∀ (n : Nat) (p : Str × List Bool × Fn), t.fns[n]? = some p → ∃ (a : Addr) (fd : FuncData) (ps : List Str), gv.fa n = .ref a ∧ mg p.1 = some (.ref a) ∧ PySem.W.keepIn K (.ref a) = true ∧ Binds K fd ps [] ∧ FnOk P w K mg base (L2N.CX P w) L a fd ps (spF K cls p.2.1 p.2.2) := by
  have h1 : ∀ n : Nat, ∃ v : V, ∀ p : Str × D, t.gls[n]? = some p → (∃ u, mg p.1 = some u ∧ RelV v u) ∧ ∀ F : Hp, Rp K F v p.2 := fun n => by
    cases e : t.gls[n]? with
    | none => exact ⟨.non, fun p z => nomatch z⟩
    | some p =>
      obtain ⟨u, v, k1, k2, k3⟩ := T.gls p (List.mem_of_getElem? e)
      exact ⟨v, fun q z => by cases z; exact ⟨⟨u, k1, k2⟩, k3⟩⟩
  have h2 : ∀ n : Nat, ∃ v : V, ∀ p : Str × List Bool × Fn, t.fns[n]? = some p → ∃ (a : Addr) (fd : FuncData) (ps : List Str), v = .ref a ∧ mg p.1 = some (.ref a) ∧ PySem.W.keepIn K (.ref a) = true ∧ Binds K fd ps [] ∧ FnOk P w K mg base (L2N.CX P w) L a fd ps (spF K cls p.2.1 p.2.2) := fun n => by
    cases e : t.fns[n]? with
    | none => exact ⟨.non, fun p z => nomatch z⟩
    | some p =>
      obtain ⟨a, fd, ps, k1, k2, k3, k4⟩ := T.fns p (List.mem_of_getElem? e)
      exact ⟨.ref a, fun q z => by cases z; exact ⟨a, fd, ps, rfl, k1, k2, k3, k4⟩⟩
  obtain ⟨gl, hgl⟩ := Classical.skolem.mp h1
  obtain ⟨fa, hfa⟩ := Classical.skolem.mp h2
  refine ⟨⟨gl, fa⟩, fun n d h F => ?_, fun n x h => ?_, hfa⟩
  · simp only [Tb.G, Option.map_eq_some_iff] at h
    obtain ⟨p, e, rfl⟩ := h
    exact (hgl n p e).2 F
  · simp only [Tb.c, Option.map_eq_some_iff] at h
    obtain ⟨p, e, rfl⟩ := h
    exact (hgl n p e).1
/-- THE RULE: a def of the text holds its mirror's promise -/
theorem def_ok {x : Str} {ps : List Str} {st : Stmt} {f : Addr} {fd : FuncData} {t : Tb} {d : Def} {L : Nat} (hok : okDef t d ps st = true) (Fn : L2.Fun K x x st f fd)
    (B : ∀ x ∈ biNames, mg x = none) (T : MdT P w K mg base cls t L) : FnOk P w K mg base (L2N.CX P w) (L + 1) f fd ps (spF K cls d.ps (evDef t.G d)) := by
  unfold okDef at hok
  simp only [Bool.and_eq_true, decide_eq_true_eq, List.all_eq_true, Bool.not_eq_true', decide_eq_false_iff_not] at hok
  obtain ⟨⟨⟨⟨⟨h1, h2⟩, h3⟩, h4⟩, h5⟩, h6⟩ := hok
  obtain ⟨gv, v1, v2, v3⟩ := gls_ex T
  refine Fun.okN Fn (scC_of h1) (fun vs H Q E h => by rw [spF_len h]; exact h5) (fun cdv A outer s H vs Q E hr h => ?_)
  obtain ⟨F, ds, hx, ha, hn, he⟩ := h
  refine ⟨tSs K cls t.G gv E d.body, ?_, ?_⟩
  · refine kss_ok (c := t.c) (cls := cls) (G := t.G) (gv := gv) (L := L) d.body h3 _ E _ ?_ h2
    have tk : L2N.Takes (cxOf (L2N.CX P w) P w K mg base t.N x (defScope st) f cdv A outer s H E) (fun cls d _ H => E cls d H) := L2N.takes_of rfl rfl rfl rfl
    refine ⟨⟨rfl, (scC_of h1).nd, rfl, hr, L2N.passes_call tk (fun _ _ _ _ h => h), ?fn, ?fnS, v2, B⟩, (scC_of h1).kind, fun _ => rfl, passes_of rfl, tk, rfl, rfl, ?wh, ?ex⟩
    case fn =>
      intro n f ms fn e1 e2
      simp only [Tb.c, Tb.G, Option.map_eq_some_iff] at e1 e2
      obtain ⟨p, e1, rfl⟩ := e1
      obtain ⟨q, e2, e3⟩ := e2
      rw [e1] at e2
      cases e2
      obtain ⟨a, fd, ps, k0, k1, k2, k3, k4⟩ := v3 n p e1
      rw [e3] at k4
      exact ⟨a, fd, ps, k0, k1, k2, k3, k4⟩
    case fnS =>
      intro n f e
      simp only [Tb.c, Option.map_eq_some_iff] at e
      obtain ⟨p, e, _⟩ := e
      simp only [Tb.G, e]
      rfl
    case wh =>
      intro x wn e
      simp only [Tb.c, Option.map_eq_some_iff] at e
      obtain ⟨q, e, e2⟩ := e
      obtain ⟨⟨OE, k1, k2⟩, f, fd, p, k3, k4, k5, k6⟩ := T.wh q e
      cases e2
      have eG : ∀ n, t.G.wh n = q.2.2.lookup n := fun n => by
        simp only [Tb.G, e]
        rfl
      refine ⟨⟨OE, k1, fun n dd h => k2 _ (lookup_mem (by rw [← eG]; exact h))⟩, f, fd, p, k3, k4, k5, ?_⟩
      simp only [eG]
      exact k6
    case ex =>
      intro n x e
      simp only [Tb.c] at e
      obtain ⟨C, k1, k2, k3, k4, k5, k6⟩ := T.exs _ (lookup_mem e)
      exact ⟨C, k1, k2, k3, k4, raises_own k5 k6⟩
  · have hl := ha.len
    have hbase : Loc K (· ∈ ownAddrs d.ps vs) F H (fun i => if d.ps[i]? = some true then vs[i]? else none) (startE d.n d.ps ds) (L2.start t.N vs) F H := by
      rw [h4]
      refine ⟨_, good_start hx ha hn, fun a z => .inl z, Stp.refl hx, fun i v z => ?_⟩
      by_cases q : d.ps[i]? = some true
      · rw [show (fun i => if d.ps[i]? = some true then vs[i]? else none) i = vs[i]? from if_pos q] at z
        exact start_get z
      · rw [show (fun i => if d.ps[i]? = some true then vs[i]? else none) i = none from if_neg q] at z
        cases z
    refine exs_ok v1 d.body _ _ _ _ _ _ _ _ _ _ h3 (fun i z => if_neg (h6 i z)) hbase ?_
    have outs : ∀ {env : En} {σ : L2.St} {F' H' : Hp} {os : List D}, Loc K (· ∈ ownAddrs d.ps vs) F H (fun i => if d.ps[i]? = some true then vs[i]? else none) env σ F' H' → outsOf env d.ps 0 = some os → OutsOk K F' H' d.ps vs os := fun {env σ F' H' os} l q => by
      obtain ⟨M, g, _, _, fx⟩ := l
      exact outs_ok g ha 0 os (fun j v k1 k2 => by rw [Nat.zero_add]; exact fx j v ((if_pos k1).trans k2)) q
    simp only [evDef, if_pos hl.2] at he
    cases e : exs t.G d.body (startE d.n d.ps ds) with
    | nx env =>
      rw [e] at he
      intro σ' F' H' l
      simp only at he
      cases eo : outsOf env d.ps 0 with
      | none => rw [eo] at he; exact he.elim
      | some os =>
        rw [eo] at he
        obtain ⟨M, g, _, s, fx⟩ := id l
        exact he .non F' H' s .non (outs l eo)
    | ret r env =>
      rw [e] at he
      intro v σ' F' H' l hr
      simp only at he
      cases eo : outsOf env d.ps 0 with
      | none => rw [eo] at he; exact he.elim
      | some os =>
        rw [eo] at he
        obtain ⟨M, g, _, s, fx⟩ := id l
        exact he v F' H' s hr (outs l eo)
    | brk env => rw [e] at he; exact he.elim
    | cnt env => rw [e] at he; exact he.elim
    | exc c env =>
      rw [e] at he
      intro σ' F' H' l
      simp only at he
      cases eo : outsOf env d.ps 0 with
      | none => rw [eo] at he; exact he.elim
      | some os =>
        rw [eo] at he
        obtain ⟨M, g, _, s, fx⟩ := id l
        exact he F' H' s (outs l eo)
    | stuck => rw [e] at he; exact he.elim
end
end Nv

set_option Elab.async false
set_option linter.all false
set_option maxRecDepth 100000
/-! Nv16: what the top has written; the law's own walk. -/
namespace Nv
open PySem PySem.Spec PyProof.Rows L2

def At (K : PySem.W.Frag) (x : Str) (st : Stmt) (ps : List Str) : Prop := ∃ (f : Addr) (fd : FuncData), PySem.W.nsIn K mainGlobals x = some (some (.ref f)) ∧ L2.Fun K x x st f fd ∧ Binds K fd ps [] ∧
  ∀ us : List Value, us.length = ps.length → bindArgs fd ⟨us, []⟩ = pure (ps.zip us)
def GAt (K : PySem.W.Frag) (x : Str) (d : D) : Prop := ∃ u v, PySem.W.nsIn K mainGlobals x = some (some u) ∧ RelV v u ∧ ∀ F : Hp, Rp K F v d
def XAt (K : PySem.W.Frag) (x : Str) (C : Addr) : Prop := PySem.W.nsIn K mainGlobals x = some (some (.ref C)) ∧ PySem.W.keepIn K (.ref C) = true ∧ PySem.W.excIn K C [.type "ValueError", .type "Exception", .type "BaseException", .type "object"] "ValueError.__new__" = true ∧
  PySem.W.subIn K (.ref C) (.type "BaseException") = some true ∧ PySem.W.typeIn K (.ref C) = some (.type "type")
section
variable {P : Program} {w : World} {K : PySem.W.Frag} {mg : Str → Option Value} {base : Heap} {h : Heap} {cls : Nat → Value}
theorem at_mk {x : Str} {st : Stmt} {ps : List Str} {f : Addr} {oc : Value} {od an : Option Addr} {osl : Array (Option Value)} {kV doc pm cdv ct : Value} (a : PySem.W.nsIn K mainGlobals x = some (some (.ref f)))
    (l : K.lookup f = some ⟨oc, od, .func (PySem.W.fnOf x x (defArgs st) (defBody st) (defScope st) .none kV doc pm an cdv ct), osl⟩) (c : PySem.W.codeIn K cdv x = true) (k : PySem.W.keepIn K (.ref f) = true)
    (b : ∀ (kV doc pm : Value) (an : Option Addr) (cdv ct : Value) (us : List Value), us.length = ps.length → bindArgs (PySem.W.fnOf x x (defArgs st) (defBody st) (defScope st) .none kV doc pm an cdv ct) ⟨us, []⟩ = pure (ps.zip us)) : At K x st ps :=
  ⟨f, _, a, fun_mk l c k, (fun_mk l c k).binds b, fun us hl => b _ _ _ _ _ _ us hl⟩
theorem gat_mk {x : Str} {d : D} {u : Value} (a : PySem.W.nsIn K mainGlobals x = some (some u)) (r : RelV (vOf d) u) (p : plainD d = true) : GAt K x d :=
  ⟨u, vOf d, a, r, fun F => by cases d <;> first | (cases p; done) | constructor⟩
theorem strs_rp {K : PySem.W.Frag} {F : Hp} : ∀ xs : List Str, RpA K F (xs.map V.str) (xs.map PyData.str)
  | [] => .nil
  | x :: xs => .cons (.str x) (strs_rp xs)
theorem gat_tup {x : Str} {t : Addr} {xs : List Str} {dd : Option Addr} {its : Array Value} {n : Nat} {sl : Array (Option Value)} (a : PySem.W.nsIn K mainGlobals x = some (some (.ref t))) (l : K.lookup t = some ⟨.type "tuple", dd, .seq its n, sl⟩) (v : Vals (xs.map V.str) its.toList) (hl : xs.length ≤ 1000) (hne : xs ≠ []) : GAt K x (.tuple (xs.map PyData.str)) := by
  refine ⟨.ref t, .ref t, a, rfl, fun F => .tup (vs := xs.map V.str) ⟨?_, fun z => by
    cases xs with
    | nil => exact absurd rfl hne
    | cons x xs => cases z⟩ (by rw [List.length_map, sizeLine_eq]; omega) (strs_rp xs)⟩
  refine .inr ⟨_, its, n, l, rfl, rfl, ?_, v⟩
  have := v.length
  rw [List.length_map] at this
  rw [sizeLine_eq]
  have e : its.size = its.toList.length := by simp
  omega
theorem xat_mk {x : Str} {C : Addr} (a : PySem.W.nsIn K mainGlobals x = some (some (.ref C))) (k : PySem.W.keepIn K (.ref C) = true) (e : PySem.W.excIn K C [.type "ValueError", .type "Exception", .type "BaseException", .type "object"] "ValueError.__new__" = true)
    (b : PySem.W.subIn K (.ref C) (.type "BaseException") = some true) (t : PySem.W.typeIn K (.ref C) = some (.type "type")) : XAt K x C := ⟨a, k, e, b, t⟩
theorem bi_mk (b1 : PySem.W.nsIn K mainGlobals "len" = some none) (b2 : PySem.W.nsIn K mainGlobals "tuple" = some none) (b3 : PySem.W.nsIn K mainGlobals "list" = some none) (b4 : PySem.W.nsIn K mainGlobals "all" = some none) (b5 : PySem.W.nsIn K mainGlobals "any" = some none)
    (b6 : PySem.W.nsIn K mainGlobals "min" = some none) (b7 : PySem.W.nsIn K mainGlobals "max" = some none) (b8 : PySem.W.nsIn K mainGlobals "int" = some none) (b9 : PySem.W.nsIn K mainGlobals "abs" = some none) (b10 : PySem.W.nsIn K mainGlobals "isinstance" = some none)
    (b11 : PySem.W.nsIn K mainGlobals "range" = some none) (b12 : PySem.W.nsIn K mainGlobals "zip" = some none) (b13 : PySem.W.nsIn K mainGlobals "enumerate" = some none) (b14 : PySem.W.nsIn K mainGlobals "bool" = some none) (b15 : PySem.W.nsIn K mainGlobals "str" = some none)
    (b16 : PySem.W.nsIn K mainGlobals "sorted" = some none) (b17 : PySem.W.nsIn K mainGlobals "set" = some none) (b18 : PySem.W.nsIn K mainGlobals "dict" = some none) : ∀ x ∈ biNames, PySem.W.nsIn K mainGlobals x = some none := by
  unfold biNames
  simp only [List.forall_mem_cons]
  exact ⟨b1, b2, b3, b4, b5, b6, b7, b8, b9, b10, b11, b12, b13, b14, b15, b16, b17, b18, List.forall_mem_nil _⟩
theorem XAt.has {x : Str} {C : Addr} {n : Nat} (a : XAt K x C) (X : K.In h) (G : h.Ns mainGlobals mg) (e : cls n = .ref C) : HasX K mg cls (n, x) := by
  obtain ⟨h1, h2, h3, h4, h5⟩ := a
  exact ⟨C, e, PySem.W.mg_of X G h1, h2, h3, h4, h5⟩
theorem GAt.has {x : Str} {d : D} (a : GAt K x d) (X : K.In h) (G : h.Ns mainGlobals mg) : HasG K mg (x, d) := by
  obtain ⟨u, v, h1, h2, h3⟩ := a
  exact ⟨u, v, PySem.W.mg_of X G h1, h2, h3⟩
theorem At.has0 {x : Str} {st : Stmt} {ps : List Str} {ms : List Bool} (a : At K x st ps) (X : K.In h) (G : h.Ns mainGlobals mg) (e : ms.length = ps.length) : Has P w K mg base cls 0 (x, ms, fun _ => .stuck) := by
  obtain ⟨f, fd, h1, h2, h3, _⟩ := a
  refine ⟨f, fd, ps, PySem.W.mg_of X G h1, h2.kp, h3, ⟨fun vs H Q E z => by rw [spF_len z, e], fun A outer s H args us vs Q E _ _ _ _ z => ?_⟩⟩
  obtain ⟨F, ds, _, _, _, z⟩ := z
  exact z.elim
theorem okDef_cong {t t' : Tb} {d : Def} {ps : List Str} {st : Stmt} (h1 : t.N = t'.N) (h2 : t.fns.map (·.1) = t'.fns.map (·.1)) (h3 : t.gls = t'.gls) (h4 : t.exs = t'.exs) (h5 : t.wh = t'.wh) (h : okDef t d ps st = true) : okDef t' d ps st = true := by
  have ec : t.c = t'.c := by
    unfold Tb.c
    rw [h1, h3, h4, h5]
    have : (fun n : Nat => (t.fns[n]?).map (fun p => p.1)) = (fun n : Nat => (t'.fns[n]?).map (fun p => p.1)) := by
      funext n
      rw [← List.getElem?_map, ← List.getElem?_map]
      exact congrArg (·[n]?) h2
    simp only [this]
  unfold okDef at h ⊢
  rw [← ec, ← h1]
  exact h
theorem At.has {x : Str} {st : Stmt} {ps : List Str} {t : Tb} {d : Def} {L : Nat} (a : At K x st ps) (X : K.In h) (G : h.Ns mainGlobals mg) (ok : okDef t d ps st = true) (B : ∀ x ∈ biNames, mg x = none) (T : MdT P w K mg base cls t L) : Has P w K mg base cls (L + 1) (x, d.ps, evDef t.G d) := by
  obtain ⟨f, fd, h1, h2, h3, _⟩ := a
  exact ⟨f, fd, ps, PySem.W.mg_of X G h1, h2.kp, h3, def_ok ok h2 B T⟩
/-- the law's own def: found once, over every base -/
def HasL (P : Program) (w : World) (K : PySem.W.Frag) (mg : Str → Option Value) (cls : Nat → Value) (L : Nat) (x : Str) (p : Str) (fn : Fn) : Prop := ∃ (f : Addr) (fd : FuncData), mg x = some (.ref f) ∧ (∀ us : List Value, us.length = 1 → bindArgs fd ⟨us, []⟩ = pure ([p].zip us)) ∧
  ∀ base : Heap, FnOk P w K mg base (L2N.CX P w) L f fd [p] (spF K cls [false] fn)
theorem At.hasL {x p : Str} {st : Stmt} {t : Tb} {d : Def} {L : Nat} (a : At K x st [p]) (X : K.In h) (G : h.Ns mainGlobals mg) (ok : okDef t d [p] st = true) (hd : d.ps = [false]) (B : ∀ x ∈ biNames, mg x = none) (T : ∀ base, MdT P w K mg base cls t L) : HasL P w K mg cls (L + 1) x p (evDef t.G d) := by
  obtain ⟨f, fd, h1, h2, h3, h4⟩ := a
  refine ⟨f, fd, PySem.W.mg_of X G h1, h4, fun base => ?_⟩
  rw [← hd]
  exact def_ok ok h2 B (T base)
end
/-- the law's promise: true at every script -/
def spLaw (K : PySem.W.Frag) : Sp := fun vs H Q _ => ∃ (a : Addr) (ns : List Int), vs = [.ref a] ∧ SqF K H a (ns.map V.int) ∧ ns.length ≤ 63 ∧ ∀ H', Q (.bl true) H'
theorem sqf_of {K : PySem.W.Frag} {H : Hp} {a : Addr} {xs : List V} (hO : Only H) (h : SqL K H a xs) : SqF K H a xs := by
  rcases h with (h | ⟨o, h⟩) | h
  · rcases hO a with z | ⟨o, ys, z⟩
    · rw [h] at z; cases z
    · rw [h] at z; cases z
  · exact .inl ⟨o, h⟩
  · exact .inr h
theorem law_walk {l : PySem.W.OpenLaw} {q : Program} {loose : List Str} {XP : (Str → Option Value) → Heap → Prop} {YP : World → Heap → Prop} {d : DefRec} {K : Params → PySem.W.Frag} {k : Nat} {f_law : Fn} {p : Str} (hn : l.most = some 63) (hdf : d.params.defaults = []) (hr : Room k callerA)
    (hY : ∀ (w : World) (h : Heap), YP w h → (K w.params).In h) (ht : ∀ ns : List Int, ns.length ≤ 63 → f_law [scr ns] = .ok (.bool true) [])
    (F : ∀ (w : World) (mg : Str → Option Value) (h : Heap), (K w.params).In h → h.Ns mainGlobals mg → ∃ cls : Nat → Value, HasL l.prog w (K w.params) mg cls k d.name p f_law) :
    PySem.W.WalkO q loose XP YP l.row.toRowW d [] (fun f vs => PySem.call f vs) := by
  refine L2.walk_of (n := 63) (k := k) (x := p) (K := K) (CX := fun w => L2N.CX l.prog w) (sp := fun w => spLaw (K w.params)) hn (by rw [sizeLine_eq]; omega) hdf hr hY (fun w mg fa h X G hmg => ?_) (fun w H a ns hl hO hS => ⟨a, ns, rfl, sqf_of hO hS, hl, fun _ => rfl⟩) fun w H s e s' hc => ?_
  · obtain ⟨cls, f, fd, h1, h2, h3⟩ := F w mg h X G
    rw [hmg] at h1
    cases h1
    refine ⟨fd, fun s u => .of_eq (h2 [u] rfl), fun base _ _ => (h3 base).imp fun vs H Q E h => ?_⟩
    obtain ⟨a, ns, rfl, hS, hl, q⟩ := h
    refine ⟨H, [scr ns], Ex.refl H, .im (.scr ns hS) .nil, List.nodup_nil, ?_⟩
    rw [ht ns hl]
    intro v F' H' _ r _
    cases r
    exact q H'
  · obtain ⟨_, _, _, _, _, _, _, _, _, _, _, _, z⟩ := hc
    exact z.elim
end Nv

set_option Elab.async false
set_option linter.all false
set_option maxRecDepth 100000
/-! NvX: the text of the def that tells which of the own exceptions was caught. -/
namespace Nv
open PySem PySem.Spec PyProof.Rows L2

/-! ### the look at the text -/
def isPart (sc : Scope) (en : Str) (e : Expr) : Option Str := match e with
  | .Call (.Name f _) [.Name x _, .Name t _] [] _ => if f = ("isinstance" : Str) ∧ glB sc "isinstance" = true ∧ x = en ∧ visB sc en = true ∧ plainN en = true ∧ glB sc t = true ∧ plainN t = true then some t else none
  | _ => none
def isParts (sc : Scope) (en : Str) : List Expr → Option (List Str)
  | [] => some []
  | e :: es => (isPart sc en e).bind fun t => (isParts sc en es).map (t :: ·)
def midPart (sc : Scope) (en own : Str) (st : Stmt) : Option (List Str) := match st with
  | .Expr (.Call (.Attribute (.Name o _) m ap) [a] [] cp) _ =>
    if o = own ∧ ap.endLine = cp.line then
      (if m = ("extend" : Str) then (match a with
        | .List es _ => isParts sc en es
        | _ => none)
      else if m = ("append" : Str) then (isPart sc en a).map fun t => [t]
      else none)
    else none
  | _ => none
/-- the test and the two answers -/
def endPart (sc : Scope) (en own r : Str) : List Stmt → Bool
  | [.If (.BoolOp .Or [.Compare (.Call (.Attribute (.Name o1 _) m1 ap1) [.Constant (.bool true) _ _] [] cp1) [.NotEq] [.Constant (.int 1) _ _] _, .UnaryOp .Not e2 _] _) _ [] _, .Return (some (.Tuple [.Constant (.str r2) _ _, .Call (.Attribute (.Name o2 _) m2 ap2) [.Constant (.bool true) _ _] [] cp2] _ _)) _] =>
    decide (o1 = own) && decide (m1 = ("count" : Str)) && decide (ap1.endLine = cp1.line) && decide (isPart sc en e2 = some ("ValueError" : Str)) && decide (r2 = r) && decide (o2 = own) && decide (m2 = ("index" : Str)) && decide (ap2.endLine = cp2.line)
  | _ => false
def restPart (sc : Scope) (en own r : Str) : List Stmt → Option (List Str)
  | [] => none
  | st :: sts => if endPart sc en own r (st :: sts) = true then some [] else (midPart sc en own st).bind fun ns => (restPart sc en own r sts).map (ns ++ ·)
def whPart (sc : Scope) (en own r : Str) : List Stmt → Option (List Str)
  | .Assign [.Name o _] (.List es _) _ :: sts => if o = own then (isParts sc en es).bind fun ns => (restPart sc en own r sts).map (ns ++ ·) else none
  | _ => none

section
variable {X : Cx} {D : Addr} {p : Addr × Obj} {b : Str → Bool} {en own : Str}
/-- what is known within that def -/
structure WhX (X : Cx) (D : Addr) (p : Addr × Obj) (b : Str → Bool) (en own : Str) : Prop where
  C : ExcC X.K D
  hz : Zc (.ref D) none p.2
  hf : ∃ vs, p.2.data = .fields vs
  hp : p ∈ X.pn
  N : X.N = [en, own]
  nd : X.N.Nodup
  kind : X.env.scope.kind = .function
  fn : ∀ x, X.fn x = true
  hu : X.A.units + 65 < cLine
  bi : X.mg "isinstance" = none
  ve : X.mg "ValueError" = none
  veB : PySem.W.kitOne X.K (.ref D) (.type "ValueError") = some true
  ownL : L2.Loc X.env.scope own
  ownP : plainN own = true
theorem WhX.n0 (h : WhX X D p b en own) : X.N[0]? = some en := by rw [h.N]; rfl
theorem WhX.n1 (h : WhX X D p b en own) : X.N[1]? = some own := by rw [h.N]; rfl
/-- the class named so tells the exception as b says -/
def KnowsC (X : Cx) (D : Addr) (b : Str → Bool) (t : Str) : Prop := ∃ C, X.mg t = some (.ref C) ∧ PySem.W.kitOne X.K (.ref D) (.ref C) = some (b t)
def tIs (p : Addr × Obj) (c : Bool) : TE := fun σ H Q => σ[0]? = some (some (.ref p.1)) ∧ Q (.bl c) H
theorem PE.weak {e : Expr} {t t' : TE} (h : PE X e t) (w : ∀ σ H Q, t' σ H Q → t σ H Q) : PE X e t' := ⟨fun pins s σ H Q I q => h.run pins s σ H Q I (w σ H Q q)⟩
theorem is_ok (h : WhX X D p b en own) {e : Expr} {t : Str} (hp : isPart X.env.scope en e = some t) {tv : V} {c : Bool} (hT : ∀ q, glB X.env.scope t = true → plainN t = true → PE X (.Name t q) (tC tv)) {cv : Value} (hcv : ∀ u, RelV tv u → u = cv) (hk : PySem.W.kitOne X.K (.ref D) cv = some c) : PE X e (tIs p c) := by
  unfold isPart at hp
  split at hp
  · split at hp
    · rename_i hb
      cases hp
      obtain ⟨b1, b2, b3, b4, b5, b6, b7⟩ := hb
      subst b1 b3
      refine PE.weak (pe_callB (call_isW h.C h.hz h.hf h.hp) (kindIs_iff b2) h.bi (by decide +kernel) (pa_cons (pe_var h.n0 (visB_iff b4) (plainN_iff b5).1 (plainN_iff b5).2) (pa_cons (hT _ b6 b7) pa_nil rfl) rfl) (by decide +kernel) (by decide +kernel) rfl rfl) fun σ H Q q => ?_
      exact ⟨_, q.1, tv, cv, c, rfl, hcv, hk, q.2⟩
    · cases hp
  · cases hp
theorem isC_ok (h : WhX X D p b en own) {e : Expr} {t : Str} (hp : isPart X.env.scope en e = some t) (k : KnowsC X D b t) : PE X e (tIs p (b t)) := by
  obtain ⟨C, k1, k2⟩ := k
  exact is_ok h hp (tv := .ref C) (fun q g1 g2 => pe_glob (kindIs_iff g1) k1 rfl (plainN_iff g2).1) (fun u r => r) k2
theorem isPart_star {sc : Scope} {e : Expr} {t : Str} (h : isPart sc en e = some t) : notStar e = true := by
  unfold isPart at h
  split at h
  · rfl
  · cases h
def tIss (p : Addr × Obj) (b : Str → Bool) (ns : List Str) : TA := fun σ H Q => σ[0]? = some (some (.ref p.1)) ∧ Q (ns.map fun t => .bl (b t)) H
theorem iss_ok (h : WhX X D p b en own) : ∀ {es : List Expr} {ns : List Str}, isParts X.env.scope en es = some ns → (∀ t ∈ ns, KnowsC X D b t) → PA X es (tIss p b ns)
  | [], ns, hp, hk => by
    cases hp
    exact ⟨fun pos pins s σ H Q I q => pa_nil.run pos pins s σ H Q I q.2⟩
  | e :: es, ns, hp, hk => by
    simp only [isParts, Option.bind_eq_some_iff, Option.map_eq_some_iff] at hp
    obtain ⟨t, h1, r, h2, rfl⟩ := hp
    have k1 := isC_ok h h1 (hk t List.mem_cons_self)
    have k2 := iss_ok h h2 fun u hu => hk u (List.mem_cons_of_mem _ hu)
    refine ⟨fun pos pins s σ H Q I q => (pa_cons k1 k2 (star_ne (isPart_star h1))).run pos pins s σ H Q I ?_⟩
    exact ⟨q.1, q.1, q.2⟩
/-- the own list holds what was asked so far -/
def Iv (p : Addr × Obj) (b : Str → Bool) (H0 : Hp) (acc : List Str) (σ : L2.St) (H : Hp) : Prop := ∃ q, σ[0]? = some (some (.ref p.1)) ∧ σ[1]? = some (some (.ref q)) ∧ H q = some (.lst (acc.map fun t => .bl (b t))) ∧ H0 q = none ∧ (∀ c o, H0 c = some o → H c = some o) ∧ ∀ c, H0 c ≠ none → H c ≠ none
theorem PSs.weak1 {st : Stmt} {t t' : TS} (h : PS X st t) (w : ∀ D σ H, t' D σ H → t D σ H) : PS X st t' := ⟨fun pins s σ H D I q => h.run pins s σ H D I (w D σ H q)⟩
theorem bls_rp {K : PySem.W.Frag} {F : Hp} (l : List Bool) : RpA K F (l.map V.bl) (l.map PyData.bool) := by
  induction l with
  | nil => exact .nil
  | cons x xs ih => exact .cons (.bl x) ih
theorem bls_lay : ∀ l : List Bool, PyData.canLayAll0 (l.map PyData.bool) = true
  | [] => by simp [PyData.canLayAll0]
  | x :: xs => by simp [PyData.canLayAll0, PyData.canLay0, bls_lay xs]
theorem bls_dep : ∀ l : List Bool, PyData.depthAll (l.map PyData.bool) ≤ 1
  | [] => by simp [PyData.depthAll]
  | x :: xs => by
    have := bls_dep xs
    simp only [List.map_cons, PyData.depthAll, PyData.depth]
    omega
theorem bls_shaped (l : List Bool) : SeqAt.shaped (.list (l.map PyData.bool)) = true := by
  have h1 := bls_dep l
  unfold SeqAt.shaped
  rw [Bool.and_eq_true]
  refine ⟨by simp only [PyData.canLay0]; exact bls_lay l, decide_eq_true ?_⟩
  simp only [PyData.depth]
  omega
theorem mid_ok (h : WhX X D p b en own) {st : Stmt} {ns : List Str} (hp : midPart X.env.scope en own st = some ns) (hk : ∀ t ∈ ns, KnowsC X D b t) :
    PS X st (fun Dn σ H => ∃ H0 acc, Iv p b H0 acc σ H ∧ acc.length + ns.length ≤ 1000 ∧ ∀ H', Iv p b H0 (acc ++ ns) σ H' → Dn.nx σ H') := by
  have hz := sizeLine_eq
  have ho : ∀ q, PE X (.Name own q) (tVar 1) := fun q => pe_var h.n1 (h.ownL.elim .inl fun z => .inr (.inl z)) (plainN_iff h.ownP).1 (plainN_iff h.ownP).2
  unfold midPart at hp
  split at hp
  · split at hp
    · rename_i hb
      obtain ⟨b1, b2⟩ := hb
      subst b1
      split at hp
      · rename_i hm
        subst hm
        split at hp
        · rename_i es pl
          have hl : PE X (.List es pl) (tLst (tIss p b ns)) := pe_lst (iss_ok h hp hk)
          refine PSs.weak1 (ps_expr (pe_bm PySem.F.plainAttrs_list PySem.F.slot_list_extend PySem.F.type_list_extend mt_extend (ho _) (pa_cons hl pa_nil rfl) rfl rfl (by simpa using b2) rfl rfl) rfl) fun Dn σ H q => ?_
          obtain ⟨H0, acc, ⟨q, i0, i1, i2, i3, i4, i5⟩, hz1, hn⟩ := q
          refine ⟨.ref q, i1, .inl ⟨rfl, _, SqL.of i2⟩, i0, by rw [List.length_map]; omega, fun r hr => ?_⟩
          have nqr : q ≠ r := fun z => by rw [z, hr] at i2; cases i2
          refine ⟨q, r, _, _, rfl, rfl, by rw [upd_ne nqr]; exact i2, upd_same, by simp only [List.length_map]; omega, ?_⟩
          refine hn _ ⟨q, i0, i1, by rw [upd_same, List.map_append], i3, fun c o e => ?_, fun c e z => ?_⟩
          · have h1 : c ≠ q := fun z => by rw [z, i3] at e; cases e
            have h2 : c ≠ r := fun z => by
              have := i4 c o e
              rw [z, hr] at this
              cases this
            rw [upd_ne h1, upd_ne h2]
            exact i4 c o e
          · by_cases h1 : c = q
            · rw [h1] at e
              exact e i3
            · by_cases h2 : c = r
              · rw [h2, upd_ne (Ne.symm nqr), upd_same] at z
                cases z
              · rw [upd_ne h1, upd_ne h2] at z
                exact i5 c e z
        · cases hp
      · split at hp
        · rename_i hm
          subst hm
          obtain ⟨t, h1, rfl⟩ := Option.map_eq_some_iff.mp hp
          have k1 := isC_ok h h1 (hk t List.mem_cons_self)
          refine PSs.weak1 (ps_expr (pe_bm PySem.F.plainAttrs_list PySem.F.slot_list_append PySem.F.type_list_append mt_append (ho _) (pa_cons k1 pa_nil (star_ne (isPart_star h1))) rfl (by rw [star_ne (isPart_star h1)]; rfl) (by simpa using b2) (star_ne (isPart_star h1)) rfl) rfl) fun Dn σ H q => ?_
          obtain ⟨H0, acc, ⟨q, i0, i1, i2, i3, i4, i5⟩, hz1, hn⟩ := q
          refine ⟨.ref q, i1, .inl ⟨rfl, _, SqL.of i2⟩, i0, ?_⟩
          refine ⟨q, _, _, rfl, rfl, i2, by simp only [List.length_map]; simp at hz1; omega, ?_⟩
          refine hn _ ⟨q, i0, i1, by rw [upd_same, List.map_append]; rfl, i3, fun c o e => ?_, fun c e z => ?_⟩
          · have h1 : c ≠ q := fun z => by rw [z, i3] at e; cases e
            rw [upd_ne h1]
            exact i4 c o e
          · by_cases h1 : c = q
            · rw [h1] at e
              exact e i3
            · rw [upd_ne h1] at z
              exact i5 c e z
        · cases hp
    · cases hp
  · cases hp
/-- the answer -/
def whD (r : Str) (l : List Bool) : PyData := .tuple [.str r, .int ((l.idxOf true : Nat) : Int)]
theorem eqv_tt (z : Bool) : PyData.eqv (.bool z) (.bool true) = z := by cases z <;> simp [PyData.eqv]
theorem cnt_eq (l : List Bool) : (l.map PyData.bool).countP (fun z => PyData.eqv z (.bool true)) = l.count true := by
  rw [List.countP_map]
  unfold List.count
  refine List.countP_congr fun z _ => ?_
  show PyData.eqv (.bool z) (.bool true) = true ↔ (z == true) = true
  rw [eqv_tt]
  cases z <;> simp
theorem idx_at {l : List Bool} (h : l.count true = 1) : l[l.idxOf true]? = some true ∧ ∀ m, m < l.idxOf true → l[m]? ≠ some true := by
  have hm : true ∈ l := List.count_pos_iff.mp (by omega)
  have hl := List.idxOf_lt_length_iff.mpr hm
  refine ⟨by rw [List.getElem?_eq_getElem hl, List.getElem_idxOf hl], fun m hm2 e => ?_⟩
  obtain ⟨h1, h2⟩ := List.getElem?_eq_some_iff.mp e
  have := List.not_of_lt_findIdx (p := (· == true)) (xs := l) (i := m) hm2
  rw [h2] at this
  simp at this
theorem isPart_true {sc : Scope} {e : Expr} {t : Str} {env : Env} (h : isPart sc en e = some t) : ∀ whole, isTrue e env whole = (do let v ← whole; standAt e.pos; holding [v] (truthy v)) := by
  unfold isPart at h
  split at h
  · intro _; rfl
  · cases h
theorem shaped_b (z : Bool) : SeqAt.shaped (.bool z) = true := by cases z <;> decide
theorem shaped_i (i : Int) : SeqAt.shaped (.int i) = true := by
  unfold SeqAt.shaped
  simp [PyData.canLay0, PyData.depth]
theorem end_ok (h : WhX X D p b en own) {r : Str} {sts : List Stmt} (hp : endPart X.env.scope en own r sts = true) :
    PSs X sts (fun Dn σ H => ∃ H0 acc, Iv p b H0 acc σ H ∧ acc.length ≤ 1000 ∧ (acc.map b).count true = 1 ∧ ∃ F, Ex F H0 ∧ ∀ v F' H', Stp (fun _ => False) F H0 F' H' → Rp X.K F' v (whD r (acc.map b)) → Dn.rt v H') := by
  have hz := sizeLine_eq
  have ho : ∀ q, PE X (.Name own q) (tVar 1) := fun q => pe_var h.n1 (h.ownL.elim .inl fun z => .inr (.inl z)) (plainN_iff h.ownP).1 (plainN_iff h.ownP).2
  have hc : ∀ (q ap cp p1 : Pos) (j : Nat), ap.endLine = cp.line → PE X (.Call (.Attribute (.Name own q) "count" ap) [.Constant (.bool true) j p1] [] cp) (tBM X.K "list" (rCountD X.K) (tVar 1) (tCons (tC (.bl true)) tNil)) := fun q ap cp p1 j hl =>
    pe_bm PySem.F.plainAttrs_list PySem.F.slot_list_count PySem.F.type_list_count (mt_countD h.hu) (ho _) (pa_cons pe_bl pa_nil rfl) rfl rfl (by simpa using hl) rfl rfl
  have hx : ∀ (q ap cp p1 : Pos) (j : Nat), ap.endLine = cp.line → PE X (.Call (.Attribute (.Name own q) "index" ap) [.Constant (.bool true) j p1] [] cp) (tBM X.K "list" (rIndexD X.K) (tVar 1) (tCons (tC (.bl true)) tNil)) := fun q ap cp p1 j hl =>
    pe_bm PySem.F.plainAttrs_list PySem.F.slot_list_index PySem.F.type_list_index (mt_indexD h.hu) (ho _) (pa_cons pe_bl pa_nil rfl) rfl rfl (by simpa using hl) rfl rfl
  unfold endPart at hp
  split at hp
  · simp only [Bool.and_eq_true, decide_eq_true_eq] at hp
    obtain ⟨⟨⟨⟨⟨⟨⟨b1, b2⟩, b3⟩, b4⟩, b5⟩, b6⟩, b7⟩, b8⟩ := hp
    subst b2 b5 b7
    cases b1
    cases b6
    have hv := is_ok h b4 (tv := .ty "ValueError") (fun q g1 g2 => pe_bltn (kindIs_iff g1) h.ve (by decide +kernel) rfl (by decide +kernel) (by decide +kernel)) (fun u r => r) h.veB
    have hj : ∀ l : List Stmt, PSs X l (fun _ _ _ => False) := fun l => ⟨fun _ _ _ _ _ _ z => z.elim⟩
    refine PSs.weak (pss_cons (ps_if (pw_or (pt_cmpR (op_neD (by have := h.hu; omega)) (hc _ _ _ _ _ b3) pe_int rfl) (pw_or1 (pt_not (pt_val hv (isPart_true b4))))).pt (hj _) pss_nil) (pss_cons (ps_ret (pe_tup (pa_cons pe_str (pa_cons (hx _ _ _ _ _ b8) pa_nil rfl) rfl))) pss_nil)) fun Dn σ H q => ?_
    obtain ⟨H0, acc, ⟨q, i0, i1, i2, i3, i4, i5⟩, hz1, hcnt, F, hF, hQ⟩ := q
    have rl := bls_rp (K := X.K) (F := H) (acc.map b)
    rw [List.map_map, show (V.bl ∘ b) = fun t => V.bl (b t) from rfl] at rl
    have hd : Dp X.K H (.ref q) (.list ((acc.map b).map PyData.bool)) := .lst (SqL.of i2) (rl.dp _ _ (bls_lay _))
    have hsh := bls_shaped (acc.map b)
    obtain ⟨e1, e2⟩ := idx_at hcnt
    refine ⟨.ref q, i1, .inl ⟨rfl, _, SqL.of i2⟩, q, .bl true, .bool true, _, rfl, rfl, hd, .bl true, hsh, shaped_b true, ?_⟩
    rw [cnt_eq, hcnt]
    refine ⟨.int 1, .int 1, .int 1, .int 1, shaped_i 1, shaped_i 1, _, rfl, ?_⟩
    have e0 : (!(PyData.int (1 : Int)).eqv (PyData.int 1)) = false := by simp [PyData.eqv]
    rw [e0]
    refine iteF ?_
    refine ⟨i0, true, rfl, ?_⟩
    refine iteF ?_
    refine ⟨.ref q, i1, .inl ⟨rfl, _, SqL.of i2⟩, q, .bl true, .bool true, _, (acc.map b).idxOf true, .bool true, rfl, rfl, hd, .bl true, hsh, shaped_b true, ?_, rfl, fun m z hm hz2 => ?_, ?_⟩
    · rw [List.getElem?_map, e1]
      rfl
    · rw [List.getElem?_map] at hz2
      obtain ⟨y, hy, rfl⟩ := Option.map_eq_some_iff.mp hz2
      rw [eqv_tt]
      cases y with
      | false => rfl
      | true => exact absurd hy (e2 m hm)
    · refine ⟨by show 2 ≤ sizeLine; omega, fun r' hr => ?_⟩
      have hFH : Ex F H := fun a o e => i4 a o (hF a o e)
      have s1 : Stp (fun _ => False) F H0 F H := ⟨Ex.refl F, hFH, fun _ _ _ z => z, fun a o _ e => i4 a o e, i5⟩
      refine hQ _ _ _ (s1.trans (Stp.new hFH hr)) ?_
      exact tup_at hFH hr (by show 2 ≤ sizeLine; omega) (.cons (.str _) (.cons (.int _) .nil))
  · cases hp
theorem rest_ok (h : WhX X D p b en own) {r : Str} : ∀ {sts : List Stmt} {ns : List Str}, restPart X.env.scope en own r sts = some ns → (∀ t ∈ ns, KnowsC X D b t) →
    PSs X sts (fun Dn σ H => ∃ H0 acc, Iv p b H0 acc σ H ∧ acc.length + ns.length ≤ 1000 ∧ ((acc ++ ns).map b).count true = 1 ∧ ∃ F, Ex F H0 ∧ ∀ v F' H', Stp (fun _ => False) F H0 F' H' → Rp X.K F' v (whD r ((acc ++ ns).map b)) → Dn.rt v H')
  | [], ns, hp, hk => by cases hp
  | st :: sts, ns, hp, hk => by
    unfold restPart at hp
    split at hp
    · rename_i he
      cases hp
      refine PSs.weak (end_ok h he) fun Dn σ H q => ?_
      obtain ⟨H0, acc, i, hl, q⟩ := q
      rw [List.append_nil] at q
      exact ⟨H0, acc, i, by simpa using hl, q⟩
    · simp only [Option.bind_eq_some_iff, Option.map_eq_some_iff] at hp
      obtain ⟨ms, h1, rs, h2, rfl⟩ := hp
      refine PSs.weak (pss_cons (mid_ok h h1 fun t ht => hk t (List.mem_append_left _ ht)) (rest_ok h h2 fun t ht => hk t (List.mem_append_right _ ht))) fun Dn σ H q => ?_
      obtain ⟨H0, acc, i, hl, hc, q⟩ := q
      rw [List.length_append] at hl
      refine ⟨H0, acc, i, by omega, fun H' i' => ⟨H0, acc ++ ms, i', by rw [List.length_append]; omega, ?_⟩⟩
      rw [List.append_assoc]
      exact ⟨hc, q⟩
theorem wh_ok (h : WhX X D p b en own) {r : Str} {sts : List Stmt} {ns : List Str} (hp : whPart X.env.scope en own r sts = some ns) (hk : ∀ t ∈ ns, KnowsC X D b t) (hl : ns.length ≤ 1000) (hc : (ns.map b).count true = 1) :
    PSs X sts (fun Dn σ H => σ[0]? = some (some (.ref p.1)) ∧ σ.length = 2 ∧ ∃ F, Ex F H ∧ ∀ v F' H', Stp (fun _ => False) F H F' H' → Rp X.K F' v (whD r (ns.map b)) → Dn.rt v H') := by
  have hz := sizeLine_eq
  unfold whPart at hp
  split at hp
  · split at hp
    · rename_i hb
      subst hb
      simp only [Option.bind_eq_some_iff, Option.map_eq_some_iff] at hp
      obtain ⟨ms, h1, rs, h2, rfl⟩ := hp
      rw [List.length_append] at hl
      refine PSs.weak (pss_cons (ps_set h.nd h.n1 h.ownL (pe_lst (iss_ok h h1 fun t ht => hk t (List.mem_append_left _ ht))) rfl (.inl (h.fn _))) (rest_ok h h2 fun t ht => hk t (List.mem_append_right _ ht))) fun Dn σ H q => ?_
      obtain ⟨s0, s1, F, hF, hQ⟩ := q
      refine ⟨s0, by rw [List.length_map]; omega, fun q hq => ?_⟩
      refine ⟨H, ms, ⟨q, ?_, ?_, upd_same, hq, fun c o e => ?_, fun c e z => ?_⟩, hl, hc, F, hF, hQ⟩
      · rw [List.getElem?_set_ne (by decide)]
        exact s0
      · rw [List.getElem?_set_self (by omega)]
      · rw [upd_ne (fun z => by rw [z, hq] at e; cases e)]
        exact e
      · rw [upd_ne (fun y => e (by rw [y]; exact hq))] at z
        exact e z
    · cases hp
  · cases hp
end
section
variable {P : Program} {w : World} {K : PySem.W.Frag} {mg : Str → Option Value} {base : Heap}
theorem fnW_of {x : Str} {st : Stmt} {f : Addr} {fd : FuncData} {n : Str} {N : List Str} {k : Nat} {hd : Value → D → Prop} (F : L2.Fun K x x st f fd) (S : FnScope N [n] (defScope st))
    (hbody : ∀ (cdv : Value) (A : Around) (outer : List Env) (s : Shared) (H : Hp) (Q : VK) (E : XK) (p : Addr × Obj) (cl : Value) (dd : D), L2H.Hot1 A p → L2H.RoomH k (A.deeper (envOfC x (defScope st) s.heap.objs.size f cdv)) → Zc cl none p.2 → (∃ vs, p.2.data = .fields vs) → hd cl dd →
      (∃ F, Ex F H ∧ ∀ v F' H', Stp (fun _ => False) F H F' H' → Rp K F' v dd → Q v H') →
      ∃ t, PSs (L2H.cxH (L2N.CX P w) P w K mg base N x (defScope st) f cdv A outer s H E p) (defBody st) t ∧ t { nx := fun _ H' => Q .non H', rt := Q } (L2.start N [.ref p.1]) H) :
    FnW P w K mg base (k + 1) f fd n hd := by
  obtain ⟨oc, od, kV, doc, pm, an, cdv, ct, osl, rfl, lk, hcd⟩ := F.ex
  refine ⟨fun A outer s H args Q E p cl dd hr hot hpin hz hf e0 hb hdd hQ => ?_⟩
  have KX : K.In s.heap := e0.mod.kin.keeps fun b o e => (e0.bs b o e).1
  have lim : s.heap.NoLimit := e0.mod.nolimit.keeps fun b o e => (e0.bs b o e).1
  have hkind : ∀ y ∈ [n].zip [Value.ref p.1], (defScope st).names.lookup y.1 = some .local ∨ ((defScope st).names.lookup y.1 = some .cell ∧ ((cellsFrom (s.heap.objs.size + 1) (defScope st).names []).lookup y.1).isSome = true) := fun ⟨n, v⟩ hy => by
    rcases S.par n (List.of_mem_zip hy).1 with q | q
    · exact .inl q
    · exact .inr ⟨q, PySem.W.cellsFrom_some _ _ _ (.inl q)⟩
  refine codeAny_call_function hr.depth (KX _ _ lk) rfl S.co S.gen rfl (PySem.W.codeRec_of KX hcd) (hb _ _ _ _ ?_)
  refine wpAny_newFunctionEnv_cells S.kind hkind fun env he s1 xc => ?_
  subst he
  refine ⟨lim.keeps xc.toInCall.keep, codeAny_func ?_⟩
  obtain ⟨t, ht, hq⟩ := hbody cdv A outer s H Q E p cl dd hot (hr.deeper _) hz hf hdd hQ
  have I : Inv (L2H.cxH (L2N.CX P w) P w K mg base N x (defScope st) f cdv A outer s H E p) [] (L2.start N [.ref p.1]) H s1 := L2H.inv_startH S hpin e0 rfl (.cons rfl .nil) xc
  refine wpAny_mono (ht.run [] s1 (L2.start N [.ref p.1]) H _ I hq) (fun fl s' hs => ?_) fun e s' hs => hs
  have fin : ∀ {σ' : L2.St} {H' : Hp} {v : V} {u : Value}, Inv (L2H.cxH (L2N.CX P w) P w K mg base N x (defScope st) f cdv A outer s H E p) [] σ' H' s' → RelV v u → Q v H' → CE outer P w H s Q u s' :=
    fun {σ' H' v u} J rv q => ⟨v, H', J.os, J.bare, J.base, J.hok, rv, q⟩
  cases fl with
  | ret u =>
    obtain ⟨v, σ', H', J, rv, q⟩ := hs
    exact fin J rv q
  | next =>
    obtain ⟨σ', H', J, q⟩ := hs
    exact fin (v := V.non) (u := Value.none) J rfl q
  | brk =>
    obtain ⟨_, _, _, q⟩ := hs
    exact False.elim q
  | cont =>
    obtain ⟨_, _, _, q⟩ := hs
    exact False.elim q
/-- all that a look at its text tells -/
def okWh (en own r : Str) (ns : List Str) (st : Stmt) : Bool := scB [en, own] [en] (defScope st) && decide (whPart (defScope st) en own r (defBody st) = some ns) && locB (defScope st) own && plainN own && decide (ns.length ≤ 1000)
/-- what is known of an own exception: how it answers the classes' names -/
def KnowsX (K : PySem.W.Frag) (mg : Str → Option Value) (cls : Nat → Value) (ns : List Str) (p : Nat × Str) : Prop := ∃ D, cls p.1 = .ref D ∧ ExcC K D ∧ PySem.W.kitOne K (.ref D) (.type "ValueError") = some true ∧
  ∀ t ∈ ns, ∃ C, mg t = some (.ref C) ∧ PySem.W.kitOne K (.ref D) (.ref C) = some (decide (t = p.2))
/-- what it tells -/
def whL (r : Str) (ns : List Str) (xs : List (Nat × Str)) : List (Nat × D) := xs.map fun p => (p.1, whD r (ns.map fun t => decide (t = p.2)))
theorem wh_def {x : Str} {st : Stmt} {f : Addr} {fd : FuncData} {en own r : Str} {ns : List Str} {xs : List (Nat × Str)} {cls : Nat → Value} {k : Nat} (hok : okWh en own r ns st = true) (Fn : L2.Fun K x x st f fd) (bi : mg "isinstance" = none) (ve : mg "ValueError" = none)
    (hX : ∀ p ∈ xs, KnowsX K mg cls ns p) (hc : xs.all (fun p => decide ((ns.map fun t => decide (t = p.2)).count true = 1)) = true) :
    FnW P w K mg base (k + 1) f fd en (fun cl dd => ∃ n, cl = cls n ∧ (whL r ns xs).lookup n = some dd) := by
  unfold okWh at hok
  simp only [Bool.and_eq_true, decide_eq_true_eq] at hok
  obtain ⟨⟨⟨⟨h1, h2⟩, h3⟩, h4⟩, h5⟩ := hok
  have S := scC_of h1
  refine fnW_of Fn S fun cdv A outer s H Q E p cl dd hot hr hz hf hdd hQ => ?_
  obtain ⟨n, rfl, hl⟩ := hdd
  have hm := lookup_mem hl
  unfold whL at hm
  obtain ⟨q, hq, e⟩ := List.mem_map.mp hm
  cases e
  obtain ⟨D, k1, k2, k3, k4⟩ := hX q hq
  have hcq := of_decide_eq_true (List.all_eq_true.mp hc q hq)
  rw [k1] at hz
  have W : WhX (L2H.cxH (L2N.CX P w) P w K mg base [en, own] x (defScope st) f cdv A outer s H E p) D p (fun t => decide (t = q.2)) en own :=
    ⟨k2, hz, hf, List.mem_cons_self, rfl, S.nd, S.kind, fun _ => rfl, by have := hr.un; show (A.deeper _).units + 65 < cLine; omega, bi, ve, k3, locB_iff h3, h4⟩
  exact ⟨_, wh_ok W h2 k4 h5 hcq, rfl, rfl, hQ⟩
end
/-! ### the head's facts -/
theorem kit_ref {K : PySem.W.Frag} {D C : Addr} {b : Bool} (h0 : PySem.W.isClsIn K C = true) (h1 : PySem.W.typeIn K (.ref C) = some (.type "type")) (h2 : PySem.W.subIn K (.ref D) (.ref C) = some b) (hb : b = false → D ≠ C) : PySem.W.kitOne K (.ref D) (.ref C) = some b := by
  unfold PySem.W.kitOne
  split
  · rename_i e
    have : D = C := Value.ref.inj (beq_iff_eq.mp e)
    cases b with
    | true => rfl
    | false => exact absurd this (hb rfl)
  · unfold PySem.W.kitCls
    have e : ((PySem.W.clsIn K C).isSome && PySem.W.typeIn K (.ref C) == some (.type "type")) = true := by
      unfold PySem.W.isClsIn at h0
      rw [h0, h1]
      rfl
    simp only [e, if_true]
    exact h2
theorem kit_ve {K : PySem.W.Frag} {D : Addr} (h : PySem.W.subIn K (.ref D) (.type "ValueError") = some true) : PySem.W.kitOne K (.ref D) (.type "ValueError") = some true := by
  unfold PySem.W.kitOne
  rw [if_neg (fun z => nomatch (beq_iff_eq.mp z : Value.ref D = Value.type "ValueError"))]
  unfold PySem.W.kitCls
  simp only [show PySem.W.kitMeta "ValueError" = true by decide +kernel, if_true]
  exact h
/-- a class of the text -/
def CAt (K : PySem.W.Frag) (x : Str) (C : Addr) : Prop := PySem.W.nsIn K mainGlobals x = some (some (.ref C)) ∧ PySem.W.isClsIn K C = true ∧ PySem.W.typeIn K (.ref C) = some (.type "type")
/-- what the classes tell of the own exception at D -/
def SAt (K : PySem.W.Frag) (D : Addr) (x : Str) : List (Str × Addr) → Prop
  | [] => True
  | (t, C) :: l => (PySem.W.subIn K (.ref D) (.ref C) = some (decide (t = x)) ∧ (t ≠ x → D ≠ C)) ∧ SAt K D x l
theorem SAt.get {K : PySem.W.Frag} {D : Addr} {x : Str} : ∀ {l : List (Str × Addr)}, SAt K D x l → ∀ q ∈ l, PySem.W.subIn K (.ref D) (.ref q.2) = some (decide (q.1 = x)) ∧ (q.1 ≠ x → D ≠ q.2)
  | [], _, q, hq => by cases hq
  | (t, C) :: l, h, q, hq => by
    rcases List.mem_cons.mp hq with z | z
    · rw [z]; exact h.1
    · exact SAt.get h.2 q z
structure DAt (K : PySem.W.Frag) (D OE : Addr) : Prop where
  C : ExcC K D
  ve : PySem.W.subIn K (.ref D) (.type "ValueError") = some true
  oe : PySem.W.subIn K (.ref D) (.ref OE) = some true
def OAt (K : PySem.W.Frag) (x : Str) (C : Addr) : Prop := PySem.W.nsIn K mainGlobals x = some (some (.ref C)) ∧ PySem.W.subIn K (.ref C) (.type "BaseException") = some true ∧ PySem.W.hasDictIn K C = true ∧ PySem.W.typeIn K (.ref C) = some (.type "type")
section
variable {P : Program} {w : World} {K : PySem.W.Frag} {mg : Str → Option Value} {base : Heap} {h : Heap} {cls : Nat → Value}
theorem knows_mk {x : Str} {D OE : Addr} {n : Nat} {cs : List (Str × Addr)} (X : K.In h) (G : h.Ns mainGlobals mg) (e : cls n = .ref D) (d : DAt K D OE) (s : SAt K D x cs) (hc : ∀ q ∈ cs, CAt K q.1 q.2) : KnowsX K mg cls (cs.map (·.1)) (n, x) := by
  refine ⟨D, e, d.C, kit_ve d.ve, fun t ht => ?_⟩
  obtain ⟨q, hq, rfl⟩ := List.mem_map.mp ht
  obtain ⟨h1, h2, h3⟩ := hc q hq
  obtain ⟨s1, s2⟩ := s.get q hq
  exact ⟨q.2, PySem.W.mg_of X G h1, kit_ref h2 h3 s1 fun z => s2 (of_decide_eq_false z)⟩
theorem At.hasW {x en own r oe : Str} {st : Stmt} {ns : List Str} {xs : List (Nat × Str)} {OE : Addr} {k : Nat} (a : At K x st [en]) (X : K.In h) (G : h.Ns mainGlobals mg) (ok : okWh en own r ns st = true) (bi : mg "isinstance" = none) (ve : mg "ValueError" = none)
    (o : OAt K oe OE) (hO : ∀ p ∈ xs, ∃ D, cls p.1 = .ref D ∧ DAt K D OE) (hX : ∀ p ∈ xs, KnowsX K mg cls ns p) (hc : xs.all (fun p => decide ((ns.map fun t => decide (t = p.2)).count true = 1)) = true) : HasW P w K mg base cls (k + 1) (oe, x, whL r ns xs) := by
  obtain ⟨f, fd, h1, h2, h3, h4⟩ := a
  obtain ⟨o1, o2, o3, o4⟩ := o
  refine ⟨⟨.ref OE, PySem.W.mg_of X G o1, fun p hp => ?_⟩, f, fd, en, PySem.W.mg_of X G h1, h2.kp, h3, wh_def ok h2 bi ve hX hc⟩
  unfold whL at hp
  obtain ⟨q, hq, rfl⟩ := List.mem_map.mp hp
  obtain ⟨D, e, d⟩ := hO q hq
  rw [e]
  exact PySem.W.exm_ref o2 o3 o4 d.oe
end
end Nv

set_option Elab.async false
set_option linter.all false
set_option maxRecDepth 100000
/-! NvM: how the evaluator steps; comprehensions and loops in general. -/
namespace Nv
open PySem

def dgR (o : Option (List D)) (x : D) : Option D := o.bind fun ds => match ds with | [d] => pGet d x | _ => none
def dhR (neg : Bool) (o : Option (List D)) (x : D) : Option D := o.bind fun ds => match ds with | [d] => pHas neg d x | _ => none
@[simp] theorem dgR_one {d x : D} : dgR (some [d]) x = pGet d x := rfl
@[simp] theorem dhR_one {neg : Bool} {d x : D} : dhR neg (some [d]) x = pHas neg d x := rfl
section
variable {G : Gam} {env : En}
/-! ### slots -/
@[simp] theorem getE_0 {d : D} {r : En} : getE (.im d :: r) 0 = some d := rfl
@[simp] theorem getE_s {s : Sl} {r : En} {i : Nat} : getE (s :: r) (i + 1) = getE r i := rfl
@[simp] theorem getM_0 {d : D} {r : En} : getM (.mu d :: r) 0 = some d := rfl
@[simp] theorem getM_s {s : Sl} {r : En} {i : Nat} : getM (s :: r) (i + 1) = getM r i := rfl
@[simp] theorem getA_0 {d : D} {r : En} : getA (.im d :: r) 0 = some d := rfl
@[simp] theorem getA_0m {d : D} {r : En} : getA (.mu d :: r) 0 = some d := rfl
@[simp] theorem getA_s {s : Sl} {r : En} {i : Nat} : getA (s :: r) (i + 1) = getA r i := rfl
@[simp] theorem setE_0 {s : Sl} {r : En} {d : D} : setE (s :: r) 0 d = .im d :: r := rfl
@[simp] theorem setE_s {s : Sl} {r : En} {i : Nat} {d : D} : setE (s :: r) (i + 1) d = s :: setE r i d := rfl
@[simp] theorem setM_0 {s : Sl} {r : En} {d : D} : setM (s :: r) 0 d = .mu d :: r := rfl
@[simp] theorem setM_s {s : Sl} {r : En} {i : Nat} {d : D} : setM (s :: r) (i + 1) d = s :: setM r i d := rfl
@[simp] theorem isListM_0 {ds : List D} {r : En} : isListM (.mu (.list ds) :: r) 0 = true := rfl
@[simp] theorem isListM_s {s : Sl} {r : En} {i : Nat} : isListM (s :: r) (i + 1) = isListM r i := rfl
def setN (env : En) (i : Nat) : En := env.set i .no
@[simp] theorem setN_0 {s : Sl} {r : En} : setN (s :: r) 0 = .no :: r := rfl
@[simp] theorem setN_s {s : Sl} {r : En} {i : Nat} : setN (s :: r) (i + 1) = s :: setN r i := rfl
@[simp] theorem killE_nil : killE env [] = env := rfl
@[simp] theorem killE_cons {i : Nat} {is : List Nat} : killE env (i :: is) = killE (setN env i) is := rfl
def setK (env0 env : En) (i : Nat) : En := env.set i (keepIm (env0.getD i .no))
@[simp] theorem setK_0 {s s0 : Sl} {r r0 : En} : setK (s0 :: r0) (s :: r) 0 = keepIm s0 :: r := rfl
@[simp] theorem setK_s {s s0 : Sl} {r r0 : En} {i : Nat} : setK (s0 :: r0) (s :: r) (i + 1) = s :: setK r0 r i := rfl
@[simp] theorem backE_nil {env0 : En} : backE [] env0 env = env := rfl
@[simp] theorem backE_cons {i : Nat} {is : List Nat} {env0 : En} : backE (i :: is) env0 env = backE is env0 (setK env0 env i) := rfl
@[simp] theorem keepIm_im {d : D} : keepIm (.im d) = .im d := rfl
@[simp] theorem keepIm_no : keepIm .no = .no := rfl
/-! ### the steps -/
@[simp] theorem ev_var {i : Nat} : ev G (.var i) env = R.of (getE env i) env := by simp only [ev]
@[simp] theorem ev_move {i : Nat} : ev G (.move i) env = (match getA env i with
    | some d => .ok d (setE env i d)
    | none => .stuck) := by simp only [ev] <;> rfl
@[simp] theorem ev_cst {d : D} : ev G (.cst d) env = .ok d env := by simp only [ev]
@[simp] theorem ev_glob {n : Nat} : ev G (.glob n) env = R.of (G.gl n) env := by simp only [ev]
@[simp] theorem ev_op {k : Op} {as : List A} : ev G (.op k as) env = (evAs G as env).bind fun vs env' => R.of ((resolve env' vs).bind (prim k)) env' := by simp only [ev]
def boolR (x : D) (t f : R D) : R D := match x with
  | .bool true => t
  | .bool false => f
  | _ => .stuck
@[simp] theorem boolR_b {b : Bool} {t f : R D} : boolR (.bool b) t f = if b then t else f := by cases b <;> rfl
@[simp] theorem ev_and {a b : E} : ev G (.and a b) env = (ev G a env).bind fun x env' => boolR x (ev G b env') (.ok (.bool false) env') := by
  simp only [ev]; rfl
@[simp] theorem ev_or {a b : E} : ev G (.or a b) env = (ev G a env).bind fun x env' => boolR x (.ok (.bool true) env') (ev G b env') := by
  simp only [ev]; rfl
@[simp] theorem ev_not {a : E} : ev G (.not a) env = (ev G a env).bind fun x env' => boolR x (.ok (.bool false) env') (.ok (.bool true) env') := by
  simp only [ev]
  congr
  funext x env'
  cases x <;> first | rfl | (rename_i b; cases b <;> rfl)
@[simp] theorem ev_ite {c a b : E} : ev G (.ite c a b) env = (ev G c env).bind fun x env' => boolR x (ev G a env') (ev G b env') := by
  simp only [ev]; rfl
@[simp] theorem ev_leLe {a b c : E} : ev G (.leLe a b c) env = (ev G a env).bind fun x env1 => (ev G b env1).bind fun y env2 => (match x, y with
    | .int i, .int j => if i ≤ j then ((ev G c env2).bind fun z env3 => (match z with
        | .int k => .ok (.bool (decide (j ≤ k))) env3
        | _ => .stuck)) else .ok (.bool false) env2
    | _, _ => .stuck) := by simp only [ev] <;> rfl
@[simp] theorem ev_tup {as : List A} : ev G (.tup as) env = (evAs G as env).bind fun vs env' => R.of (((resolve env' vs).bind fun ds => if (ownsOf vs).isEmpty && decide (ds.length ≤ sizeLine) then some (.tuple ds) else none)) env' := by simp only [ev]
@[simp] theorem ev_lst {as : List A} : ev G (.lst as) env = (evAs G as env).bind fun vs env' => R.of (((resolve env' vs).bind fun ds => if (ownsOf vs).isEmpty && decide (ds.length ≤ sizeLine) then some (.list ds) else none)) env' := by simp only [ev]
@[simp] theorem ev_call {f : Nat} {as : List A} : ev G (.call f as) env = (match G.fn f with
    | none => .stuck
    | some mf => (evAs G as env).bind fun vs env' => callF mf.1 mf.2 vs env') := by simp only [ev] <;> rfl
def selR (G : Gam) (fs : List Nat) (x : D) (k : List Bool × Fn → R D) : R D := match x with
  | .int j => (match (L2.atI fs j).bind G.fn with
    | some mf => k mf
    | none => .stuck)
  | _ => .stuck
@[simp] theorem ev_sel {fs : List Nat} {ix : E} {as : List A} : ev G (.sel fs ix as) env = (ev G ix env).bind fun x env1 => selR G fs x fun mf => (evAs G as env1).bind fun vs env' => callF mf.1 mf.2 vs env' := by
  simp only [ev]
  rfl
theorem selR_int {fs : List Nat} {j : Int} {n : Nat} {mf : List Bool × Fn} {k : List Bool × Fn → R D} (h1 : L2.atI fs j = some n) (h2 : G.fn n = some mf) : selR G fs (.int j) k = k mf := by
  unfold selR
  simp only [h1, Option.bind_some, h2]
def popR (env : En) (i : Nat) (x : D) : R D := match getM env i, x with
  | some (.list xs), .int j => (match popAt xs j with
    | some (y, ys) => .ok y (setM env i (.list ys))
    | none => .stuck)
  | _, _ => .stuck
@[simp] theorem ev_pop {i : Nat} {e : E} : ev G (.pop i e) env = if isListM env i then (ev G e env).bind fun x env' => popR env' i x else .stuck := by
  simp only [ev]
  rfl
theorem popR_ok {i : Nat} {xs : List D} {j : Int} {y : D} (h0 : getM env i = some (.list xs)) (h1 : 0 ≤ j) (h2 : xs.length < 2 ^ 62) (h3 : xs[j.toNat]? = some y) : popR env i (.int j) = .ok y (setM env i (.list (xs.eraseIdx j.toNat))) := by
  have hl := (List.getElem?_eq_some_iff.mp h3).1
  unfold popR popAt
  simp only [h0]
  rw [if_pos (by omega), h3]
  rfl
def slR (env : En) (v : Sum D Nat) (i : Int) (y : D) : R D := match y with
  | .int j => R.of ((resolve env [v]).bind fun ds => pSlB (ds ++ [.int i, .int j])) env
  | _ => .stuck
def slI (x : D) (k : Int → R D) : R D := match x with
  | .int i => k i
  | _ => .stuck
@[simp] theorem slI_int {i : Int} {k : Int → R D} : slI (.int i) k = k i := rfl
@[simp] theorem ev_slB {a : A} {lo hi : E} : ev G (.slB a lo hi) env = (evA G a env).bind fun v env1 => (ev G lo env1).bind fun x env2 => slI x fun i => (ev G hi env2).bind fun y env3 => slR env3 v i y := by
  simp only [ev]
  rfl
@[simp] theorem slR_int {v : Sum D Nat} {i j : Int} : slR env v i (.int j) = R.of ((resolve env [v]).bind fun ds => pSlB (ds ++ [.int i, .int j])) env := rfl
@[simp] theorem ev_dget {a : A} {k : E} : ev G (.dget a k) env = (evA G a env).bind fun v env1 => (ev G k env1).bind fun x env2 => R.of (dgR (resolve env2 [v]) x) env2 := by
  simp only [ev]
  rfl
@[simp] theorem ev_din {neg : Bool} {k : E} {a : A} : ev G (.din neg k a) env = (ev G k env).bind fun x env1 => (evA G a env1).bind fun v env2 => R.of (dhR neg (resolve env2 [v]) x) env2 := by
  simp only [ev]
  rfl
def callNO (t : Bool) (fn : Fn) (owns : List Nat) (env : En) (o : Option (List D)) : R D := match o with
  | some ds => (match fn (ds ++ [emptyD t]) with
    | .ok d outs => (match putOuts owns outs.dropLast env with
      | some env' => .ok d env'
      | none => .stuck)
    | .exc c outs => (match putOuts owns outs.dropLast env with
      | some env' => .exc c env'
      | none => .stuck)
    | .stuck => .stuck)
  | none => .stuck
@[simp] theorem ev_callN {t : Bool} {f : Nat} {as : List A} : ev G (.callN t f as) env = (match G.fn f with
    | none => .stuck
    | some mf => (evAs G as env).bind fun vs env' => callFN t mf.1 mf.2 vs env') := by simp only [ev] <;> rfl
@[simp] theorem callFN_w {t : Bool} {ms : List Bool} {fn : Fn} {vs : List (Sum D Nat)} : callFN t ms fn vs env = if ms = modesOf vs ++ [true] ∧ nodupB (ownsOf vs) = true then callNO t fn (ownsOf vs) env (resolveM env vs) else .stuck := by
  unfold callFN callNO
  split
  · cases resolveM env vs with
    | none => rfl
    | some ds => rfl
  · rfl
theorem callNO_0 {t : Bool} {fn : Fn} {ds : List D} {d o : D} (h : fn (ds ++ [emptyD t]) = .ok d [o]) : callNO t fn [] env (some ds) = .ok d env := by
  unfold callNO
  simp only [h]
  rfl
def mthR (k : Op) (o : Option (List D)) (f : R D) : R D := match o with
  | some [d] => if recvOk k d then f else .stuck
  | _ => .stuck
@[simp] theorem mthR_one {k : Op} {d : D} {f : R D} : mthR k (some [d]) f = if recvOk k d then f else .stuck := rfl
@[simp] theorem ev_mth {k : Op} {a : A} {as : List A} : ev G (.mth k a as) env = (evA G a env).bind fun v env1 => mthR k (resolve env1 [v]) ((evAs G as env1).bind fun vs env' => R.of ((resolve env' (v :: vs)).bind (prim k)) env') := by
  simp only [ev]
  rfl
/-- a comprehension's turn -/
def lcB (G : Gam) (elt : E) (tg : List Nat) (one : Bool) (cond : Option E) (x : D) (e : En) : R (Option D) := match tgE tg one x e with
  | none => .stuck
  | some e1 => (match cond with
    | none => (ev G elt e1).bind fun d e2 => .ok (some d) (killE e2 tg)
    | some c => (ev G c e1).bind fun b e2 => (match b with
      | .bool true => (ev G elt e2).bind fun d e3 => .ok (some d) (killE e3 tg)
      | .bool false => .ok none (killE e2 tg)
      | _ => .stuck))
def lcR (G : Gam) (elt : E) (tg : List Nat) (one : Bool) (cond : Option E) (items : List D) (env1 : En) : R D :=
  (compR (lcB G elt tg one cond) items [] (killE env1 tg)).noexc.bind fun ds env2 => .ok (.list ds) (backE tg env1 env2)
@[simp] theorem ev_lc {elt : E} {tg : List Nat} {one : Bool} {it : It} {cond : Option E} : ev G (.lc elt tg one it cond) env = (evIt G it env).bind fun items env1 => lcR G elt tg one cond items env1 := by
  simp only [ev]
  rfl
def lcOR (G : Gam) (elt : E) (tg : List Nat) (one en : Bool) (i : Nat) (cond : Option E) (o : Option D) (env : En) : R D := match o with
  | some (.list ds) => if i ∈ tg then .stuck else (lcR G elt tg one cond (ownIt en ds) (killE env [i])).bind fun d e => .ok d (setM e i (.list ds))
  | _ => .stuck
@[simp] theorem lcOR_some {elt : E} {tg : List Nat} {one en : Bool} {i : Nat} {cond : Option E} {ds : List D} : lcOR G elt tg one en i cond (some (.list ds)) env = if i ∈ tg then .stuck else (lcR G elt tg one cond (ownIt en ds) (killE env [i])).bind fun d e => .ok d (setM e i (.list ds)) := rfl
theorem bind2 {r : R (List D)} {f : List D → En → R D} {g : D → En → R D} : (r.bind f).bind g = r.bind fun a e => (f a e).bind g := by
  cases r <;> rfl
@[simp] theorem ev_lcO {elt : E} {tg : List Nat} {one en : Bool} {i : Nat} {cond : Option E} : ev G (.lcO elt tg one en i cond) env = lcOR G elt tg one en i cond (getM env i) env := by
  simp only [ev]
  cases getM env i with
  | none => rfl
  | some d =>
    cases d with
    | list ds =>
      rw [lcOR_some]
      unfold lcR
      rw [bind2]
      rfl
    | _ => rfl
def callFO (ms : List Bool) (fn : Fn) (owns : List Nat) (env : En) (o : Option (List D)) : R D := match o with
  | some ds => if argsF ms ds then (match fn ds with
    | .ok d outs => if itemsOk d && (apartA ms ds d && outs.all outOk) then (match putOuts owns outs env with
      | some env' => .ok d env'
      | none => .stuck) else .stuck
    | _ => .stuck) else .stuck
  | none => .stuck
@[simp] theorem ev_callF {f : Nat} {as : List A} : ev G (.callF f as) env = (match G.fn f with
    | none => .stuck
    | some mf => (evAs G as env).bind fun vs env' => callFF mf.1 mf.2 vs env') := by simp only [ev] <;> rfl
@[simp] theorem callFF_w {ms : List Bool} {fn : Fn} {vs : List (Sum D Nat)} : callFF ms fn vs env = if ms = modesOf vs ∧ nodupB (ownsOf vs) = true then callFO ms fn (ownsOf vs) env (resolveM env vs) else .stuck := by
  unfold callFF callFO
  split
  · cases resolveM env vs with
    | none => rfl
    | some ds => rfl
  · rfl
theorem callFO_0 {ms : List Bool} {fn : Fn} {owns : List Nat} {ds outs : List D} {d : D} {env' : En} (h : fn ds = .ok d outs) (h1 : argsF ms ds = true) (h2 : itemsOk d = true) (h3 : apartA ms ds d = true) (h4 : outs.all outOk = true) (h5 : putOuts owns outs env = some env') : callFO ms fn owns env (some ds) = .ok d env' := by
  unfold callFO
  simp only [h1, h, h2, h3, h4, h5, if_true, Bool.and_self]
def orTR (x : D) (a b : R D) : R D := match truthD x with
  | some true => a
  | some false => b
  | none => .stuck
@[simp] theorem orTR_none {a b : R D} : orTR .none a b = b := rfl
@[simp] theorem orTR_nil {a b : R D} : orTR (.list []) a b = b := rfl
@[simp] theorem orTR_cons {x : D} {xs : List D} {a b : R D} : orTR (.list (x :: xs)) a b = a := rfl
@[simp] theorem ev_orT {a b : E} : ev G (.orT a b) env = (ev G a env).bind fun x env' => orTR x (.ok x env') (ev G b env') := by
  simp only [ev]
  rfl
def callPO (ms : List Bool) (fn : Fn) (owns : List Nat) (env : En) (o : Option (List D)) : R (List D × List D) := match o with
  | some ds => if argsF ms ds && noLstA ms ds then (match fn ds with
    | .ok d outs => (match pairF d with
      | some p => if outs.all outOk then (match putOuts owns outs env with
        | some env' => .ok p env'
        | none => .stuck) else .stuck
      | none => .stuck)
    | _ => .stuck) else .stuck
  | none => .stuck
@[simp] theorem callFP_w {ms : List Bool} {fn : Fn} {vs : List (Sum D Nat)} : callFP ms fn vs env = if ms = modesOf vs ∧ nodupB (ownsOf vs) = true then callPO ms fn (ownsOf vs) env (resolveM env vs) else .stuck := by
  unfold callFP callPO
  split
  · cases resolveM env vs with
    | none => rfl
    | some ds => rfl
  · rfl
theorem callPO_0 {ms : List Bool} {fn : Fn} {owns : List Nat} {ds outs : List D} {d : D} {p : List D × List D} {env' : En} (h : fn ds = .ok d outs) (h1 : argsF ms ds = true) (h2 : noLstA ms ds = true) (h3 : pairF d = some p) (h4 : outs.all outOk = true) (h5 : putOuts owns outs env = some env') : callPO ms fn owns env (some ds) = .ok p env' := by
  unfold callPO
  simp only [h1, h, h2, h3, h4, h5, if_true, Bool.and_self]
@[simp] theorem evAs_nil : evAs G [] env = .ok [] env := by simp only [evAs]
@[simp] theorem evAs_cons {a : A} {as : List A} : evAs G (a :: as) env = (evA G a env).bind fun v env1 => (evAs G as env1).bind fun vs env2 => .ok (v :: vs) env2 := by simp only [evAs]
@[simp] theorem evA_imm {e : E} : evA G (.imm e) env = (ev G e env).bind fun d env' => .ok (.inl d) env' := by simp only [evA]
@[simp] theorem evA_own {i : Nat} : evA G (.own i) env = (match getA env i with
    | some _ => .ok (.inr i) env
    | none => .stuck) := by simp only [evA] <;> rfl
@[simp] theorem evIt_seq {a : A} : evIt G (.seq a) env = (evA G a env).bind fun v env' => R.of ((resolve env' [v]).bind itSeq) env' := by simp only [evIt]
@[simp] theorem evIt_rng {a : A} : evIt G (.rng a) env = (evA G a env).bind fun v env' => R.of ((resolve env' [v]).bind itRng) env' := by simp only [evIt]
@[simp] theorem evIt_rng2 {a b : A} : evIt G (.rng2 a b) env = (evA G a env).bind fun v env1 => (evA G b env1).bind fun u env' => R.of ((resolve env' [v, u]).bind itRng2) env' := by simp only [evIt]
@[simp] theorem evIt_zip {a b : A} : evIt G (.zip a b) env = (evA G a env).bind fun v env1 => (evA G b env1).bind fun u env' => R.of ((resolve env' [v, u]).bind itZip) env' := by simp only [evIt]
@[simp] theorem evIt_enum {a : A} : evIt G (.enum a) env = (evA G a env).bind fun v env' => R.of ((resolve env' [v]).bind itEnum) env' := by simp only [evIt]
@[simp] theorem resolve_nil : resolve env [] = some [] := rfl
@[simp] theorem resolve_inl {d : D} {r : List (Sum D Nat)} : resolve env (.inl d :: r) = (resolve env r).map (d :: ·) := rfl
@[simp] theorem resolve_inr {i : Nat} {r : List (Sum D Nat)} : resolve env (.inr i :: r) = (getA env i).bind fun d => (resolve env r).map (d :: ·) := rfl
@[simp] theorem ownsOf_nil : ownsOf [] = [] := rfl
@[simp] theorem ownsOf_inl {d : D} {r : List (Sum D Nat)} : ownsOf (.inl d :: r) = ownsOf r := rfl
@[simp] theorem ownsOf_inr {i : Nat} {r : List (Sum D Nat)} : ownsOf (.inr i :: r) = i :: ownsOf r := rfl
@[simp] theorem ite_nil_le {d : Option D} : (if (List.isEmpty ([] : List Nat) && decide ((0 : Nat) ≤ sizeLine)) = true then d else none) = d := by
  rw [if_pos]
  simp
/-- a call -/
def callW (fn : Fn) (ds : List D) (owns : List Nat) (env : En) : R D := match fn ds with
  | .ok d outs => (match putOuts owns outs env with
    | some env' => .ok d env'
    | none => .stuck)
  | .exc c outs => (match putOuts owns outs env with
    | some env' => .exc c env'
    | none => .stuck)
  | .stuck => .stuck
def callO (fn : Fn) (owns : List Nat) (env : En) (o : Option (List D)) : R D := match o with
  | some ds => callW fn ds owns env
  | none => .stuck
@[simp] theorem callO_some {fn : Fn} {owns : List Nat} {env : En} {ds : List D} : callO fn owns env (some ds) = callW fn ds owns env := rfl
@[simp] theorem callF_w {ms : List Bool} {fn : Fn} {vs : List (Sum D Nat)} : callF ms fn vs env = if ms = modesOf vs ∧ nodupB (ownsOf vs) = true then callO fn (ownsOf vs) env (resolveM env vs) else .stuck := by
  unfold callF callO callW
  split
  · cases resolveM env vs with
    | none => rfl
    | some ds => cases fn ds <;> rfl
  · rfl
@[simp] theorem resolveM_nil : resolveM env [] = some [] := rfl
@[simp] theorem resolveM_inl {d : D} {r : List (Sum D Nat)} : resolveM env (.inl d :: r) = (resolveM env r).map (d :: ·) := rfl
@[simp] theorem resolveM_inr {i : Nat} {r : List (Sum D Nat)} : resolveM env (.inr i :: r) = (getM env i).bind fun d => (resolveM env r).map (d :: ·) := rfl
@[simp] theorem modesOf_nil : modesOf [] = [] := rfl
@[simp] theorem modesOf_inl {d : D} {r : List (Sum D Nat)} : modesOf (.inl d :: r) = false :: modesOf r := rfl
@[simp] theorem modesOf_inr {i : Nat} {r : List (Sum D Nat)} : modesOf (.inr i :: r) = true :: modesOf r := rfl
@[simp] theorem nodupB_nil : nodupB [] = true := rfl
@[simp] theorem nodupB_one {i : Nat} : nodupB [i] = true := rfl
/-- a call whose end is known -/
theorem callW_ok {fn : Fn} {ds : List D} {owns : List Nat} {env : En} {d : D} {outs : List D} (h : fn ds = .ok d outs) : callW fn ds owns env = (match putOuts owns outs env with
    | some env' => .ok d env'
    | none => .stuck) := by
  unfold callW
  rw [h]
theorem callW_0 {fn : Fn} {ds : List D} {env : En} {d : D} (h : fn ds = .ok d []) : callW fn ds [] env = .ok d env := by
  unfold callW
  rw [h]
  rfl
theorem callW_1 {fn : Fn} {ds : List D} {env : En} {d o : D} {i : Nat} (h : fn ds = .ok d [o]) : callW fn ds [i] env = .ok d (setM env i o) := by
  unfold callW
  rw [h]
  rfl
theorem callW_x {fn : Fn} {ds : List D} {env : En} {c : Nat} (h : fn ds = .exc c []) : callW fn ds [] env = .exc c env := by
  unfold callW
  rw [h]
  rfl
/-! ### statements -/
@[simp] theorem exs_nil : exs G [] env = .nx env := by simp only [exs]
@[simp] theorem exs_cons {s : S} {ss : List S} : exs G (s :: ss) env = (ex G s env).seq fun env' => exs G ss env' := by simp only [exs]
@[simp] theorem ex_asg {i : Nat} {e : E} : ex G (.asg i e) env = flOf ((ev G e env).bind fun d env' => .ok (.nx (setE env' i d)) []) := by simp only [ex]
@[simp] theorem ex_asgM {i : Nat} {e : E} : ex G (.asgM i e) env = flOf ((ev G e env).bind fun d env' => .ok (match d with
      | .list _ => .nx (setM env' i d)
      | _ => .stuck) []) := by simp only [ex] <;> rfl
@[simp] theorem ex_unp {is : List Nat} {e : E} : ex G (.unp is e) env = flOf ((ev G e env).bind fun d env' => .ok (match tgL is d env' with
      | some env2 => .nx env2
      | none => .stuck) []) := by simp only [ex] <;> rfl
@[simp] theorem ex_unpF {i j f : Nat} {as : List A} : ex G (.unpF i j f as) env = (match G.fn f with
    | none => .stuck
    | some mf => flOf ((evAs G as env).bind fun vs env' => (callFP mf.1 mf.2 vs env').bind fun p env' => .ok (if i ≠ j then .nx (setM (setE env' i (.list p.1)) j (.list p.2)) else .stuck) [])) := by simp only [ex] <;> rfl
@[simp] theorem ex_par {i j : Nat} {a b : E} : ex G (.par i j a b) env = flOf ((ev G a env).bind fun x env1 => (ev G b env1).bind fun y env2 => .ok (.nx (setE (setE env2 i x) j y)) []) := by simp only [ex]
@[simp] theorem ex_app {i : Nat} {a : E} : ex G (.app i a) env = flOf (.bind (if isListM env i then ev G a env else .stuck) fun d env' => .ok (match getM env' i with
      | some (.list xs) => if xs.length < sizeLine then .nx (setM env' i (.list (xs ++ [d]))) else .stuck
      | _ => .stuck) []) := by simp only [ex] <;> rfl
@[simp] theorem ex_grp {t i : Nat} {it : It} {k : E} : ex G (.grp t it i k) env = flOf ((evIt G it env).bind fun items env1 => .ok (match getM env1 i with
      | some (.dict []) => if i ≠ t ∧ t < env1.length ∧ items.length ≤ 1000 then flOf ((grpR (fun e => ev G k e) t items [] (killE env1 [t, i])).bind fun gs env2 => .ok (.nx (setM env2 i (grpD gs))) []) else .stuck
      | _ => .stuck) []) := by simp only [ex] <;> rfl
@[simp] theorem ev_vals {i t : Nat} : ev G (.vals i t) env = (match getM env i with
    | some (.dict es) => (match valsD es es with
      | some vs => if i ≠ t ∧ t < env.length ∧ vs.length < sizeLine then .ok (.list vs) env else .stuck
      | none => .stuck)
    | _ => .stuck) := by simp only [ev] <;> rfl
@[simp] theorem ex_ext {i : Nat} {a : E} : ex G (.ext i a) env = flOf (.bind (if isListM env i then ev G a env else .stuck) fun d env' => .ok (match getM env' i, d with
      | some (.list xs), .list ys => if xs.length + ys.length ≤ sizeLine then .nx (setM env' i (.list (xs ++ ys))) else .stuck
      | some (.list xs), .tuple ys => if xs.length + ys.length ≤ sizeLine then .nx (setM env' i (.list (xs ++ ys))) else .stuck
      | _, _ => .stuck) []) := by simp only [ex] <;> rfl
@[simp] theorem ex_setI {i : Nat} {k v : E} : ex G (.setI i k v) env = flOf ((ev G v env).bind fun d env1 => (if isListM env1 i then ev G k env1 else .stuck).bind fun kd env2 => .ok (match getM env2 i, kd with
      | some (.list xs), .int j => (match L2.ixN xs.length j with
        | some n => .nx (setM env2 i (.list (xs.set n d)))
        | none => .stuck)
      | _, _ => .stuck) []) := by simp only [ex] <;> rfl
@[simp] theorem isDictM_0 {ds : List (D × D)} {r : En} : isDictM (.mu (.dict ds) :: r) 0 = true := rfl
@[simp] theorem isDictM_s {s : Sl} {r : En} {i : Nat} : isDictM (s :: r) (i + 1) = isDictM r i := rfl
@[simp] theorem ex_newD {i : Nat} {t : Bool} : ex G (.newD i t) env = .nx (setM env i (emptyD t)) := by simp only [ex]
def putR (env : En) (i : Nat) (kd d : D) : Fl := match (getM env i).bind fun c => pPut c kd d with
  | some c => .nx (setM env i c)
  | none => .stuck
@[simp] theorem ex_setD {i : Nat} {k v : E} : ex G (.setD i k v) env = flOf ((ev G v env).bind fun d env1 => (if isDictM env1 i then ev G k env1 else .stuck).bind fun kd env2 => .ok (putR env2 i kd d) []) := by
  simp only [ex]
  rfl
def asgDR (env : En) (i : Nat) (o : Option D) : Fl := match o with
  | some c => .nx (setM env i c)
  | none => .stuck
@[simp] theorem asgDR_some {i : Nat} {c : D} : asgDR env i (some c) = .nx (setM env i c) := rfl
@[simp] theorem ex_asgD {i : Nat} {e : E} : ex G (.asgD i e) env = flOf ((ev G e env).bind fun d env' => .ok (asgDR env' i (pDict d)) []) := by
  simp only [ex]
  rfl
@[simp] theorem ex_drop {e : E} : ex G (.drop e) env = flOf ((ev G e env).bind fun _ env' => .ok (.nx env') []) := by simp only [ex]
def boolF (x : D) (t f : Fl) : Fl := match x with
  | .bool true => t
  | .bool false => f
  | _ => .stuck
@[simp] theorem boolF_b {b : Bool} {t f : Fl} : boolF (.bool b) t f = if b then t else f := by cases b <;> rfl
@[simp] theorem ex_ite {c : E} {a b : List S} : ex G (.ite c a b) env = flOf ((ev G c env).bind fun x env' => .ok (boolF x (exs G a env') (exs G b env')) []) := by
  simp only [ex]
  rfl
def forL (G : Gam) (tg : List Nat) (one : Bool) (kill : List Nat) (body : List S) (items : List D) (env : En) : Fl := forR (fun x e => match tgE tg one x e with
      | none => .stuck
      | some e1 => exs G body e1) kill items env
@[simp] theorem ex_for {tg : List Nat} {one : Bool} {it : It} {kill : List Nat} {body : List S} : ex G (.for_ tg one it kill body) env = flOf ((evIt G it env).bind fun items env' => .ok (forL G tg one kill body items (killE env' kill)) []) := by
  simp only [ex]
  rfl
def forOR (G : Gam) (tg : List Nat) (one en : Bool) (i : Nat) (kill : List Nat) (body : List S) (o : Option D) (env : En) : Fl := match o with
  | some (.list ds) => backM i (.list ds) (forL G tg one kill body (ownIt en ds) (killE (killE env [i]) kill))
  | _ => .stuck
@[simp] theorem forOR_some {tg : List Nat} {one en : Bool} {i : Nat} {kill : List Nat} {body : List S} {ds : List D} : forOR G tg one en i kill body (some (.list ds)) env = backM i (.list ds) (forL G tg one kill body (ownIt en ds) (killE (killE env [i]) kill)) := rfl
@[simp] theorem backM_nx {i : Nat} {d : D} : backM i d (.nx env) = .nx (setM env i d) := rfl
@[simp] theorem ex_forO {tg : List Nat} {one en : Bool} {i : Nat} {kill : List Nat} {body : List S} : ex G (.forO tg one en i kill body) env = forOR G tg one en i kill body (getM env i) env := by
  simp only [ex]
  rfl
def whileL (G : Gam) (c : E) (kill : List Nat) (body : List S) (fuel : Nat) (env : En) : Fl := whileR (fun e => ev G c e) (fun e => exs G body e) kill fuel env
@[simp] theorem ex_while {fuel : Nat} {c : E} {kill : List Nat} {body : List S} : ex G (.while_ fuel c kill body) env = whileL G c kill body fuel (killE env kill) := by
  simp only [ex]
  rfl
@[simp] theorem ex_ret {e : E} : ex G (.ret e) env = flOf ((ev G e env).bind fun d env' => .ok (.ret d env') []) := by simp only [ex]
@[simp] theorem ex_raise {c : Nat} : ex G (.raise c) env = .exc c env := by simp only [ex]
def tryR (G : Gam) (f : Fl) : Fl := match f with
  | .exc c env => (match G.wh c with
    | some d => .ret d env
    | none => .stuck)
  | f => f
@[simp] theorem ex_try {i : Nat} {body : List S} : ex G (.tryO i body) env = tryR G (exs G body env) := by
  simp only [ex]
  rfl
@[simp] theorem tryR_nx : tryR G (.nx env) = .nx env := rfl
@[simp] theorem tryR_ret {d : D} : tryR G (.ret d env) = .ret d env := rfl
theorem tryR_exc {c : Nat} {d : D} (h : G.wh c = some d) : tryR G (.exc c env) = .ret d env := by
  unfold tryR
  simp only [h]
@[simp] theorem ex_brk : ex G .brk env = .brk env := by simp only [ex]
@[simp] theorem ex_cnt : ex G .cnt env = .cnt env := by simp only [ex]
@[simp] theorem ex_pass : ex G .pass env = .nx env := by simp only [ex]
end

/-! ### comprehensions -/
theorem compR_map {body : D → En → R (Option D)} {env : En} {α : Type} {f : α → D} {g : α → Option D} : ∀ {xs : List α} {acc : List D}, (∀ x ∈ xs, body (f x) env = .ok (g x) env) → compR body (xs.map f) acc env = .ok (acc ++ xs.filterMap g) env
  | [], acc, _ => by simp [compR]
  | x :: xs, acc, h => by
    have h1 := h x List.mem_cons_self
    simp only [List.map_cons, compR, h1, R.bind_ok]
    cases e : g x with
    | none =>
      simp only [compR_map fun y hy => h y (List.mem_cons_of_mem _ hy)]
      rw [List.filterMap_cons_none e]
    | some d =>
      simp only [compR_map fun y hy => h y (List.mem_cons_of_mem _ hy)]
      rw [List.filterMap_cons_some e, List.append_assoc]
      rfl
/-- [g(x) for x in xs if b(x)] -/
theorem lcR_filter {G : Gam} {elt : E} {tg : List Nat} {one : Bool} {cond : Option E} {env : En} {α : Type} {xs : List α} (f : α → D) (b : α → Bool) (g : α → D)
    (h : ∀ x ∈ xs, lcB G elt tg one cond (f x) (killE env tg) = .ok (if b x then some (g x) else none) (killE env tg)) (hb : backE tg env (killE env tg) = env) :
    lcR G elt tg one cond (xs.map f) env = .ok (.list ((xs.filter b).map g)) env := by
  unfold lcR
  rw [compR_map h]
  simp only [R.noexc_ok, R.bind_ok, List.nil_append, hb]
  congr 1
  congr 1
  clear h
  induction xs with
  | nil => rfl
  | cons x xs ih =>
    by_cases hx : b x = true
    · rw [List.filterMap_cons_some (b := g x) (by simp [hx]), List.filter_cons_of_pos hx, List.map_cons, ih]
    · rw [List.filterMap_cons_none (by simp [hx]), List.filter_cons_of_neg hx, ih]
theorem lcR_map {G : Gam} {elt : E} {tg : List Nat} {one : Bool} {cond : Option E} {env : En} {α : Type} {xs : List α} (f : α → D) (g : α → D)
    (h : ∀ x ∈ xs, lcB G elt tg one cond (f x) (killE env tg) = .ok (some (g x)) (killE env tg)) (hb : backE tg env (killE env tg) = env) :
    lcR G elt tg one cond (xs.map f) env = .ok (.list (xs.map g)) env := by
  have := lcR_filter (G := G) (elt := elt) (tg := tg) (one := one) (cond := cond) (env := env) (xs := xs) f (fun _ => true) g (fun x hx => by rw [h x hx]; rfl) hb
  rwa [List.filter_eq_self.mpr (fun _ _ => rfl)] at this
/-! ### loops -/
/-- a loop's turn -/
def bodyR (G : Gam) (tg : List Nat) (one : Bool) (body : List S) (d : D) (env : En) : Fl := match tgE tg one d env with
  | none => .stuck
  | some e1 => exs G body e1
def nxIs (r : Fl) (P : En → Prop) : Prop := match r with
  | .nx e => P e
  | .cnt e => P e
  | _ => False
@[simp] theorem nxIs_nx {e : En} {P : En → Prop} : nxIs (.nx e) P = P e := rfl
@[simp] theorem nxIs_cnt {e : En} {P : En → Prop} : nxIs (.cnt e) P = P e := rfl
/-- a loop that always goes on; I: with the number of the turns -/
theorem forL_foldI {G : Gam} {tg : List Nat} {one : Bool} {kill : List Nat} {body : List S} {α σ : Type} (f : α → D) (E : σ → En) (step : σ → α → σ) (I : Nat → σ → Prop) :
    ∀ {xs : List α} (i : Nat) (s : σ), I i s → (∀ j x, xs[j]? = some x → ∀ s, I (i + j) s → nxIs (bodyR G tg one body (f x) (E s)) fun e => killE e kill = E (step s x) ∧ I (i + j + 1) (step s x)) →
      forL G tg one kill body (xs.map f) (E s) = .nx (E (xs.foldl step s)) ∧ I (i + xs.length) (xs.foldl step s)
  | [], i, s, hI, _ => ⟨rfl, hI⟩
  | x :: xs, i, s, hI, h => by
    have h0 := h 0 x rfl s hI
    have tl : ∀ s', I (i + 1) s' → forL G tg one kill body (xs.map f) (E s') = .nx (E (xs.foldl step s')) ∧ I (i + 1 + xs.length) (xs.foldl step s') := fun s' hs' => forL_foldI f E step I (xs := xs) (i + 1) s' hs' fun j y hy s hs => by
      have := h (j + 1) y (by simpa using hy) s (by rwa [show i + (j + 1) = i + 1 + j by omega])
      rwa [show i + (j + 1) + 1 = i + 1 + j + 1 by omega] at this
    have el : i + 1 + xs.length = i + (x :: xs).length := by
      simp only [List.length_cons]
      omega
    rw [← el]
    have : forL G tg one kill body ((x :: xs).map f) (E s) = forL G tg one kill body (xs.map f) (E (step s x)) ∧ I (i + 1) (step s x) := by
      unfold forL
      simp only [List.map_cons, forR]
      show (match bodyR G tg one body (f x) (E s) with
        | .nx env' => forR _ kill _ (killE env' kill)
        | .cnt env' => forR _ kill _ (killE env' kill)
        | .brk env' => .nx (killE env' kill)
        | .ret d env' => .ret d env'
        | .exc c env' => .exc c env'
        | .stuck => .stuck) = _ ∧ _
      cases e : bodyR G tg one body (f x) (E s) <;> rw [e] at h0 <;> first | exact h0.elim | exact ⟨by simp only [h0.1], h0.2⟩
    rw [this.1]
    exact tl _ this.2
theorem forL_rw {G : Gam} {tg : List Nat} {one : Bool} {kill : List Nat} {body : List S} {α σ : Type} (f : α → D) (E : σ → En) (step : σ → α → σ) (I : Nat → σ → Prop) {xs : List α} (s : σ) (h0 : I 0 s)
    (h : ∀ j x, xs[j]? = some x → ∀ s, I j s → nxIs (bodyR G tg one body (f x) (E s)) fun e => killE e kill = E (step s x) ∧ I (j + 1) (step s x)) :
    forL G tg one kill body (xs.map f) (E s) = .nx (E (xs.foldl step s)) :=
  (forL_foldI f E step I 0 s h0 fun j x hx s hs => by rw [Nat.zero_add] at hs ⊢; exact h j x hx s hs).1
end Nv

set_option Elab.async false
set_option linter.all false
set_option maxRecDepth 100000
/-! NvP: the primitives on plain data. -/
namespace Nv
open PySem

/-- data without truth values, of depth n or less -/
def plN : Nat → D → Bool
  | _, .none => true
  | _, .int _ => true
  | _, .str x => PyData.strOk x
  | n + 1, .list xs => xs.all (plN n)
  | n + 1, .tuple xs => xs.all (plN n)
  | _, _ => false
theorem canLayAll_iff : ∀ {xs : List D}, PyData.canLayAll0 xs = true ↔ ∀ x ∈ xs, PyData.canLay0 x = true
  | [] => by simp [PyData.canLayAll0]
  | x :: xs => by simp [PyData.canLayAll0, canLayAll_iff (xs := xs)]
theorem depthAll_le {n : Nat} : ∀ {xs : List D}, (∀ x ∈ xs, x.depth ≤ n) → PyData.depthAll xs ≤ n
  | [], _ => by simp [PyData.depthAll]
  | x :: xs, h => by
    rw [PyData.depthAll]
    have h1 := h x List.mem_cons_self
    have h2 := depthAll_le fun y hy => h y (List.mem_cons_of_mem x hy)
    omega
theorem pl_lay : ∀ {n : Nat} {d : D}, plN n d = true → PyData.canLay0 d = true ∧ d.depth ≤ n
  | n, .none, _ => ⟨by simp [PyData.canLay0], by simp [PyData.depth]⟩
  | n, .int _, _ => ⟨by simp [PyData.canLay0], by simp [PyData.depth]⟩
  | n, .str x, h => by
    refine ⟨?_, by simp [PyData.depth]⟩
    cases n <;> simpa [plN, PyData.canLay0] using h
  | n, .bool _, h => by cases n <;> simp [plN] at h
  | n, .dict _, h => by cases n <;> simp [plN] at h
  | 0, .list _, h => by simp [plN] at h
  | 0, .tuple _, h => by simp [plN] at h
  | n + 1, .list xs, h => by
    simp only [plN, List.all_eq_true] at h
    refine ⟨?_, ?_⟩
    · rw [PyData.canLay0, canLayAll_iff]
      exact fun x hx => (pl_lay (h x hx)).1
    · rw [PyData.depth]
      have := depthAll_le fun x hx => (pl_lay (h x hx)).2
      omega
  | n + 1, .tuple xs, h => by
    simp only [plN, List.all_eq_true] at h
    refine ⟨?_, ?_⟩
    · rw [PyData.canLay0, canLayAll_iff]
      exact fun x hx => (pl_lay (h x hx)).1
    · rw [PyData.depth]
      have := depthAll_le fun x hx => (pl_lay (h x hx)).2
      omega
theorem pl_mono : ∀ {n m : Nat} {d : D}, plN n d = true → n ≤ m → plN m d = true
  | n, m, .none, _, _ => by cases m <;> rfl
  | n, m, .int _, _, _ => by cases m <;> rfl
  | n, m, .str x, h, _ => by cases n <;> cases m <;> simpa [plN] using h
  | n, m, .bool _, h, _ => by cases n <;> simp [plN] at h
  | n, m, .dict _, h, _ => by cases n <;> simp [plN] at h
  | 0, m, .list _, h, _ => by simp [plN] at h
  | 0, m, .tuple _, h, _ => by simp [plN] at h
  | n + 1, m, .list xs, h, l => by
    cases m with
    | zero => omega
    | succ m =>
      simp only [plN, List.all_eq_true] at h ⊢
      exact fun x hx => pl_mono (h x hx) (by omega)
  | n + 1, m, .tuple xs, h, l => by
    cases m with
    | zero => omega
    | succ m =>
      simp only [plN, List.all_eq_true] at h ⊢
      exact fun x hx => pl_mono (h x hx) (by omega)
theorem pl_shaped {n : Nat} {d : D} (h : plN n d = true) (l : n ≤ 64) : SeqAt.shaped d = true := by
  have := pl_lay h
  unfold SeqAt.shaped
  rw [this.1, Bool.true_and, decide_eq_true_eq]
  omega
theorem okEq_pl {n m : Nat} {a b : D} (h1 : plN n a = true) (l1 : n ≤ 64) (h2 : plN m b = true) (l2 : m ≤ 64) : okEq a b = true := by
  unfold okEq
  rw [pl_shaped h1 l1, pl_shaped h2 l2]
  rfl
theorem eqvAll_iff {P : D → Prop} : ∀ {xs ys : List D}, (∀ x ∈ xs, ∀ y ∈ ys, PyData.eqv x y = true ↔ x = y) → (PyData.eqvAll xs ys = true ↔ xs = ys)
  | [], [], _ => by simp [PyData.eqvAll]
  | [], _ :: _, _ => by simp [PyData.eqvAll]
  | _ :: _, [], _ => by simp [PyData.eqvAll]
  | x :: xs, y :: ys, h => by
    simp only [PyData.eqvAll, Bool.and_eq_true, List.cons.injEq]
    rw [h x List.mem_cons_self y List.mem_cons_self, eqvAll_iff (P := P) fun u hu v hv => h u (List.mem_cons_of_mem _ hu) v (List.mem_cons_of_mem _ hv)]
/-- for plain data == is equality -/
theorem eqv_iff : ∀ {n m : Nat} {a b : D}, plN n a = true → plN m b = true → (PyData.eqv a b = true ↔ a = b) := by
  intro n
  induction n with
  | zero =>
    intro m a b h1 h2
    cases a <;> first | (simp [plN] at h1; done) | skip
    all_goals (cases b <;> first | (cases m <;> simp [plN] at h2; done) | simp [PyData.eqv])
  | succ n ih =>
    intro m a b h1 h2
    cases a <;> first | (simp [plN] at h1; done) | skip
    all_goals (cases b <;> first | (cases m <;> simp [plN] at h2; done) | (simp [PyData.eqv]; done) | skip)
    all_goals
      rename_i xs ys
      cases m with
      | zero => simp [plN] at h2
      | succ m =>
        simp only [plN, List.all_eq_true] at h1 h2
        simp only [PyData.eqv, PyData.list.injEq, PyData.tuple.injEq]
        exact eqvAll_iff (P := fun _ => True) fun x hx y hy => ih (h1 x hx) (h2 y hy)
theorem pEq_pl {n m : Nat} {a b : D} {p : Bool} (h1 : plN n a = true) (h2 : plN m b = true) (l1 : n ≤ 64) (l2 : m ≤ 64) (hp : p = true ↔ a = b) : pEq [a, b] = some (.bool p) := by
  have e : PyData.eqv a b = p := by
    rw [Bool.eq_iff_iff, eqv_iff h1 h2, hp]
  unfold pEq
  split
  · rename_i z
    injection z with z _
    subst z
    cases n <;> simp [plN] at h1
  · rename_i z
    injection z with z1 z2
    injection z2 with z2 _
    subst z1 z2
    rw [okEq_pl h1 l1 h2 l2, e]
    rfl
  · rename_i z1 z2
    exact absurd rfl (z2 _ _)
theorem pNe_pl {n m : Nat} {a b : D} {p : Bool} (h1 : plN n a = true) (h2 : plN m b = true) (l1 : n ≤ 64) (l2 : m ≤ 64) (hp : p = true ↔ a = b) : pNe [a, b] = some (.bool (!p)) := by
  have e : PyData.eqv a b = p := by
    rw [Bool.eq_iff_iff, eqv_iff h1 h2, hp]
  unfold pNe
  simp only [okEq_pl h1 l1 h2 l2, e, if_true]
theorem any_eqv {n m : Nat} {a : D} {xs : List D} {p : Bool} (h1 : plN n a = true) (h2 : ∀ x ∈ xs, plN m x = true) (hp : p = true ↔ a ∈ xs) : (xs.any fun z => PyData.eqv z a) = p := by
  rw [Bool.eq_iff_iff, hp, List.any_eq_true]
  constructor
  · rintro ⟨x, hx, e⟩
    rw [eqv_iff (h2 x hx) h1] at e
    rw [← e]
    exact hx
  · intro h
    exact ⟨a, h, (eqv_iff (h2 a h) h1).mpr rfl⟩
theorem pl_list {n : Nat} {xs : List D} (h : ∀ x ∈ xs, plN n x = true) : plN (n + 1) (.list xs) = true := by
  simp only [plN, List.all_eq_true]
  exact h
theorem pl_tuple {n : Nat} {xs : List D} (h : ∀ x ∈ xs, plN n x = true) : plN (n + 1) (.tuple xs) = true := by
  simp only [plN, List.all_eq_true]
  exact h
theorem pIn_pl {n m : Nat} {a : D} {xs : List D} {p : Bool} (h1 : plN n a = true) (h2 : ∀ x ∈ xs, plN m x = true) (l1 : n ≤ 64) (l2 : m < 64) (hp : p = true ↔ a ∈ xs) : pIn [a, .tuple xs] = some (.bool p) ∧ pIn [a, .list xs] = some (.bool p) := by
  unfold pIn
  simp only [okEq_pl h1 l1 (pl_tuple h2) l2, okEq_pl h1 l1 (pl_list h2) l2, any_eqv h1 h2 hp, if_true, and_self]
theorem pNin_pl {n m : Nat} {a : D} {xs : List D} {p : Bool} (h1 : plN n a = true) (h2 : ∀ x ∈ xs, plN m x = true) (l1 : n ≤ 64) (l2 : m < 64) (hp : p = true ↔ a ∈ xs) : pNin [a, .tuple xs] = some (.bool (!p)) ∧ pNin [a, .list xs] = some (.bool (!p)) := by
  unfold pNin
  simp only [okEq_pl h1 l1 (pl_tuple h2) l2, okEq_pl h1 l1 (pl_list h2) l2, any_eqv h1 h2 hp, if_true, and_self]
/-! ### the primitives by name -/
@[simp] theorem prim_add : prim .add = pAdd := rfl
@[simp] theorem prim_sub : prim .sub = pSub := rfl
@[simp] theorem prim_mul : prim .mul = pMul := rfl
@[simp] theorem prim_mod : prim .mod = pMod := rfl
@[simp] theorem prim_fdiv : prim .fdiv = pFdiv := rfl
@[simp] theorem prim_pow : prim .pow = pPow := rfl
@[simp] theorem prim_neg : prim .neg = pNeg := rfl
@[simp] theorem prim_eq : prim .eq = pEq := rfl
@[simp] theorem prim_ne : prim .ne = pNe := rfl
@[simp] theorem prim_lt (i j : Int) : prim .lt [.int i, .int j] = some (.bool (decide (i < j))) := rfl
@[simp] theorem prim_le (i j : Int) : prim .le [.int i, .int j] = some (.bool (decide (i ≤ j))) := rfl
@[simp] theorem prim_gt (i j : Int) : prim .gt [.int i, .int j] = some (.bool (decide (j < i))) := rfl
@[simp] theorem prim_ge (i j : Int) : prim .ge [.int i, .int j] = some (.bool (decide (j ≤ i))) := rfl
@[simp] theorem prim_isN (d : D) : prim .isN [d] = some (.bool (isNone d)) := rfl
@[simp] theorem prim_notN (d : D) : prim .notN [d] = some (.bool (!isNone d)) := rfl
@[simp] theorem isNone_0 : isNone .none = true := rfl
@[simp] theorem isNone_1 (i : Int) : isNone (.int i) = false := rfl
@[simp] theorem isNone_2 (i : Str) : isNone (.str i) = false := rfl
@[simp] theorem isNone_3 (i : List D) : isNone (.list i) = false := rfl
@[simp] theorem isNone_4 (i : List D) : isNone (.tuple i) = false := rfl
@[simp] theorem prim_inn : prim .inn = pIn := rfl
@[simp] theorem prim_nin : prim .nin = pNin := rfl
@[simp] theorem prim_idxT (xs : List D) (i : Int) : prim .idx [.tuple xs, .int i] = L2.atI xs i := rfl
@[simp] theorem prim_idxL (xs : List D) (i : Int) : prim .idx [.list xs, .int i] = L2.atI xs i := rfl
@[simp] theorem prim_slT : prim .slT = pSlT := rfl
@[simp] theorem prim_slH : prim .slH = pSlH := rfl
@[simp] theorem prim_lenL (xs : List D) : prim .len [.list xs] = some (.int xs.length) := rfl
@[simp] theorem prim_lenT (xs : List D) : prim .len [.tuple xs] = some (.int xs.length) := rfl
@[simp] theorem prim_tupL (xs : List D) : prim .tuple [.list xs] = some (.tuple xs) := rfl
@[simp] theorem prim_tupT (xs : List D) : prim .tuple [.tuple xs] = some (.tuple xs) := rfl
@[simp] theorem prim_lstL (xs : List D) : prim .list [.list xs] = some (.list xs) := rfl
@[simp] theorem prim_lstT (xs : List D) : prim .list [.tuple xs] = some (.list xs) := rfl
@[simp] theorem boolsD_map_bool {α : Type} (f : α → Bool) : ∀ xs : List α, boolsD (xs.map fun x => .bool (f x)) = some (xs.map f)
  | [] => rfl
  | x :: xs => by simp [boolsD, boolsD_map_bool f xs]
@[simp] theorem prim_all (xs : List D) : prim .allB [.list xs] = (boolsD xs).map fun bs => .bool (bs.all id) := rfl
@[simp] theorem prim_any (xs : List D) : prim .anyB [.list xs] = (boolsD xs).map fun bs => .bool (bs.any id) := rfl
@[simp] theorem boolsD_nil : boolsD [] = some [] := rfl
@[simp] theorem boolsD_cons (b : Bool) (xs : List D) : boolsD (.bool b :: xs) = (boolsD xs).map (b :: ·) := rfl
@[simp] theorem prim_trg : prim .trg = pTrg := rfl
@[simp] theorem prim_rev (xs : List D) : prim .rev [.list xs] = some (.list xs.reverse) := rfl
@[simp] theorem prim_lenSet : prim .lenSet = pLenSet := rfl
@[simp] theorem prim_srt : prim .srt = pSrt := rfl
@[simp] theorem prim_srtSet : prim .srtSet = pSrtSet := rfl
@[simp] theorem prim_min2 (i j : Int) : prim .min2 [.int i, .int j] = some (.int (if j < i then j else i)) := rfl
@[simp] theorem prim_max2 (i j : Int) : prim .max2 [.int i, .int j] = some (.int (if j > i then j else i)) := rfl
@[simp] theorem prim_intI (i : Int) : prim .intOf [.int i] = some (.int i) := rfl
@[simp] theorem prim_intB (i : Bool) : prim .intOf [.bool i] = some (.int (if i then 1 else 0)) := rfl
@[simp] theorem prim_abs (i : Int) : prim .absI [.int i] = some (.int (if i < 0 then -i else i)) := rfl
@[simp] theorem prim_isInt (d : D) : prim .isInt [d] = (isA .isInt d).map .bool := rfl
@[simp] theorem prim_isBool (d : D) : prim .isBool [d] = (isA .isBool d).map .bool := rfl
@[simp] theorem prim_isTup (d : D) : prim .isTup [d] = (isA .isTup d).map .bool := rfl
@[simp] theorem prim_isStr (d : D) : prim .isStr [d] = (isA .isStr d).map .bool := rfl
@[simp] theorem prim_isList (d : D) : prim .isList [d] = (isA .isList d).map .bool := rfl
@[simp] theorem isInt_int (i : Int) : isA .isInt (.int i) = some true := rfl
@[simp] theorem isInt_bool (i : Bool) : isA .isInt (.bool i) = some true := rfl
@[simp] theorem isInt_none : isA .isInt .none = some false := rfl
@[simp] theorem isInt_str (i : Str) : isA .isInt (.str i) = some false := rfl
@[simp] theorem isInt_list (i : List D) : isA .isInt (.list i) = some false := rfl
@[simp] theorem isInt_tup (i : List D) : isA .isInt (.tuple i) = some false := rfl
@[simp] theorem isBool_int (i : Int) : isA .isBool (.int i) = some false := rfl
@[simp] theorem isBool_bool (i : Bool) : isA .isBool (.bool i) = some true := rfl
@[simp] theorem isTup_tup (i : List D) : isA .isTup (.tuple i) = some true := rfl
@[simp] theorem isTup_int (i : Int) : isA .isTup (.int i) = some false := rfl
@[simp] theorem isTup_bool (i : Bool) : isA .isTup (.bool i) = some false := rfl
@[simp] theorem isTup_none : isA .isTup .none = some false := rfl
@[simp] theorem isTup_str (i : Str) : isA .isTup (.str i) = some false := rfl
@[simp] theorem isTup_list (i : List D) : isA .isTup (.list i) = some false := rfl
@[simp] theorem pAdd_int (i j : Int) : pAdd [.int i, .int j] = some (.int (i + j)) := rfl
theorem pAdd_list {x y : List D} (h : x.length + y.length ≤ sizeLine) : pAdd [.list x, .list y] = some (.list (x ++ y)) := if_pos h
theorem pAdd_tuple {x y : List D} (h : x.length + y.length ≤ sizeLine) : pAdd [.tuple x, .tuple y] = some (.tuple (x ++ y)) := if_pos h
@[simp] theorem pSub_int (i j : Int) : pSub [.int i, .int j] = some (.int (i - j)) := rfl
@[simp] theorem pNeg_int (i : Int) : pNeg [.int i] = some (.int (-i)) := rfl
theorem pMul_int {i j : Int} (h : (-(2 ^ 64) < i ∧ i < 2 ^ 64) ∨ (-(2 ^ 64) < j ∧ j < 2 ^ 64)) : pMul [.int i, .int j] = some (.int (i * j)) := if_pos h
theorem pMod_int {i j : Int} (h : 0 < j) : pMod [.int i, .int j] = some (.int (i % j)) := if_pos h
@[simp] theorem pEq_int (i j : Int) : pEq [.int i, .int j] = some (.bool (decide (i = j))) := pEq_pl (n := 0) (m := 0) rfl rfl (by decide) (by decide) (by simp)
@[simp] theorem pNe_int (i j : Int) : pNe [.int i, .int j] = some (.bool (!decide (i = j))) := pNe_pl (n := 0) (m := 0) rfl rfl (by decide) (by decide) (by simp)
@[simp] theorem atI_0 {α : Type} {x : α} {r : List α} : L2.atI (x :: r) 0 = some x := by
  unfold L2.atI L2.ixN
  rw [if_pos (by omega), if_pos (by simp)]
  rfl
@[simp] theorem atI_1 {α : Type} {x y : α} {r : List α} : L2.atI (x :: y :: r) 1 = some y := by
  unfold L2.atI L2.ixN
  rw [if_pos (by omega), if_pos (by simp; omega)]
  rfl
theorem atI_nat {α : Type} {xs : List α} {i : Nat} {x : α} (h : xs[i]? = some x) : L2.atI xs (i : Int) = some x := by
  have hl : i < xs.length := (List.getElem?_eq_some_iff.mp h).1
  unfold L2.atI L2.ixN
  rw [if_pos (by omega), if_pos (by omega)]
  exact h
@[simp] theorem itSeq_list (xs : List D) : itSeq [.list xs] = some xs := rfl
@[simp] theorem itSeq_tuple (xs : List D) : itSeq [.tuple xs] = some xs := rfl
theorem itRng_ok {j : Int} (h : -1000000 ≤ j ∧ j ≤ 1000000) : itRng [.int j] = some ((List.range j.toNat).map fun (i : Nat) => .int i) := if_pos h
@[simp] theorem startE_eq {n : Nat} {ps : List Bool} {ds : List D} : startE n ps ds = slots ps ds ++ List.replicate (n - ds.length) .no := rfl
@[simp] theorem slots_nil : slots [] [] = [] := rfl
@[simp] theorem slots_f {ps : List Bool} {d : D} {ds : List D} : slots (false :: ps) (d :: ds) = .im d :: slots ps ds := rfl
@[simp] theorem slots_t {ps : List Bool} {d : D} {ds : List D} : slots (true :: ps) (d :: ds) = .mu d :: slots ps ds := rfl
@[simp] theorem outsOf_nil {env : En} {i : Nat} : outsOf env [] i = some [] := rfl
@[simp] theorem outsOf_f {env : En} {r : List Bool} {i : Nat} : outsOf env (false :: r) i = outsOf env r (i + 1) := rfl
@[simp] theorem outsOf_t {env : En} {r : List Bool} {i : Nat} : outsOf env (true :: r) i = (getM env i).bind fun d => (outsOf env r (i + 1)).map (d :: ·) := rfl
def finR (ps : List Bool) (r : Fl) : Fr := match r with
  | .ret d env => (match outsOf env ps 0 with | some outs => .ok d outs | none => .stuck)
  | .nx env => (match outsOf env ps 0 with | some outs => .ok .none outs | none => .stuck)
  | .exc c env => (match outsOf env ps 0 with | some outs => .exc c outs | none => .stuck)
  | _ => .stuck
@[simp] theorem finR_ret {ps : List Bool} {d : D} {env : En} : finR ps (.ret d env) = (match outsOf env ps 0 with | some outs => .ok d outs | none => .stuck) := rfl
@[simp] theorem finR_nx {ps : List Bool} {env : En} : finR ps (.nx env) = (match outsOf env ps 0 with | some outs => .ok .none outs | none => .stuck) := rfl
@[simp] theorem finR_exc {ps : List Bool} {c : Nat} {env : En} : finR ps (.exc c env) = (match outsOf env ps 0 with | some outs => .exc c outs | none => .stuck) := rfl
theorem evDef_eq (G : Gam) (f : Def) (ds : List D) : evDef G f ds = if ds.length = f.ps.length then finR f.ps (exs G f.body (startE f.n f.ps ds)) else .stuck := by
  unfold evDef finR
  rfl
/-- what was refused -/
def refD (i : Int) : D := .tuple [.str (PySem.Str.ofString "refused"), .int i]
theorem pl_ref (i : Int) : plN 1 (refD i) = true := by
  have : PyData.strOk (PySem.Str.ofString "refused") = true := by decide +kernel
  simp [refD, plN, this]
theorem refD_inj {i j : Int} : refD i = refD j ↔ i = j := by
  unfold refD
  simp
theorem eqRef (i j : Int) : pEq [refD i, refD j] = some (.bool (decide (i = j))) := pEq_pl (pl_ref i) (pl_ref j) (by decide) (by decide) (by rw [refD_inj, decide_eq_true_eq])
theorem neRef (i j : Int) : pNe [refD i, refD j] = some (.bool (!decide (i = j))) := pNe_pl (pl_ref i) (pl_ref j) (by decide) (by decide) (by rw [refD_inj, decide_eq_true_eq])
/-- whole numbers within bounds -/
def wholeB (d : D) (a b : Int) : Bool := match d with
  | .int i => decide (a ≤ i ∧ i ≤ b)
  | _ => false
def noDict : D → Bool
  | .dict _ => false
  | _ => true
end Nv

set_option linter.all false
set_option maxRecDepth 100000
namespace Nv
open PySem
/-! ### the least numbers above steps: rows raised pass by pass -/
abbrev Ed := Nat × Nat × Int
def gx (x : List Int) (i : Nat) : Int := x.getD i 0
def relax (x : List Int) (e : Ed) : List Int := if gx x e.2.1 < gx x e.1 + e.2.2 then x.set e.2.1 (gx x e.1 + e.2.2) else x
def pass (E : List Ed) (x : List Int) : List Int := E.foldl relax x
def Sol (E : List Ed) (x : List Int) : Prop := ∀ e ∈ E, gx x e.1 + e.2.2 ≤ gx x e.2.1
def Pos (x : List Int) : Prop := ∀ i, 0 ≤ gx x i
def Le (x y : List Int) : Prop := ∀ i, gx x i ≤ gx y i
def Rg (n : Nat) (E : List Ed) : Prop := ∀ e ∈ E, e.1 < n ∧ e.2.1 < n
theorem gx_set (x : List Int) (j : Nat) (a : Int) (i : Nat) : gx (x.set j a) i = if i = j ∧ j < x.length then a else gx x i := by
  unfold gx
  rw [List.getD_eq_getElem?_getD, List.getD_eq_getElem?_getD, List.getElem?_set]
  by_cases h : j = i
  · subst h
    by_cases hl : j < x.length
    · simp [hl]
    · simp [hl]
  · have h' : ¬ i = j := fun z => h z.symm
    simp [h, h']
theorem gx_big {x : List Int} {i : Nat} (h : x.length ≤ i) : gx x i = 0 := by
  unfold gx
  rw [List.getD_eq_getElem?_getD, List.getElem?_eq_none h]
  rfl
theorem gx_ext {x y : List Int} (hl : x.length = y.length) (h : ∀ i, gx x i = gx y i) : x = y := by
  apply List.ext_getElem hl
  intro i h1 h2
  have := h i
  unfold gx at this
  rw [List.getD_eq_getElem?_getD, List.getD_eq_getElem?_getD, List.getElem?_eq_getElem h1, List.getElem?_eq_getElem h2] at this
  exact this
theorem Le.refl (x : List Int) : Le x x := fun _ => Int.le_refl _
theorem Le.trans {x y z : List Int} (a : Le x y) (b : Le y z) : Le x z := fun i => Int.le_trans (a i) (b i)
theorem Le.anti {x y : List Int} (hl : x.length = y.length) (a : Le x y) (b : Le y x) : x = y := gx_ext hl fun i => Int.le_antisymm (a i) (b i)
theorem relax_len (x : List Int) (e : Ed) : (relax x e).length = x.length := by
  unfold relax
  split
  · rw [List.length_set]
  · rfl
theorem pass_len : ∀ (E : List Ed) (x : List Int), (pass E x).length = x.length
  | [], _ => rfl
  | e :: E, x => by
    show (pass E (relax x e)).length = _
    rw [pass_len E, relax_len]
theorem relax_ge (x : List Int) (e : Ed) : Le x (relax x e) := fun i => by
  unfold relax
  split
  · rename_i h
    rw [gx_set]
    split
    · rename_i q
      rw [q.1]
      omega
    · exact Int.le_refl _
  · exact Int.le_refl _
theorem pass_ge : ∀ (E : List Ed) (x : List Int), Le x (pass E x)
  | [], x => Le.refl x
  | e :: E, x => (relax_ge x e).trans (pass_ge E (relax x e))
theorem relax_le {E : List Ed} {x y : List Int} {e : Ed} (s : Sol E y) (he : e ∈ E) (h : Le x y) : Le (relax x e) y := fun i => by
  unfold relax
  split
  · rw [gx_set]
    split
    · rename_i q
      rw [q.1]
      have h1 := s e he
      have h2 := h e.1
      omega
    · exact h i
  · exact h i
theorem pass_le {E0 : List Ed} {y : List Int} (s : Sol E0 y) : ∀ (E : List Ed) (x : List Int), (∀ e ∈ E, e ∈ E0) → Le x y → Le (pass E x) y
  | [], x, _, h => h
  | e :: E, x, hs, h => pass_le s E (relax x e) (fun f hf => hs f (List.mem_cons_of_mem _ hf)) (relax_le s (hs e List.mem_cons_self) h)
theorem relax_self {x : List Int} {e : Ed} (hr : e.2.1 < x.length) : relax x e = x ↔ gx x e.1 + e.2.2 ≤ gx x e.2.1 := by
  unfold relax
  split
  · rename_i h
    constructor
    · intro z
      have := congrArg (gx · e.2.1) z
      simp only [gx_set, hr, and_self, if_true] at this
      omega
    · intro z
      omega
  · rename_i h
    exact ⟨fun _ => by omega, fun _ => rfl⟩
theorem pass_fix : ∀ {E : List Ed} {x : List Int}, (∀ e ∈ E, e.2.1 < x.length) → (pass E x = x ↔ Sol E x)
  | [], x, _ => ⟨fun _ e he => (by cases he), fun _ => rfl⟩
  | e :: E, x, hr => by
    have hr' : ∀ f ∈ E, f.2.1 < x.length := fun f hf => hr f (List.mem_cons_of_mem _ hf)
    have h0 := relax_self (x := x) (hr e List.mem_cons_self)
    constructor
    · intro h
      have h' : pass E (relax x e) = x := h
      have e1 : relax x e = x := by
        refine Le.anti (relax_len x e) ?_ (relax_ge x e)
        have := pass_ge E (relax x e)
        rw [h'] at this
        exact this
      rw [e1] at h'
      intro f hf
      rcases List.mem_cons.mp hf with rfl | hf
      · exact h0.mp e1
      · exact (pass_fix hr').mp h' f hf
    · intro s
      have e1 := h0.mpr (s e List.mem_cons_self)
      show pass E (relax x e) = x
      rw [e1]
      exact (pass_fix hr').mpr fun f hf => s f (List.mem_cons_of_mem _ hf)
/-! the least ones -/
structure Mini (n : Nat) (E : List Ed) (L : List Int) : Prop where
  len : L.length = n
  pos : Pos L
  sol : Sol E L
  min : ∀ y : List Int, y.length = n → Pos y → Sol E y → Le y L → y = L
def sumN (x : List Int) : Nat := (x.map Int.toNat).sum
theorem sum_lt : ∀ {x y : List Int}, x.length = y.length → Le x y → x ≠ y → Pos x → sumN x < sumN y
  | [], [], _, _, h, _ => absurd rfl h
  | [], _ :: _, hl, _, _, _ => by cases hl
  | _ :: _, [], hl, _, _, _ => by cases hl
  | a :: x, b :: y, hl, hle, hne, hp => by
    have h0 : a ≤ b := hle 0
    have hp0 : 0 ≤ a := hp 0
    have ht : Le x y := fun i => hle (i + 1)
    have hpt : Pos x := fun i => hp (i + 1)
    have hl' : x.length = y.length := by simpa using hl
    show a.toNat + (x.map Int.toNat).sum < b.toNat + (y.map Int.toNat).sum
    by_cases e : x = y
    · subst e
      have : a ≠ b := fun z => hne (by rw [z])
      omega
    · have := sum_lt hl' ht e hpt
      unfold sumN at this
      omega
theorem exists_mini {n : Nat} {E : List Ed} : ∀ (k : Nat) (y : List Int), sumN y ≤ k → y.length = n → Pos y → Sol E y → ∃ L, Mini n E L ∧ Le L y := by
  intro k
  induction k with
  | zero =>
    intro y hk hl hp hs
    refine ⟨y, ⟨hl, hp, hs, fun z zl zp zs zle => ?_⟩, Le.refl y⟩
    by_cases e : z = y
    · exact e
    · have := sum_lt (zl.trans hl.symm) zle e zp
      omega
  | succ k ih =>
    intro y hk hl hp hs
    by_cases h : ∃ z : List Int, z.length = n ∧ Pos z ∧ Sol E z ∧ Le z y ∧ z ≠ y
    · obtain ⟨z, z1, z2, z3, z4, z5⟩ := h
      have := sum_lt (z1.trans hl.symm) z4 z5 z2
      obtain ⟨L, h1, h2⟩ := ih z (by omega) z1 z2 z3
      exact ⟨L, h1, h2.trans z4⟩
    · refine ⟨y, ⟨hl, hp, hs, fun z zl zp zs zle => ?_⟩, Le.refl y⟩
      by_cases e : z = y
      · exact e
      · exact absurd ⟨z, zl, zp, zs, zle, e⟩ h
theorem grow {n : Nat} {E : List Ed} {L : List Int} (m : Mini n E L) (hr : Rg n E) (S : Nat → Bool) (h0 : ∀ i, i < n → gx L i = 0 → S i = true) (j : Nat) (hj : j < n) (hS : S j = false) :
    ∃ e ∈ E, S e.1 = true ∧ S e.2.1 = false ∧ gx L e.1 + e.2.2 = gx L e.2.1 := by
  apply Classical.byContradiction
  intro hno
  let y : List Int := (List.range n).map fun i => if S i then gx L i else gx L i - 1
  have hy : ∀ i, i < n → gx y i = if S i then gx L i else gx L i - 1 := fun i hi => by
    show gx ((List.range n).map _) i = _
    unfold gx
    rw [List.getD_eq_getElem?_getD, List.getElem?_map, List.getElem?_range hi]
    rfl
  have hyl : y.length = n := by simp [y]
  have hb : ∀ i, ¬ i < n → gx y i = 0 := fun i hi => gx_big (by rw [hyl]; omega)
  have e := m.min y hyl (fun i => ?_) (fun e he => ?_) (fun i => ?_)
  · have := congrArg (gx · j) e
    simp only [hy j hj, hS] at this
    simp at this
    omega
  · by_cases hi : i < n
    · rw [hy i hi]
      have hp := m.pos i
      cases hs : S i with
      | true => exact hp
      | false =>
        have : gx L i ≠ 0 := fun z => by rw [h0 i hi z] at hs; cases hs
        simp
        omega
    · rw [hb i hi]
      exact Int.le_refl _
  · obtain ⟨r1, r2⟩ := hr e he
    rw [hy _ r1, hy _ r2]
    have hs := m.sol e he
    cases s1 : S e.1 with
    | true =>
      cases s2 : S e.2.1 with
      | true => exact hs
      | false =>
        have : gx L e.1 + e.2.2 ≠ gx L e.2.1 := fun z => hno ⟨e, he, s1, s2, z⟩
        simp
        omega
    | false =>
      cases s2 : S e.2.1 with
      | true => simp; omega
      | false => simp; omega
  · by_cases hi : i < n
    · rw [hy i hi]
      cases S i <;> simp <;> omega
    · rw [hb i hi]
      exact m.pos i
theorem mini_zero {n : Nat} {E : List Ed} {L : List Int} (m : Mini n E L) (hr : Rg n E) (hn : 0 < n) : ∃ i, i < n ∧ gx L i = 0 := by
  apply Classical.byContradiction
  intro hno
  obtain ⟨e, _, h1, _⟩ := grow m hr (fun _ => false) (fun i hi z => absurd ⟨i, hi, z⟩ hno) 0 hn rfl
  cases h1
/-! counting -/
theorem countP_le {α : Type} {p q : α → Bool} : ∀ {l : List α}, (∀ x ∈ l, p x = true → q x = true) → l.countP p ≤ l.countP q
  | [], _ => Nat.le_refl _
  | a :: l, h => by
    have ih := countP_le (l := l) fun x hx => h x (List.mem_cons_of_mem _ hx)
    have h0 := h a List.mem_cons_self
    rw [List.countP_cons, List.countP_cons]
    by_cases hp : p a = true
    · rw [if_pos hp, if_pos (h0 hp)]; omega
    · rw [if_neg hp]; split <;> omega
theorem countP_lt {α : Type} {p q : α → Bool} : ∀ {l : List α} (j : α), (∀ x ∈ l, p x = true → q x = true) → j ∈ l → q j = true → p j = false → l.countP p < l.countP q
  | [], j, _, hj, _, _ => by cases hj
  | a :: l, j, h, hj, h1, h2 => by
    have h0 := h a List.mem_cons_self
    have ht := fun x hx => h x (List.mem_cons_of_mem a hx)
    rw [List.countP_cons, List.countP_cons]
    rcases List.mem_cons.mp hj with rfl | hj
    · rw [if_pos h1, if_neg (by rw [h2]; decide)]
      have := countP_le ht
      omega
    · have := countP_lt j ht hj h1 h2
      by_cases hp : p a = true
      · rw [if_pos hp, if_pos (h0 hp)]; omega
      · rw [if_neg hp]; split <;> omega
/-- how many are not yet as they will be -/
def open_ (n : Nat) (L x : List Int) : Nat := (List.range n).countP fun i => decide (gx x i ≠ gx L i)
theorem pass_hit {E0 : List Ed} {L : List Int} (s : Sol E0 L) (f : Ed) (ht : gx L f.1 + f.2.2 = gx L f.2.1) : ∀ (E : List Ed) (x : List Int), (∀ e ∈ E, e ∈ E0) → f ∈ E → f.2.1 < x.length → Le x L → gx x f.1 = gx L f.1 → gx (pass E x) f.2.1 = gx L f.2.1
  | [], x, _, hf, _, _, _ => by cases hf
  | e :: E, x, hs, hf, hl, hle, hx => by
    have hs' : ∀ g ∈ E, g ∈ E0 := fun g hg => hs g (List.mem_cons_of_mem _ hg)
    have h1 : Le (relax x e) L := relax_le s (hs e List.mem_cons_self) hle
    show gx (pass E (relax x e)) f.2.1 = _
    by_cases hE : f ∈ E
    · refine pass_hit s f ht E _ hs' hE (by rw [relax_len]; exact hl) h1 ?_
      have a1 := relax_ge x e f.1
      have a2 := h1 f.1
      omega
    · have hfe : f = e := by
        rcases List.mem_cons.mp hf with z | z
        · exact z
        · exact absurd z hE
      subst hfe
      have a1 : gx L f.2.1 ≤ gx (relax x f) f.2.1 := by
        unfold relax
        split
        · rw [gx_set, if_pos ⟨rfl, hl⟩]
          omega
        · omega
      have a2 := pass_ge E (relax x f) f.2.1
      have a3 := pass_le s E (relax x f) hs' h1 f.2.1
      omega
theorem open_dec {n : Nat} {E : List Ed} {L x : List Int} (m : Mini n E L) (hr : Rg n E) (hl : x.length = n) (hp : Pos x) (hle : Le x L) (h : 0 < open_ n L x) : open_ n L (pass E x) < open_ n L x := by
  obtain ⟨j, hj, hjo⟩ := List.countP_pos_iff.mp h
  have hj' : j < n := List.mem_range.mp hj
  obtain ⟨e, he, h1, h2, h3⟩ := grow m hr (fun i => decide (gx x i = gx L i)) (fun i hi z => by
    have a := hp i
    have b := hle i
    exact decide_eq_true (by omega)) j hj' (by simpa using hjo)
  have h1 := of_decide_eq_true h1
  have h2 := of_decide_eq_false h2
  have hhit := pass_hit m.sol e h3 E x (fun _ z => z) he (by rw [hl]; exact (hr e he).2) hle h1
  refine countP_lt e.2.1 (fun i hi q => ?_) (List.mem_range.mpr (hr e he).2) (decide_eq_true h2) (decide_eq_false fun z => z hhit)
  have q := of_decide_eq_true q
  refine decide_eq_true fun z => q ?_
  have a := pass_ge E x i
  have b := pass_le m.sol E x (fun _ z => z) hle i
  omega
theorem open_zero {n : Nat} {E : List Ed} {L x : List Int} (m : Mini n E L) (hl : x.length = n) (h : open_ n L x = 0) : x = L := by
  refine gx_ext (hl.trans m.len.symm) fun i => ?_
  by_cases hi : i < n
  · have := List.countP_eq_zero.mp h i (List.mem_range.mpr hi)
    simpa using this
  · rw [gx_big (by omega), gx_big (by rw [m.len]; omega)]
/-- raised until nothing changes -/
def runB (E : List Ed) : Nat → List Int → Option (List Int)
  | 0, _ => none
  | k + 1, x => if pass E x = x then some x else runB E k (pass E x)
theorem run_mini {n : Nat} {E : List Ed} {L : List Int} (m : Mini n E L) (hr : Rg n E) : ∀ (k : Nat) (x : List Int), x.length = n → Pos x → Le x L → open_ n L x < k → runB E k x = some L
  | 0, _, _, _, _, h => by omega
  | k + 1, x, hl, hp, hle, h => by
    unfold runB
    have hrl : ∀ e ∈ E, e.2.1 < x.length := fun e he => by rw [hl]; exact (hr e he).2
    by_cases e : pass E x = x
    · rw [if_pos e, m.min x hl hp ((pass_fix hrl).mp e) hle]
    · rw [if_neg e]
      have h0 : 0 < open_ n L x := by
        apply Nat.pos_of_ne_zero
        intro z
        have := open_zero m hl z
        subst this
        exact e ((pass_fix hrl).mpr m.sol)
      have := open_dec m hr hl hp hle h0
      exact run_mini m hr k (pass E x) (by rw [pass_len, hl]) (fun i => Int.le_trans (hp i) (pass_ge E x i)) (pass_le m.sol E x (fun _ z => z) hle) (by omega)
def zeros (n : Nat) : List Int := List.replicate n 0
theorem gx_zeros (n i : Nat) : gx (zeros n) i = 0 := by
  unfold gx zeros
  rw [List.getD_eq_getElem?_getD, List.getElem?_replicate]
  split <;> rfl
theorem open_le (n : Nat) (L x : List Int) : open_ n L x ≤ n := by
  unfold open_
  have := List.countP_le_length (p := fun i => decide (gx x i ≠ gx L i)) (l := List.range n)
  simpa using this
theorem run_sol : ∀ {E : List Ed} {k : Nat} {x r : List Int}, (∀ e ∈ E, e.2.1 < x.length) → runB E k x = some r → Sol E r ∧ r.length = x.length ∧ Le x r
  | E, 0, x, r, _, h => by cases h
  | E, k + 1, x, r, hr, h => by
    unfold runB at h
    split at h
    · rename_i e
      cases h
      exact ⟨(pass_fix hr).mp e, rfl, Le.refl _⟩
    · obtain ⟨h1, h2, h3⟩ := run_sol (k := k) (x := pass E x) (fun e he => by rw [pass_len]; exact hr e he) h
      exact ⟨h1, by rw [h2, pass_len], (pass_ge E x).trans h3⟩
/-- the least numbers, if there are any -/
def leastB (n : Nat) (E : List Ed) : Option (List Int) := runB E (n + 1) (zeros n)
theorem least_some {n : Nat} {E : List Ed} (hr : Rg n E) {y : List Int} (hl : y.length = n) (hp : Pos y) (hs : Sol E y) : ∃ L, leastB n E = some L ∧ Mini n E L ∧ Le L y := by
  obtain ⟨L, m, hle⟩ := exists_mini (sumN y) y (Nat.le_refl _) hl hp hs
  refine ⟨L, run_mini m hr (n + 1) (zeros n) (by simp [zeros]) (fun i => by rw [gx_zeros]; exact Int.le_refl _) (fun i => by rw [gx_zeros]; exact m.pos i) ?_, m, hle⟩
  have := open_le n L (zeros n)
  omega
theorem least_mini {n : Nat} {E : List Ed} (hr : Rg n E) {L : List Int} (h : leastB n E = some L) : Mini n E L := by
  obtain ⟨h1, h2, h3⟩ := run_sol (fun e he => by simp [zeros]; exact (hr e he).2) h
  have hl : L.length = n := by rw [h2]; simp [zeros]
  obtain ⟨L', e, m, _⟩ := least_some hr hl (fun i => by have := h3 i; rw [gx_zeros] at this; exact this) h1
  rw [h] at e
  cases e
  exact m
theorem least_le {n : Nat} {E : List Ed} (hr : Rg n E) {L y : List Int} (h : leastB n E = some L) (hl : y.length = n) (hp : Pos y) (hs : Sol E y) : Le L y := by
  obtain ⟨L', e, m, hle⟩ := least_some hr hl hp hs
  rw [h] at e
  cases e
  exact hle
theorem least_cong {n : Nat} {E E' : List Ed} (hr : Rg n E) (hr' : Rg n E') (h : ∀ y : List Int, Sol E y ↔ Sol E' y) : leastB n E = leastB n E' := by
  cases e : leastB n E with
  | some L =>
    have m := least_mini hr e
    obtain ⟨L', e', m', hle⟩ := least_some hr' m.len m.pos ((h L).mp m.sol)
    rw [e', m.min L' m'.len m'.pos ((h L').mpr m'.sol) hle]
  | none =>
    cases e' : leastB n E' with
    | none => rfl
    | some L' =>
      have m' := least_mini hr' e'
      obtain ⟨L, e2, _⟩ := least_some hr m'.len m'.pos ((h L').mpr m'.sol)
      rw [e] at e2
      cases e2
theorem mini_bound {n : Nat} {E : List Ed} {L : List Int} (m : Mini n E L) (hr : Rg n E) {W : Int} (hW : 0 ≤ W) (hw : ∀ e ∈ E, e.2.2 ≤ W) (i : Nat) : gx L i ≤ (n - 1 : Nat) * W := by
  by_cases hi : i < n
  · have key : ∀ k : Nat, k < n → k < (List.range n).countP fun i => decide (gx L i ≤ k * W) := by
      intro k
      induction k with
      | zero =>
        intro hn
        obtain ⟨j, hj, hz⟩ := mini_zero m hr hn
        exact List.countP_pos_iff.mpr ⟨j, List.mem_range.mpr hj, decide_eq_true (by rw [hz]; simp)⟩
      | succ k ih =>
        intro hk
        have ih := ih (by omega)
        have step : (k : Int) * W ≤ ((k + 1 : Nat) : Int) * W := by
          have : ((k + 1 : Nat) : Int) * W = k * W + W := by
            push_cast
            rw [Int.add_mul, Int.one_mul]
          omega
        have up : ∀ j ∈ List.range n, decide (gx L j ≤ k * W) = true → decide (gx L j ≤ (k + 1 : Nat) * W) = true := fun j _ q => decide_eq_true (Int.le_trans (of_decide_eq_true q) step)
        by_cases hall : ∀ j, j < n → gx L j ≤ k * W
        · have : (List.range n).countP (fun i => decide (gx L i ≤ (k + 1 : Nat) * W)) = n := by
            have h1 : (List.range n).countP (fun i => decide (gx L i ≤ (k + 1 : Nat) * W)) = (List.range n).length := List.countP_eq_length.mpr fun j hj => up j hj (decide_eq_true (hall j (List.mem_range.mp hj)))
            simpa using h1
          omega
        · have : ∃ j, j < n ∧ ¬ gx L j ≤ k * W := by
            apply Classical.byContradiction
            intro hno
            exact hall fun j hj => Classical.byContradiction fun z => hno ⟨j, hj, z⟩
          obtain ⟨j, hj, hjn⟩ := this
          have hkW : 0 ≤ (k : Int) * W := Int.mul_nonneg (by omega) hW
          obtain ⟨e, he, h1, h2, h3⟩ := grow m hr (fun i => decide (gx L i ≤ k * W)) (fun i hi z => decide_eq_true (by omega)) j hj (decide_eq_false hjn)
          have h1 := of_decide_eq_true h1
          have h2' := of_decide_eq_false h2
          have h4 := hw e he
          have hlt := countP_lt e.2.1 up (List.mem_range.mpr (hr e he).2) (decide_eq_true (by
            have : ((k + 1 : Nat) : Int) * W = k * W + W := by
              push_cast
              rw [Int.add_mul, Int.one_mul]
            omega)) (decide_eq_false h2')
          omega
    have h1 := key (n - 1) (by omega)
    have h2 : (List.range n).countP (fun i => decide (gx L i ≤ (n - 1 : Nat) * W)) = (List.range n).length := by
      have := List.countP_le_length (p := fun i => decide (gx L i ≤ (n - 1 : Nat) * W)) (l := List.range n)
      simp only [List.length_range] at this ⊢
      omega
    have h3 := List.countP_eq_length.mp h2 i (List.mem_range.mpr hi)
    exact of_decide_eq_true h3
  · rw [gx_big (by rw [m.len]; omega)]
    exact Int.mul_nonneg (by omega) hW
end Nv

set_option Elab.async false
set_option linter.all false
set_option maxRecDepth 100000
namespace Nv
open PySem
/-- is_whole -/
def d_is_whole : Def where
  n := 3
  ps := [false, false, false]
  body := [
    .ret (.and (.op .isInt [.imm (.var 0)]) (.and (.not (.op .isBool [.imm (.var 0)])) (.leLe (.var 1) (.var 0) (.var 2))))]
def t_is_whole : Tb where
  N := ["thing", "low", "most"]
  fns := []
  gls := []
  exs := []
def f_is_whole : Fn := evDef t_is_whole.G d_is_whole

/-- is_pair -/
def d_is_pair : Def where
  n := 3
  ps := [false, false]
  body := [
    .ite (.or (.not (.op .isTup [.imm (.var 0)])) (.or (.op .ne [.imm (.op .len [.imm (.var 0)]), .imm (.cst (.int 2))]) (.not (.op .allB [.imm (.lc (.call 0 [.imm (.var 2), .imm (.cst (.int 0)), .imm (.op .sub [.imm (.var 1), .imm (.cst (.int 1))])]) [2] true (.seq (.imm (.var 0))) none)]))))
    [.ret (.cst (.bool false))]
    [],
    .ret (.op .ne [.imm (.op .idx [.imm (.var 0), .imm (.cst (.int 0))]), .imm (.op .idx [.imm (.var 0), .imm (.cst (.int 1))])])]
def t_is_pair : Tb where
  N := ["thing", "many", "one"]
  fns := [("is_whole", [false, false, false], f_is_whole)]
  gls := []
  exs := []
def f_is_pair : Fn := evDef t_is_pair.G d_is_pair

/-- is_order -/
def d_is_order : Def where
  n := 2
  ps := [false]
  body := [
    .ite (.or (.not (.op .isTup [.imm (.var 0)])) (.or (.op .ne [.imm (.op .len [.imm (.var 0)]), .imm (.cst (.int 2))]) (.not (.call 0 [.imm (.op .idx [.imm (.var 0), .imm (.cst (.int 0))]), .imm (.cst (.int 1)), .imm (.glob 0)]))))
    [.ret (.cst (.bool false))]
    [],
    .ite (.or (.not (.op .isTup [.imm (.op .idx [.imm (.var 0), .imm (.cst (.int 1))])])) (.not (.op .allB [.imm (.lc (.call 1 [.imm (.var 1), .imm (.op .idx [.imm (.var 0), .imm (.cst (.int 0))])]) [1] true (.seq (.imm (.op .idx [.imm (.var 0), .imm (.cst (.int 1))]))) none)])))
    [.ret (.cst (.bool false))]
    [],
    .ret (.op .eq [.imm (.op .list [.imm (.op .idx [.imm (.var 0), .imm (.cst (.int 1))])]), .imm (.op .srtSet [.imm (.op .idx [.imm (.var 0), .imm (.cst (.int 1))])])])]
def t_is_order : Tb where
  N := ["thing", "pair"]
  fns := [("is_whole", [false, false, false], f_is_whole), ("is_pair", [false, false], f_is_pair)]
  gls := [("MANY", .int 8)]
  exs := []
def f_is_order : Fn := evDef t_is_order.G d_is_order

/-- need_order -/
def d_need_order : Def where
  n := 1
  ps := [false]
  body := [
    .ite (.not (.call 0 [.imm (.var 0)]))
    [.raise 1]
    []]
def t_need_order : Tb where
  N := ["thing"]
  fns := [("is_order", [false], f_is_order)]
  gls := []
  exs := [(1, "NoOrder")]
def f_need_order : Fn := evDef t_need_order.G d_need_order

/-- need_thing -/
def d_need_thing : Def where
  n := 2
  ps := [false, false]
  body := [
    .ite (.not (.call 0 [.imm (.var 1), .imm (.cst (.int 0)), .imm (.op .sub [.imm (.op .idx [.imm (.var 0), .imm (.cst (.int 0))]), .imm (.cst (.int 1))])]))
    [.raise 2]
    []]
def t_need_thing : Tb where
  N := ["order", "thing"]
  fns := [("is_whole", [false, false, false], f_is_whole)]
  gls := []
  exs := [(2, "NoThing")]
def f_need_thing : Fn := evDef t_need_thing.G d_need_thing

/-- less_than -/
def d_less_than : Def where
  n := 4
  ps := [false, false]
  body := [
    .ret (.lc (.var 2) [2, 3] false (.seq (.imm (.op .idx [.imm (.var 0), .imm (.cst (.int 1))]))) (some (.op .eq [.imm (.var 3), .imm (.var 1)])))]
def t_less_than : Tb where
  N := ["order", "thing", "one", "other"]
  fns := []
  gls := []
  exs := []
def f_less_than : Fn := evDef t_less_than.G d_less_than

/-- more_than -/
def d_more_than : Def where
  n := 4
  ps := [false, false]
  body := [
    .ret (.lc (.var 3) [2, 3] false (.seq (.imm (.op .idx [.imm (.var 0), .imm (.cst (.int 1))]))) (some (.op .eq [.imm (.var 2), .imm (.var 1)])))]
def t_more_than : Tb where
  N := ["order", "thing", "one", "other"]
  fns := []
  gls := []
  exs := []
def f_more_than : Fn := evDef t_more_than.G d_more_than

/-- beside -/
def d_beside : Def where
  n := 4
  ps := [false, false]
  body := [
    .drop (.call 0 [.imm (.var 0)]),
    .drop (.call 1 [.imm (.var 0), .imm (.var 1)]),
    .asg 2 (.op .add [.imm (.call 2 [.imm (.var 0), .imm (.var 1)]), .imm (.call 3 [.imm (.var 0), .imm (.var 1)])]),
    .ret (.lc (.var 3) [3] true (.rng (.imm (.op .idx [.imm (.var 0), .imm (.cst (.int 0))]))) (some (.op .nin [.imm (.var 3), .imm (.var 2)])))]
def t_beside : Tb where
  N := ["order", "thing", "far", "one"]
  fns := [("need_order", [false], f_need_order), ("need_thing", [false, false], f_need_thing), ("less_than", [false, false], f_less_than), ("more_than", [false, false], f_more_than)]
  gls := []
  exs := []
def f_beside : Fn := evDef t_beside.G d_beside

/-- turned -/
def d_turned : Def where
  n := 3
  ps := [false]
  body := [
    .drop (.call 0 [.imm (.var 0)]),
    .ret (.tup [.imm (.op .idx [.imm (.var 0), .imm (.cst (.int 0))]), .imm (.op .tuple [.imm (.op .srt [.imm (.lc (.tup [.imm (.var 2), .imm (.var 1)]) [1, 2] false (.seq (.imm (.op .idx [.imm (.var 0), .imm (.cst (.int 1))]))) none)])])])]
def t_turned : Tb where
  N := ["order", "one", "other"]
  fns := [("need_order", [false], f_need_order)]
  gls := []
  exs := []
def f_turned : Fn := evDef t_turned.G d_turned

/-- bars -/
def d_bars : Def where
  n := 8
  ps := [false, false]
  body := [
    .unp [3, 4, 5, 6, 7] (.var 1),
    .asg 2 (.op .idx [.imm (.var 0), .imm (.cst (.int 1))]),
    .ite (.op .eq [.imm (.var 3), .imm (.cst (.str (PySem.Str.ofString "two")))])
    [.ret (.and (.op .inn [.imm (.tup [.imm (.var 4), .imm (.var 5)]), .imm (.var 2)]) (.and (.op .inn [.imm (.tup [.imm (.var 6), .imm (.var 7)]), .imm (.var 2)]) (.and (.op .nin [.imm (.tup [.imm (.var 4), .imm (.var 7)]), .imm (.var 2)]) (.op .nin [.imm (.tup [.imm (.var 6), .imm (.var 5)]), .imm (.var 2)]))))]
    [],
    .ret (.and (.op .inn [.imm (.tup [.imm (.var 4), .imm (.var 5)]), .imm (.var 2)]) (.and (.op .inn [.imm (.tup [.imm (.var 5), .imm (.var 6)]), .imm (.var 2)]) (.and (.op .nin [.imm (.tup [.imm (.var 4), .imm (.var 7)]), .imm (.var 2)]) (.op .nin [.imm (.tup [.imm (.var 7), .imm (.var 6)]), .imm (.var 2)]))))]
def t_bars : Tb where
  N := ["order", "row", "some", "word", "a", "b", "c", "d"]
  fns := []
  gls := []
  exs := []
def f_bars : Fn := evDef t_bars.G d_bars

/-- all_bars -/
def d_all_bars : Def where
  n := 8
  ps := [false]
  body := [
    .asgM 1 (.lst []),
    .for_ [3, 4] false (.seq (.imm (.op .idx [.imm (.var 0), .imm (.cst (.int 1))]))) [3, 4]
    [.ext 1 (.lc (.tup [.imm (.cst (.str (PySem.Str.ofString "two"))), .imm (.var 3), .imm (.var 4), .imm (.var 6), .imm (.var 7)]) [6, 7] false (.seq (.imm (.op .idx [.imm (.var 0), .imm (.cst (.int 1))]))) (some (.call 0 [.imm (.var 0), .imm (.tup [.imm (.cst (.str (PySem.Str.ofString "two"))), .imm (.var 3), .imm (.var 4), .imm (.var 6), .imm (.var 7)])])))],
    .asgM 1 (.op .srt [.own 1]),
    .asgM 2 (.lst []),
    .for_ [3, 4] false (.seq (.imm (.op .idx [.imm (.var 0), .imm (.cst (.int 1))]))) [3, 4, 5, 6]
    [.for_ [5, 6] false (.seq (.imm (.op .idx [.imm (.var 0), .imm (.cst (.int 1))]))) [5, 6]
    [.ite (.op .eq [.imm (.var 5), .imm (.var 4)])
    [.ext 2 (.lc (.tup [.imm (.cst (.str (PySem.Str.ofString "three"))), .imm (.var 3), .imm (.var 4), .imm (.var 6), .imm (.var 7)]) [7] true (.rng (.imm (.op .idx [.imm (.var 0), .imm (.cst (.int 0))]))) (some (.call 0 [.imm (.var 0), .imm (.tup [.imm (.cst (.str (PySem.Str.ofString "three"))), .imm (.var 3), .imm (.var 4), .imm (.var 6), .imm (.var 7)])])))]
    []]],
    .ret (.op .add [.own 1, .imm (.op .srt [.own 2])])]
def t_all_bars : Tb where
  N := ["order", "made", "some", "a", "b", "other", "c", "d"]
  fns := [("bars", [false, false], f_bars)]
  gls := []
  exs := []
def f_all_bars : Fn := evDef t_all_bars.G d_all_bars

/-- bar -/
def d_bar : Def where
  n := 1
  ps := [false]
  body := [
    .drop (.call 0 [.imm (.var 0)]),
    .ret (.op .idx [.imm (.op .add [.imm (.call 1 [.imm (.var 0)]), .imm (.lst [.imm (.cst .none)])]), .imm (.cst (.int 0))])]
def t_bar : Tb where
  N := ["order"]
  fns := [("need_order", [false], f_need_order), ("all_bars", [false], f_all_bars)]
  gls := []
  exs := []
def f_bar : Fn := evDef t_bar.G d_bar

/-- _law_cell_at -/
def d_law_cell_at : Def where
  n := 2
  ps := [false, false]
  body := [
    .ite (.op .lt [.imm (.var 1), .imm (.op .len [.imm (.var 0)])])
    [.ret (.op .idx [.imm (.var 0), .imm (.var 1)])]
    [],
    .ite (.op .eq [.imm (.var 0), .imm (.lst [])])
    [.ret (.cst (.int 0))]
    [],
    .ret (.op .add [.imm (.op .mul [.imm (.op .idx [.imm (.var 0), .imm (.op .mod [.imm (.var 1), .imm (.op .len [.imm (.var 0)])])]), .imm (.cst (.int 31))]), .imm (.var 1)])]
def t_law_cell_at : Tb where
  N := ["_law_script", "_law_k"]
  fns := []
  gls := []
  exs := []
def f_law_cell_at : Fn := evDef t_law_cell_at.G d_law_cell_at

/-- _law_mixed -/
def d_law_mixed : Def where
  n := 4
  ps := [false, false, false]
  body := [
    .asg 3 (.op .mod [.imm (.op .add [.imm (.op .add [.imm (.op .mul [.imm (.call 0 [.imm (.var 0), .imm (.var 1)]), .imm (.cst (.int 1103515245))]), .imm (.op .mul [.imm (.cst (.int 7919)), .imm (.var 1)])]), .imm (.cst (.int 12345))]), .imm (.cst (.int 2147483647))]),
    .ret (.op .mod [.imm (.op .mod [.imm (.op .mod [.imm (.op .pow [.imm (.var 3), .imm (.cst (.int 5))]), .imm (.cst (.int 2147483647))]), .imm (.cst (.int 999983))]), .imm (.var 2)])]
def t_law_mixed : Tb where
  N := ["_law_script", "_law_k", "_law_many", "_law_drawn"]
  fns := [("_law_cell_at", [false, false], f_law_cell_at)]
  gls := []
  exs := []
def f_law_mixed : Fn := evDef t_law_mixed.G d_law_mixed

/-- _law_draw -/
def d_law_draw : Def where
  n := 3
  ps := [false, true, false]
  body := [
    .app 1 (.cst (.int 0)),
    .ret (.call 0 [.imm (.var 0), .imm (.op .len [.own 1]), .imm (.var 2)])]
def t_law_draw : Tb where
  N := ["_law_script", "_law_town", "_law_many"]
  fns := [("_law_mixed", [false, false, false], f_law_mixed)]
  gls := []
  exs := []
def f_law_draw : Fn := evDef t_law_draw.G d_law_draw

/-- _law_pick -/
def d_law_pick : Def where
  n := 3
  ps := [false, true, false]
  body := [
    .ret (.op .idx [.imm (.var 2), .imm (.call 0 [.imm (.var 0), .own 1, .imm (.op .len [.imm (.var 2)])])])]
def t_law_pick : Tb where
  N := ["_law_script", "_law_town", "_law_some"]
  fns := [("_law_draw", [false, true, false], f_law_draw)]
  gls := []
  exs := []
def f_law_pick : Fn := evDef t_law_pick.G d_law_pick

/-- _law_free -/
def d_law_free : Def where
  n := 12
  ps := [false, true, false, false]
  body := [
    .asg 4 (.op .add [.imm (.cst (.int 1)), .imm (.call 0 [.imm (.var 0), .own 1, .imm (.cst (.int 5))])]),
    .asg 5 (.call 1 [.imm (.var 0), .own 1, .imm (.lst [.imm (.cst (.int 3)), .imm (.cst (.int 6)), .imm (.cst (.int 9)), .imm (.cst (.int 14)), .imm (.cst (.int 20))])]),
    .asg 6 (.op .add [.imm (.var 2), .imm (.call 0 [.imm (.var 0), .own 1, .imm (.op .add [.imm (.op .sub [.imm (.var 3), .imm (.var 2)]), .imm (.cst (.int 1))])])]),
    .asg 7 (.lc (.call 0 [.imm (.var 0), .own 1, .imm (.var 5)]) [10] true (.rng (.imm (.var 6))) none),
    .asgM 8 (.lst []),
    .for_ [9] true (.rng (.imm (.var 6))) [9]
    [.ext 8 (.lc (.tup [.imm (.var 9), .imm (.var 11)]) [11] true (.rng (.imm (.var 6))) (some (.op .ge [.imm (.op .sub [.imm (.op .idx [.imm (.var 7), .imm (.var 11)]), .imm (.op .idx [.imm (.var 7), .imm (.var 9)])]), .imm (.var 4)])))],
    .ret (.tup [.imm (.var 6), .imm (.op .tuple [.imm (.op .srt [.own 8])])])]
def t_law_free : Tb where
  N := ["_law_script", "_law_town", "_law_low", "_law_most", "_law_step", "_law_wide", "_law_many", "_law_line_up", "_law_pairs", "_law_one", "_law_k", "_law_other"]
  fns := [("_law_draw", [false, true, false], f_law_draw), ("_law_pick", [false, true, false], f_law_pick)]
  gls := []
  exs := []
def f_law_free : Fn := evDef t_law_free.G d_law_free

/-- _law_any -/
def d_law_any : Def where
  n := 12
  ps := [false, true, false, false]
  body := [
    .asg 4 (.call 0 [.imm (.var 0), .own 1, .imm (.cst (.int 4))]),
    .unp [6, 7] (.call 1 [.imm (.var 0), .own 1, .imm (.var 2), .imm (.var 3)]),
    .for_ [5] true (.rng (.imm (.ite (.op .gt [.imm (.var 6), .imm (.cst (.int 1))]) (.var 4) (.cst (.int 0))))) [5, 8, 9, 10]
    [.asg 8 (.call 0 [.imm (.var 0), .own 1, .imm (.var 6)]),
    .asg 9 (.op .mod [.imm (.op .add [.imm (.op .add [.imm (.var 8), .imm (.cst (.int 1))]), .imm (.call 0 [.imm (.var 0), .own 1, .imm (.op .sub [.imm (.var 6), .imm (.cst (.int 1))])])]), .imm (.var 6)]),
    .asg 10 (.call 0 [.imm (.var 0), .own 1, .imm (.cst (.int 3))]),
    .asg 7 (.op .tuple [.imm (.lc (.var 11) [11] true (.seq (.imm (.var 7))) (some (.op .ne [.imm (.var 11), .imm (.tup [.imm (.var 8), .imm (.var 9)])])))]),
    .ite (.op .gt [.imm (.var 10), .imm (.cst (.int 0))])
    [.asg 7 (.op .add [.imm (.var 7), .imm (.tup [.imm (.tup [.imm (.var 8), .imm (.var 9)])])])]
    [],
    .ite (.op .eq [.imm (.var 10), .imm (.cst (.int 1))])
    [.asg 7 (.op .tuple [.imm (.lc (.var 11) [11] true (.seq (.imm (.var 7))) (some (.op .ne [.imm (.var 11), .imm (.tup [.imm (.var 9), .imm (.var 8)])])))])]
    []],
    .ret (.tup [.imm (.var 6), .imm (.op .tuple [.imm (.op .srt [.imm (.var 7)])])])]
def t_law_any : Tb where
  N := ["_law_script", "_law_town", "_law_low", "_law_most", "_law_spoil", "_law_k", "_law_many", "_law_pairs", "_law_one", "_law_other", "_law_way", "_law_pair"]
  fns := [("_law_draw", [false, true, false], f_law_draw), ("_law_free", [false, true, false, false], f_law_free)]
  gls := []
  exs := []
def f_law_any : Fn := evDef t_law_any.G d_law_any

end Nv

set_option linter.all false
set_option maxRecDepth 100000
namespace Nv
open PySem
/-! ### orders -/
/-- pairs in their rising order, each once -/
def lexLt (p q : Int × Int) : Prop := p.1 < q.1 ∨ (p.1 = q.1 ∧ p.2 < q.2)
structure IsOrd (n : Int) (ps : List (Int × Int)) : Prop where
  lo : 1 ≤ n
  hi : n ≤ 8
  pw : ps.Pairwise lexLt
  ok : ∀ p ∈ ps, (0 ≤ p.1 ∧ p.1 < n) ∧ (0 ≤ p.2 ∧ p.2 < n) ∧ p.1 ≠ p.2
def ordD (n : Int) (ps : List (Int × Int)) : D := .tuple [.int n, .tuple (ps.map pairD)]
theorem pl_pair (p : Int × Int) : plN 1 (pairD p) = true := rfl
theorem pl_pairs (ps : List (Int × Int)) : ∀ x ∈ ps.map pairD, plN 1 x = true := fun x hx => by
  obtain ⟨p, _, rfl⟩ := List.mem_map.mp hx
  rfl
theorem pairD_inj {p q : Int × Int} : pairD p = pairD q ↔ p = q := by
  constructor
  · intro h
    unfold pairD at h
    simp at h
    exact Prod.ext h.1 h.2
  · rintro rfl; rfl
theorem mem_pairs {p : Int × Int} {ps : List (Int × Int)} : pairD p ∈ ps.map pairD ↔ p ∈ ps := by
  constructor
  · intro h
    obtain ⟨q, hq, e⟩ := List.mem_map.mp h
    rw [← pairD_inj.mp e]
    exact hq
  · exact fun h => List.mem_map.mpr ⟨p, h, rfl⟩
theorem pairs_inj {ps qs : List (Int × Int)} : ps.map pairD = qs.map pairD ↔ ps = qs :=
  ⟨fun h => (List.map_inj_right fun _ _ e => pairD_inj.mp e).mp h, fun h => by rw [h]⟩
theorem ord_len {n : Int} {ps : List (Int × Int)} (h : IsOrd n ps) : ps.length ≤ 64 := by
  have key : ∀ (l : List (Int × Int)) (b : Int), l.Pairwise lexLt → (∀ p ∈ l, (0 ≤ p.1 ∧ p.1 < 8) ∧ (0 ≤ p.2 ∧ p.2 < 8) ∧ b ≤ p.1 * 8 + p.2) → (l.length : Int) ≤ 64 - b ∨ l = [] := by
    intro l
    induction l with
    | nil => intro b _ _; exact .inr rfl
    | cons x xs ih =>
      intro b hp hb
      rw [List.pairwise_cons] at hp
      have hx := hb x List.mem_cons_self
      rcases ih (x.1 * 8 + x.2 + 1) hp.2 (fun p hpm => by
        have h1 := hp.1 p hpm
        have h2 := hb p (List.mem_cons_of_mem _ hpm)
        refine ⟨h2.1, h2.2.1, ?_⟩
        rcases h1 with h1 | h1 <;> omega) with q | q
      · left
        simp only [List.length_cons]
        omega
      · subst q
        left
        simp only [List.length_cons, List.length_nil]
        omega
  rcases key ps 0 h.pw (fun p hp => by have := h.ok p hp; have := h.hi; omega) with q | q
  · omega
  · rw [q]; decide
theorem whole_int (i a b : Int) : f_is_whole [.int i, .int a, .int b] = .ok (.bool (decide (a ≤ i ∧ i ≤ b))) [] := by
  simp [f_is_whole, evDef_eq, d_is_whole]
  split
  · simp_all
  · simp_all; omega
theorem pair_ok (p : Int × Int) (m : Int) : f_is_pair [pairD p, .int m] = .ok (.bool (decide ((0 ≤ p.1 ∧ p.1 < m) ∧ (0 ≤ p.2 ∧ p.2 < m) ∧ p.1 ≠ p.2))) [] := by
  simp [f_is_pair, evDef_eq, d_is_pair, pairD, lcR, compR, lcB, tgE, Tb.G, t_is_pair, callW_0 (whole_int _ _ _)]
  by_cases h : ((0 ≤ p.1 ∧ p.1 ≤ m - 1) ∧ 0 ≤ p.2 ∧ p.2 ≤ m - 1)
  · have h1 : p.1 < m := by omega
    have h2 : p.2 < m := by omega
    simp [h, h1, h2]
  · simp [h]
    omega
theorem pairsD_pairs : ∀ {ps : List (Int × Int)}, (∀ p ∈ ps, (0 ≤ p.1 ∧ p.1 < 64) ∧ 0 ≤ p.2 ∧ p.2 < 64) → pairsD (ps.map pairD) = some ps
  | [], _ => rfl
  | p :: ps, h => by
    have h1 := h p List.mem_cons_self
    show (if 0 ≤ p.1 ∧ p.1 < 64 ∧ 0 ≤ p.2 ∧ p.2 < 64 then (pairsD (ps.map pairD)).map ((p.1, p.2) :: ·) else none) = _
    rw [if_pos ⟨h1.1.1, h1.1.2, h1.2⟩, pairsD_pairs fun q hq => h q (List.mem_cons_of_mem _ hq)]
    rfl
theorem lex_code {p q : Int × Int} (h : lexLt p q) (hp : (0 ≤ p.1 ∧ p.1 < 64) ∧ 0 ≤ p.2 ∧ p.2 < 64) (hq : (0 ≤ q.1 ∧ q.1 < 64) ∧ 0 ≤ q.2 ∧ q.2 < 64) : p.1 * 64 + p.2 < q.1 * 64 + q.2 := by
  rcases h with h | h <;> omega
theorem nubP_id : ∀ {ps : List (Int × Int)}, ps.Nodup → nubP ps = ps
  | [], _ => rfl
  | x :: xs, h => by
    rw [List.nodup_cons] at h
    unfold nubP
    rw [nubP_id h.2, if_neg h.1]
theorem lex_ne {p q : Int × Int} (h : lexLt p q) : p ≠ q := by
  rintro rfl
  rcases h with h | h <;> omega
theorem srtP_id {ps : List (Int × Int)} (h : ps.Pairwise lexLt) (b : ∀ p ∈ ps, (0 ≤ p.1 ∧ p.1 < 64) ∧ 0 ≤ p.2 ∧ p.2 < 64) : srtP ps = ps := by
  unfold srtP
  rw [nubP_id (h.imp fun h => lex_ne h)]
  refine List.mergeSort_of_pairwise ?_
  refine List.Pairwise.imp_of_mem (fun {p q} hp hq h => ?_) h
  unfold pairLe
  have := lex_code h (b p hp) (b q hq)
  exact decide_eq_true (by omega)
theorem IsOrd.b64 {n : Int} {ps : List (Int × Int)} (h : IsOrd n ps) : ∀ p ∈ ps, (0 ≤ p.1 ∧ p.1 < 64) ∧ 0 ≤ p.2 ∧ p.2 < 64 := fun p hp => by
  have h1 := h.ok p hp
  have := h.hi
  omega
theorem ord_len' {n : Int} {ps : List (Int × Int)} (h : IsOrd n ps) : ps.length < 64 := by
  have key : ∀ (l : List (Int × Int)) (b : Int), l.Pairwise lexLt → (∀ p ∈ l, ((0 ≤ p.1 ∧ p.1 < 8) ∧ (0 ≤ p.2 ∧ p.2 < 8)) ∧ b ≤ p.1 * 8 + p.2) → (l.length : Int) ≤ 64 - b ∨ l = [] := by
    intro l
    induction l with
    | nil => intro b _ _; exact .inr rfl
    | cons x xs ih =>
      intro b hp hb
      rw [List.pairwise_cons] at hp
      have hx := hb x List.mem_cons_self
      rcases ih (x.1 * 8 + x.2 + 1) hp.2 (fun p hpm => by
        have h1 := hp.1 p hpm
        have h2 := hb p (List.mem_cons_of_mem _ hpm)
        refine ⟨h2.1, ?_⟩
        rcases h1 with h1 | h1 <;> omega) with q | q
      · left
        simp only [List.length_cons]
        omega
      · subst q
        left
        simp only [List.length_cons, List.length_nil]
        omega
  rcases key ps 1 h.pw (fun p hp => by have := h.ok p hp; have := h.hi; omega) with q | q
  · omega
  · rw [q]; decide
theorem order_ok {n : Int} {ps : List (Int × Int)} (h : IsOrd n ps) : f_is_order [ordD n ps] = .ok (.bool true) [] := by
  have hlo := h.lo
  have hhi := h.hi
  have hsrt : pSrtSet [.tuple (ps.map pairD)] = some (.list (ps.map pairD)) := by
    unfold pSrtSet
    simp only [pairsD_pairs h.b64, ord_len' h, if_true, srtP_id h.pw h.b64]
  have he : pEq [.list (ps.map pairD), .list (ps.map pairD)] = some (.bool true) := pEq_pl (n := 2) (m := 2) (pl_list (pl_pairs ps)) (pl_list (pl_pairs ps)) (by decide) (by decide) (by simp)
  simp [f_is_order, evDef_eq, d_is_order, ordD, Tb.G, t_is_order, callW_0 (whole_int _ _ _), hlo, hhi]
  rw [lcR_map pairD (fun p => .bool true) ?_ rfl]
  · simp [hsrt, he]
  · intro p hp
    simp [lcB, tgE, callW_0 (pair_ok _ _), decide_eq_true (h.ok p hp)]
theorem need_order_ok {n : Int} {ps : List (Int × Int)} (h : IsOrd n ps) : f_need_order [ordD n ps] = .ok .none [] := by
  simp [f_need_order, evDef_eq, d_need_order, Tb.G, t_need_order, callW_0 (order_ok h)]
theorem need_thing_ok {n t : Int} {ps : List (Int × Int)} (h0 : 0 ≤ t) (h1 : t < n) : f_need_thing [ordD n ps, .int t] = .ok .none [] := by
  have : t ≤ n - 1 := by omega
  simp [f_need_thing, evDef_eq, d_need_thing, Tb.G, t_need_thing, callW_0 (whole_int _ _ _), ordD, h0, this]
theorem less_ok {n t : Int} {ps : List (Int × Int)} : f_less_than [ordD n ps, .int t] = .ok (.list ((ps.filter fun p => decide (p.2 = t)).map fun p => .int p.1)) [] := by
  simp [f_less_than, evDef_eq, d_less_than, Tb.G, t_less_than, ordD]
  rw [lcR_filter pairD (fun p => decide (p.2 = t)) (fun p => .int p.1) ?_ rfl]
  · simp
  · intro p hp
    simp [lcB, tgE, pairD]
    by_cases e : p.2 = t <;> simp [e]
theorem more_ok {n t : Int} {ps : List (Int × Int)} : f_more_than [ordD n ps, .int t] = .ok (.list ((ps.filter fun p => decide (p.1 = t)).map fun p => .int p.2)) [] := by
  simp [f_more_than, evDef_eq, d_more_than, Tb.G, t_more_than, ordD]
  rw [lcR_filter pairD (fun p => decide (p.1 = t)) (fun p => .int p.2) ?_ rfl]
  · simp
  · intro p hp
    simp [lcB, tgE, pairD]
    by_cases e : p.1 = t <;> simp [e]
/-- 0, 1, .. -/
def upTo (n : Int) : List Int := (List.range n.toNat).map Int.ofNat
theorem rng_upTo {n : Int} (h : n ≤ 1000000) (h0 : -1000000 ≤ n) : itRng [.int n] = some ((upTo n).map .int) := by
  rw [itRng_ok ⟨h0, h⟩, upTo, List.map_map]
  rfl
theorem mem_upTo {n x : Int} : x ∈ upTo n ↔ 0 ≤ x ∧ x < n := by
  unfold upTo
  rw [List.mem_map]
  constructor
  · rintro ⟨k, hk, rfl⟩
    rw [List.mem_range] at hk
    exact ⟨Int.natCast_nonneg k, by show (k : Int) < n; omega⟩
  · intro h
    refine ⟨x.toNat, List.mem_range.mpr (by omega), ?_⟩
    show ((x.toNat : Nat) : Int) = x
    omega
def farB (ps : List (Int × Int)) (t x : Int) : Bool := decide ((x, t) ∈ ps ∨ (t, x) ∈ ps)
theorem beside_ok {n t : Int} {ps : List (Int × Int)} (h : IsOrd n ps) (h0 : 0 ≤ t) (h1 : t < n) : f_beside [ordD n ps, .int t] = .ok (.list (((upTo n).filter fun x => !farB ps t x).map .int)) [] := by
  have hlo := h.lo
  have hhi := h.hi
  have hlen := ord_len' h
  have hl1 : (ps.filter fun p => decide (p.2 = t)).length ≤ ps.length := List.length_filter_le _ _
  have hl2 : (ps.filter fun p => decide (p.1 = t)).length ≤ ps.length := List.length_filter_le _ _
  have hs : ((ps.filter fun p => decide (p.2 = t)).map fun p => PyData.int p.1).length + ((ps.filter fun p => decide (p.1 = t)).map fun p => PyData.int p.2).length ≤ sizeLine := by
    rw [List.length_map, List.length_map, sizeLine_eq]
    omega
  simp [f_beside, evDef_eq, d_beside, Tb.G, t_beside, callW_0 (need_order_ok h), callW_0 (need_thing_ok (ps := ps) h0 h1), callW_0 less_ok, callW_0 more_ok, pAdd_list hs]
  simp [ordD, rng_upTo (show n ≤ 1000000 by omega) (by omega)]
  rw [lcR_filter PyData.int (fun x => !farB ps t x) PyData.int ?_ rfl]
  · simp
  · intro x hx
    have hm : farB ps t x = true ↔ PyData.int x ∈ ((ps.filter fun p => decide (p.2 = t)).map fun p => PyData.int p.1) ++ ((ps.filter fun p => decide (p.1 = t)).map fun p => PyData.int p.2) := by
      unfold farB
      simp
    have hp := (pNin_pl (n := 0) (m := 0) (a := .int x) rfl (xs := ((ps.filter fun p => decide (p.2 = t)).map fun p => PyData.int p.1) ++ ((ps.filter fun p => decide (p.1 = t)).map fun p => PyData.int p.2)) (by
      intro y hy
      simp at hy
      rcases hy with ⟨a, _, rfl⟩ | ⟨a, b, _, rfl⟩ <;> rfl) (by decide) (by decide) hm).2
    simp [lcB, tgE, hp]
    by_cases e : farB ps t x = true <;> simp [e]

instance (p q : Int × Int) : Decidable (lexLt p q) := by unfold lexLt; infer_instance
def lexLe (p q : Int × Int) : Bool := !decide (lexLt q p)
def srtQ (ps : List (Int × Int)) : List (Int × Int) := ps.mergeSort lexLe
theorem lt_pair (p q : Int × Int) : PySem.W.dataLt (pairD p) (pairD q) = decide (lexLt p q) := by
  obtain ⟨a, b⟩ := p
  obtain ⟨c, d⟩ := q
  unfold pairD lexLt
  rw [PySem.W.dataLt_tuple]
  by_cases h1 : a = c
  · subst h1
    rw [PySem.W.dataLt_all_yes (by simp [PySem.W.alike]) (by simp [PyData.eqv])]
    by_cases h2 : b = d
    · subst h2
      rw [PySem.W.dataLt_all_yes (by simp [PySem.W.alike]) (by simp [PyData.eqv])]
      simp [PyProof.Rows.lexLt, PySem.W.keyToksAll]
      decide
    · rw [PySem.W.dataLt_all_no (by simp [PySem.W.alike]) (by simp [PyData.eqv, h2]), PySem.W.dataLt_int]
      simp
  · rw [PySem.W.dataLt_all_no (by simp [PySem.W.alike]) (by simp [PyData.eqv, h1]), PySem.W.dataLt_int]
    simp [h1]
theorem le_pair (p q : Int × Int) : leD (pairD p) (pairD q) = lexLe p q := by
  unfold leD lexLe
  show (!PySem.W.dataLt (pairD q) (pairD p)) = _
  rw [lt_pair]
theorem alike_pair (p q : Int × Int) : PySem.W.alike (pairD p) (pairD q) = true := by simp [pairD, PySem.W.alike, PySem.W.alikeAll]
theorem srtOk_pairs (ps : List (Int × Int)) : srtOk (ps.map pairD) = true := by
  unfold srtOk
  rw [Bool.and_eq_true, Bool.or_eq_true]
  refine ⟨List.all_eq_true.mpr fun x hx => ?_, .inl (List.all_eq_true.mpr fun x hx => ?_)⟩
  · obtain ⟨p, _, rfl⟩ := List.mem_map.mp hx
    rw [Bool.and_eq_true, Bool.and_eq_true]
    refine ⟨⟨pl_shaped (pl_pair p) (by decide), ?_⟩, List.all_eq_true.mpr fun y hy => ?_⟩
    · have := (pl_lay (pl_pair p)).2
      exact decide_eq_true (by omega)
    · obtain ⟨q, _, rfl⟩ := List.mem_map.mp hy
      exact alike_pair p q
  · obtain ⟨p, _, rfl⟩ := List.mem_map.mp hx
    rfl
theorem pSrt_pairs (ps : List (Int × Int)) : pSrt [.list (ps.map pairD)] = some (.list ((srtQ ps).map pairD)) := by
  unfold pSrt
  simp only [srtOk_pairs, if_true]
  unfold srtD srtQ
  rw [List.map_mergeSort fun p _ q _ => (le_pair p q).symm]
theorem pSrt_pairsT (ps : List (Int × Int)) : pSrt [.tuple (ps.map pairD)] = some (.list ((srtQ ps).map pairD)) := by
  unfold pSrt
  simp only [srtOk_pairs, if_true]
  unfold srtD srtQ
  rw [List.map_mergeSort fun p _ q _ => (le_pair p q).symm]
theorem lexLe_iff {p q : Int × Int} : lexLe p q = true ↔ ¬ lexLt q p := by
  unfold lexLe
  rw [Bool.not_eq_true', decide_eq_false_iff_not]
theorem lexLe_trans (a b c : Int × Int) (h1 : lexLe a b = true) (h2 : lexLe b c = true) : lexLe a c = true := by
  rw [lexLe_iff] at *
  unfold lexLt at *
  omega
theorem lexLe_total (a b : Int × Int) : (lexLe a b || lexLe b a) = true := by
  rw [Bool.or_eq_true, lexLe_iff, lexLe_iff]
  unfold lexLt
  omega
theorem srtQ_perm (ps : List (Int × Int)) : (srtQ ps).Perm ps := List.mergeSort_perm _ _
theorem srtQ_pw {ps : List (Int × Int)} (h : ps.Nodup) : (srtQ ps).Pairwise lexLt := by
  have h1 := List.pairwise_mergeSort lexLe_trans lexLe_total ps
  have h2 : (srtQ ps).Nodup := (srtQ_perm ps).nodup_iff.mpr h
  refine (List.Pairwise.and h1 h2).imp fun {a b} hab => ?_
  obtain ⟨h3, h4⟩ := hab
  rw [lexLe_iff] at h3
  unfold lexLt at *
  have : a.1 ≠ b.1 ∨ a.2 ≠ b.2 := by
    by_cases e : a.1 = b.1
    · exact .inr fun e2 => h4 (Prod.ext e e2)
    · exact .inl e
  omega
theorem lex_asymm {p q : Int × Int} (h1 : lexLt p q) (h2 : lexLt q p) : False := by
  unfold lexLt at *
  omega
/-- two rows in rising order with the same pairs are one -/
theorem pw_ext {ps qs : List (Int × Int)} (h1 : ps.Pairwise lexLt) (h2 : qs.Pairwise lexLt) (h : ∀ p, p ∈ ps ↔ p ∈ qs) : ps = qs := by
  refine List.Perm.eq_of_pairwise (le := lexLt) (fun a b _ _ k1 k2 => (lex_asymm k1 k2).elim) h1 h2 ?_
  exact (List.perm_ext_iff_of_nodup (h1.imp fun h => lex_ne h) (h2.imp fun h => lex_ne h)).mpr h
theorem pw_nodup {ps : List (Int × Int)} (h : ps.Pairwise lexLt) : ps.Nodup := h.imp fun h => lex_ne h
/-! ### turned -/
def swp (p : Int × Int) : Int × Int := (p.2, p.1)
def trn (ps : List (Int × Int)) : List (Int × Int) := srtQ (ps.map swp)
theorem mem_trn {ps : List (Int × Int)} {p : Int × Int} : p ∈ trn ps ↔ swp p ∈ ps := by
  unfold trn
  rw [(srtQ_perm _).mem_iff, List.mem_map]
  constructor
  · rintro ⟨q, hq, rfl⟩
    exact hq
  · exact fun h => ⟨swp p, h, rfl⟩
theorem trn_ord {n : Int} {ps : List (Int × Int)} (h : IsOrd n ps) : IsOrd n (trn ps) := by
  refine ⟨h.lo, h.hi, srtQ_pw ?_, fun p hp => ?_⟩
  · have hn := pw_nodup h.pw
    unfold List.Nodup at *
    rw [List.pairwise_map]
    refine hn.imp fun {a b} hab e => hab ?_
    unfold swp at e
    simp at e
    exact Prod.ext e.2 e.1
  · have h1 := h.ok _ (mem_trn.mp hp)
    unfold swp at h1
    simp at h1
    refine ⟨h1.2.1, h1.1, fun e => h1.2.2 e.symm⟩
theorem trn_trn {n : Int} {ps : List (Int × Int)} (h : IsOrd n ps) : trn (trn ps) = ps :=
  pw_ext (trn_ord (trn_ord h)).pw h.pw fun p => by rw [mem_trn, mem_trn]; rfl
theorem turned_ok {n : Int} {ps : List (Int × Int)} (h : IsOrd n ps) : f_turned [ordD n ps] = .ok (ordD n (trn ps)) [] := by
  have h2 : (2 : Nat) ≤ sizeLine := by rw [sizeLine_eq]; omega
  simp [f_turned, evDef_eq, d_turned, Tb.G, t_turned, callW_0 (need_order_ok h)]
  simp [ordD]
  rw [lcR_map pairD (fun p => pairD (swp p)) ?_ rfl]
  · have hs := pSrt_pairs (ps.map swp)
    rw [List.map_map] at hs
    simp [h2, show (ps.map fun p => pairD (swp p)) = ps.map (pairD ∘ swp) from rfl, hs]
    rfl
  · intro p hp
    simp [lcB, tgE, pairD, swp, h2]
end Nv

set_option linter.all false
set_option maxRecDepth 100000
namespace Nv
open PySem
/-! ### bars -/
abbrev sTwo : Str := PySem.Str.ofString "two"
abbrev sThree : Str := PySem.Str.ofString "three"
def five (w : Str) (p q : Int × Int) : D := .tuple [.str w, .int p.1, .int p.2, .int q.1, .int q.2]
def twoB (ps : List (Int × Int)) (p q : Int × Int) : Bool := decide (p ∈ ps) && (decide (q ∈ ps) && (!decide ((p.1, q.2) ∈ ps) && !decide ((q.1, p.2) ∈ ps)))
def threeB (ps : List (Int × Int)) (p q : Int × Int) : Bool := decide (p ∈ ps) && (decide ((p.2, q.1) ∈ ps) && (!decide ((p.1, q.2) ∈ ps) && !decide ((q.2, q.1) ∈ ps)))
theorem five_le : (5 : Nat) ≤ sizeLine := by rw [sizeLine_eq]; omega
theorem two_le : (2 : Nat) ≤ sizeLine := by rw [sizeLine_eq]; omega
theorem inP (ps : List (Int × Int)) (a b : Int) : pIn [.tuple [.int a, .int b], .tuple (ps.map pairD)] = some (.bool (decide ((a, b) ∈ ps))) :=
  (pIn_pl (n := 1) (m := 1) (a := pairD (a, b)) rfl (pl_pairs ps) (by decide) (by decide) (by rw [mem_pairs, decide_eq_true_eq])).1
theorem ninP (ps : List (Int × Int)) (a b : Int) : pNin [.tuple [.int a, .int b], .tuple (ps.map pairD)] = some (.bool (!decide ((a, b) ∈ ps))) :=
  (pNin_pl (n := 1) (m := 1) (a := pairD (a, b)) rfl (pl_pairs ps) (by decide) (by decide) (by rw [mem_pairs, decide_eq_true_eq])).1
theorem eqTwo : pEq [.str sTwo, .str sTwo] = some (.bool true) := pEq_pl (n := 0) (m := 0) (by decide +kernel) (by decide +kernel) (by decide) (by decide) (by simp)
theorem eqThree : pEq [.str sThree, .str sTwo] = some (.bool false) := pEq_pl (n := 0) (m := 0) (by decide +kernel) (by decide +kernel) (by decide) (by decide) (by
  simp only [PyData.str.injEq, Bool.false_eq_true, false_iff]
  decide +kernel)
theorem bars_two (n : Int) (ps : List (Int × Int)) (p q : Int × Int) : f_bars [ordD n ps, five sTwo p q] = .ok (.bool (twoB ps p q)) [] := by
  simp [f_bars, evDef_eq, d_bars, ordD, five, tgL, eqTwo, inP, ninP, two_le]
  unfold twoB
  by_cases h1 : p ∈ ps <;> by_cases h2 : q ∈ ps <;> by_cases h3 : (p.1, q.2) ∈ ps <;> by_cases h4 : (q.1, p.2) ∈ ps <;> simp [h1, h2, h3, h4]
theorem bars_three (n : Int) (ps : List (Int × Int)) (p q : Int × Int) : f_bars [ordD n ps, five sThree p q] = .ok (.bool (threeB ps p q)) [] := by
  simp [f_bars, evDef_eq, d_bars, ordD, five, tgL, eqThree, inP, ninP, two_le]
  unfold threeB
  by_cases h1 : p ∈ ps <;> by_cases h2 : (p.2, q.1) ∈ ps <;> by_cases h3 : (p.1, q.2) ∈ ps <;> by_cases h4 : (q.2, q.1) ∈ ps <;> simp [h1, h2, h3, h4]
theorem foldl_app {α β : Type} (g : α → List β) : ∀ (xs : List α) (s : List β), xs.foldl (fun s x => s ++ g x) s = s ++ xs.flatMap g
  | [], s => by simp
  | x :: xs, s => by rw [List.foldl_cons, foldl_app g xs, List.flatMap_cons, List.append_assoc]
def twosOf (ps : List (Int × Int)) (p : Int × Int) : List D := (ps.filter (twoB ps p)).map (five sTwo p)
def threesOf (n : Int) (ps : List (Int × Int)) (p : Int × Int) (c : Int) : List D := ((upTo n).filter fun d => threeB ps p (c, d)).map fun d => five sThree p (c, d)
def threesIn (n : Int) (ps : List (Int × Int)) (p q : Int × Int) : List D := if q.1 = p.2 then threesOf n ps p q.2 else []
theorem upTo_len {n : Int} (h : n ≤ 8) : (upTo n).length ≤ 8 := by
  unfold upTo
  rw [List.length_map, List.length_range]
  omega
theorem twosOf_len (ps : List (Int × Int)) (p : Int × Int) : (twosOf ps p).length ≤ ps.length := by
  unfold twosOf
  rw [List.length_map]
  exact List.length_filter_le _ _
theorem threesIn_len {n : Int} (h : n ≤ 8) (ps : List (Int × Int)) (p q : Int × Int) : (threesIn n ps p q).length ≤ 8 := by
  unfold threesIn threesOf
  split
  · rw [List.length_map]
    exact Nat.le_trans (List.length_filter_le _ _) (upTo_len h)
  · exact Nat.zero_le _
theorem flat_len {α β : Type} {g : α → List β} {k : Nat} : ∀ {xs : List α}, (∀ x ∈ xs, (g x).length ≤ k) → (xs.flatMap g).length ≤ k * xs.length
  | [], _ => by simp
  | x :: xs, h => by
    rw [List.flatMap_cons, List.length_append, List.length_cons, Nat.mul_succ]
    have h1 := h x List.mem_cons_self
    have h2 := flat_len fun y hy => h y (List.mem_cons_of_mem x hy)
    omega
/-- a row of fives that starts with one word -/
theorem srt_fives {w : Str} (hw : PyData.strOk w = true) {ds : List D} (h : ∀ d ∈ ds, ∃ p q, d = five w p q) : pSrt [.list ds] = some (.list (srtD ds)) := by
  have hp : ∀ p q, plN 1 (five w p q) = true := fun p q => by
    simp [five, plN, hw]
  unfold pSrt
  have : srtOk ds = true := by
    unfold srtOk
    rw [Bool.and_eq_true, Bool.or_eq_true]
    refine ⟨List.all_eq_true.mpr fun x hx => ?_, .inl (List.all_eq_true.mpr fun x hx => ?_)⟩
    · obtain ⟨p, q, rfl⟩ := h x hx
      rw [Bool.and_eq_true, Bool.and_eq_true]
      refine ⟨⟨pl_shaped (hp p q) (by decide), ?_⟩, List.all_eq_true.mpr fun y hy => ?_⟩
      · have := (pl_lay (hp p q)).2
        exact decide_eq_true (by omega)
      · obtain ⟨p', q', rfl⟩ := h y hy
        simp [five, PySem.W.alike, PySem.W.alikeAll]
    · obtain ⟨p, q, rfl⟩ := h x hx
      rfl
  simp only [this, if_true]
theorem srtD_perm (ds : List D) : (srtD ds).Perm ds := List.mergeSort_perm _ _
def twosAll (ps : List (Int × Int)) : List D := ps.flatMap (twosOf ps)
def threesAll (n : Int) (ps : List (Int × Int)) : List D := ps.flatMap fun p => ps.flatMap fun q => threesIn n ps p q
def barsAll (n : Int) (ps : List (Int × Int)) : List D := srtD (twosAll ps) ++ srtD (threesAll n ps)
theorem ok2 : PyData.strOk sTwo = true := by decide +kernel
theorem ok3 : PyData.strOk sThree = true := by decide +kernel
theorem threesOf_ok (n : Int) (ps : List (Int × Int)) (p : Int × Int) (c : Int) (d : Int) : f_bars [ordD n ps, .tuple [.str sThree, .int p.1, .int p.2, .int c, .int d]] = .ok (.bool (threeB ps p (c, d))) [] := bars_three n ps p (c, d)
theorem twosOf_ok (n : Int) (ps : List (Int × Int)) (p q : Int × Int) : f_bars [ordD n ps, .tuple [.str sTwo, .int p.1, .int p.2, .int q.1, .int q.2]] = .ok (.bool (twoB ps p q)) [] := bars_two n ps p q
theorem all_bars_ok {n : Int} {ps : List (Int × Int)} (h : IsOrd n ps) : f_all_bars [ordD n ps] = .ok (.list (barsAll n ps)) [] := by
  have hlo := h.lo
  have hhi := h.hi
  have hlen := ord_len' h
  have hz := sizeLine_eq
  have h5 := five_le
  have h2 := two_le
  have c2 : ∀ q, callW f_bars [.tuple [.int n, .tuple (ps.map pairD)], q] [] = callW f_bars [ordD n ps, q] [] := fun q => rfl
  have t1 : (twosAll ps).length ≤ 64 * ps.length := flat_len fun p _ => Nat.le_trans (twosOf_len ps p) (by omega)
  have t2 : (threesAll n ps).length ≤ 512 * ps.length := flat_len fun p _ => Nat.le_trans (flat_len fun q _ => threesIn_len hhi ps p q) (by omega)
  have s1 : pSrt [.list (twosAll ps)] = some (.list (srtD (twosAll ps))) := srt_fives ok2 fun d hd => by
    obtain ⟨p, _, hp⟩ := List.mem_flatMap.mp hd
    obtain ⟨q, _, rfl⟩ := List.mem_map.mp hp
    exact ⟨p, q, rfl⟩
  have s2 : pSrt [.list (threesAll n ps)] = some (.list (srtD (threesAll n ps))) := srt_fives ok3 fun d hd => by
    obtain ⟨p, _, hp⟩ := List.mem_flatMap.mp hd
    obtain ⟨q, _, hq⟩ := List.mem_flatMap.mp hp
    unfold threesIn at hq
    split at hq
    · obtain ⟨d', _, rfl⟩ := List.mem_map.mp hq
      exact ⟨p, _, rfl⟩
    · cases hq
  simp [f_all_bars, evDef_eq, d_all_bars, ordD]
  rw [forL_rw pairD (fun s : List D => [.im (.tuple [.int n, .tuple (ps.map pairD)]), .mu (.list s), .no, .no, .no, .no, .no, .no]) (fun s p => s ++ twosOf ps p) (fun i s => s.length ≤ 64 * i) [] (by simp) ?_]
  · rw [foldl_app, List.nil_append]
    simp [show ps.flatMap (twosOf ps) = twosAll ps from rfl, s1]
    rw [forL_rw pairD (fun s : List D => [.im (.tuple [.int n, .tuple (ps.map pairD)]), .mu (.list (srtD (twosAll ps))), .mu (.list s), .no, .no, .no, .no, .no]) (fun s p => s ++ ps.flatMap fun q => threesIn n ps p q) (fun i s => s.length ≤ 512 * i) [] (by simp) ?_]
    · rw [foldl_app, List.nil_append]
      have hs : (srtD (twosAll ps)).length + (srtD (threesAll n ps)).length ≤ sizeLine := by
        rw [(srtD_perm _).length_eq, (srtD_perm _).length_eq]
        omega
      simp [show (ps.flatMap fun p => ps.flatMap fun q => threesIn n ps p q) = threesAll n ps from rfl, s2, pAdd_list hs]
      rfl
    · intro j p hp s hs
      have hj : j < ps.length := (List.getElem?_eq_some_iff.mp hp).1
      simp [bodyR, tgE, pairD]
      rw [forL_rw pairD (fun s' : List D => [.im (.tuple [.int n, .tuple (ps.map pairD)]), .mu (.list (srtD (twosAll ps))), .mu (.list s'), .im (.int p.1), .im (.int p.2), .no, .no, .no]) (fun s' q => s' ++ threesIn n ps p q) (fun i s' => s'.length ≤ s.length + 8 * i) s (by simp) ?_]
      · rw [foldl_app]
        have := flat_len (xs := ps) fun q _ => threesIn_len hhi ps p q
        have h9 : (s ++ ps.flatMap (threesIn n ps p)).length ≤ 512 * (j + 1) := by
          rw [List.length_append]
          omega
        simp at h9 ⊢
        exact h9
      · intro k q hq s' hs'
        have hk : k < ps.length := (List.getElem?_eq_some_iff.mp hq).1
        have hl := threesIn_len hhi ps p q
        have hs2 : s'.length + (threesIn n ps p q).length ≤ sizeLine := by omega
        simp [bodyR, tgE, pairD]
        by_cases e : q.1 = p.2
        · simp [e, rng_upTo (show n ≤ 1000000 by omega) (by omega)]
          rw [lcR_filter PyData.int (fun d => threeB ps p (q.2, d)) (fun d => five sThree p (q.2, d)) ?_ rfl]
          · have e2 : ((upTo n).filter fun d => threeB ps p (q.2, d)).map (fun d => five sThree p (q.2, d)) = threesIn n ps p q := by
              unfold threesIn
              rw [if_pos e]
              rfl
            simp [e2, hs2]
            omega
          · intro d hd
            simp [lcB, tgE, h5, Tb.G, t_all_bars, c2, callW_0 (threesOf_ok n ps p q.2 d)]
            by_cases e : threeB ps p (q.2, d) = true <;> simp [e, h5, five]
        · have e2 : threesIn n ps p q = [] := by
            unfold threesIn
            rw [if_neg e]
          simp [e, e2]
          omega
  · intro j p hp s hs
    have hj : j < ps.length := (List.getElem?_eq_some_iff.mp hp).1
    have hl := twosOf_len ps p
    have hs' : s.length + (twosOf ps p).length ≤ sizeLine := by omega
    simp [bodyR, tgE, pairD]
    rw [lcR_filter pairD (twoB ps p) (five sTwo p) ?_ rfl]
    · simp [show ((ps.filter (twoB ps p)).map (five sTwo p)) = twosOf ps p from rfl, hs']
      omega
    · intro q hq
      simp [lcB, tgE, pairD, h5, Tb.G, t_all_bars, c2, callW_0 (twosOf_ok n ps p q)]
      by_cases e : twoB ps p q = true <;> simp [e, h5, five]
theorem bar_ok {n : Int} {ps : List (Int × Int)} (h : IsOrd n ps) : f_bar [ordD n ps] = .ok ((barsAll n ps ++ [PyData.none]).headD PyData.none) [] := by
  have hlen := ord_len' h
  have hz := sizeLine_eq
  have t1 : (twosAll ps).length ≤ 64 * ps.length := flat_len fun p _ => Nat.le_trans (twosOf_len ps p) (by omega)
  have t2 : (threesAll n ps).length ≤ 512 * ps.length := flat_len fun p _ => Nat.le_trans (flat_len fun q _ => threesIn_len h.hi ps p q) (by omega)
  have hs : (barsAll n ps).length + [PyData.none].length ≤ sizeLine := by
    unfold barsAll
    rw [List.length_append, (srtD_perm _).length_eq, (srtD_perm _).length_eq]
    simp
    omega
  have h1 : (1 : Nat) ≤ sizeLine := by omega
  have hi : L2.atI (barsAll n ps ++ [.none]) 0 = some ((barsAll n ps ++ [PyData.none]).headD PyData.none) := by
    cases e : barsAll n ps with
    | nil => simp
    | cons x xs => simp
  simp [f_bar, evDef_eq, d_bar, Tb.G, t_bar, callW_0 (need_order_ok h), callW_0 (all_bars_ok h), h1, pAdd_list hs, hi]
/-- nothing bars -/
def NoBar (n : Int) (ps : List (Int × Int)) : Prop := (∀ p ∈ ps, ∀ q ∈ ps, twoB ps p q = false) ∧ ∀ p ∈ ps, ∀ q ∈ ps, q.1 = p.2 → ∀ d, 0 ≤ d → d < n → threeB ps p (q.2, d) = false
theorem barsAll_nil {n : Int} {ps : List (Int × Int)} : barsAll n ps = [] ↔ NoBar n ps := by
  unfold barsAll NoBar
  rw [List.append_eq_nil_iff, ← List.length_eq_zero_iff, ← List.length_eq_zero_iff, (srtD_perm _).length_eq, (srtD_perm _).length_eq, List.length_eq_zero_iff, List.length_eq_zero_iff]
  unfold twosAll threesAll twosOf threesIn threesOf
  simp only [List.flatMap_eq_nil_iff, List.map_eq_nil_iff, List.filter_eq_nil_iff, Bool.not_eq_true]
  constructor
  · rintro ⟨h1, h2⟩
    refine ⟨h1, fun p hp q hq e d d0 d1 => ?_⟩
    have := h2 p hp q hq
    rw [if_pos e] at this
    simp only [List.map_eq_nil_iff, List.filter_eq_nil_iff, Bool.not_eq_true] at this
    exact this d (mem_upTo.mpr ⟨d0, d1⟩)
  · rintro ⟨h1, h2⟩
    refine ⟨h1, fun p hp q hq => ?_⟩
    split
    · rename_i e
      simp only [List.map_eq_nil_iff, List.filter_eq_nil_iff, Bool.not_eq_true]
      exact fun d hd => h2 p hp q hq e d (mem_upTo.mp hd).1 (mem_upTo.mp hd).2
    · rfl
theorem barsAll_some {n : Int} {ps : List (Int × Int)} : isNone ((barsAll n ps ++ [PyData.none]).headD PyData.none) = decide (barsAll n ps = []) := by
  have key : ∀ d ∈ barsAll n ps, isNone d = false := by
    intro d hd
    unfold barsAll at hd
    rw [List.mem_append, (srtD_perm _).mem_iff, (srtD_perm _).mem_iff] at hd
    rcases hd with hd | hd
    · obtain ⟨p, _, hp⟩ := List.mem_flatMap.mp hd
      obtain ⟨q, _, rfl⟩ := List.mem_map.mp hp
      rfl
    · obtain ⟨p, _, hp⟩ := List.mem_flatMap.mp hd
      obtain ⟨q, _, hq⟩ := List.mem_flatMap.mp hp
      unfold threesIn at hq
      split at hq
      · obtain ⟨d', _, rfl⟩ := List.mem_map.mp hq
        rfl
      · cases hq
  cases e : barsAll n ps with
  | nil => simp
  | cons x xs =>
    have := key x (by rw [e]; exact List.mem_cons_self)
    simp [this]
end Nv

set_option linter.all false
set_option maxRecDepth 100000
namespace Nv
open PySem
/-! ### the law's draws -/
def town (t : Nat) : D := .list (List.replicate t (.int 0))
def cellV (ns : List Int) (k : Nat) : Int := if k < ns.length then ns.getD k 0 else if ns = [] then 0 else ns.getD (k % ns.length) 0 * 31 + k
theorem prim_lenS (ns : List Int) : prim .len [scr ns] = some (.int ns.length) := by
  show some (PyData.int ((ns.map PyData.int).length : Int)) = _
  rw [List.length_map]
theorem prim_idxS (ns : List Int) (i : Int) : prim .idx [scr ns, .int i] = L2.atI (ns.map PyData.int) i := rfl
theorem pEqS (ns : List Int) : pEq [scr ns, .list []] = some (.bool (decide (ns = []))) := by
  show some (PyData.bool (ns.map PyData.int).isEmpty) = _
  cases ns <;> rfl
theorem atI_ints {ns : List Int} {k : Nat} (h : k < ns.length) : L2.atI (ns.map PyData.int) (k : Int) = some (.int (ns.getD k 0)) := by
  refine atI_nat ?_
  rw [List.getElem?_map, List.getElem?_eq_getElem h, List.getD_eq_getElem?_getD, List.getElem?_eq_getElem h]
  rfl
theorem cell_ok (ns : List Int) (k : Nat) : f_law_cell_at [scr ns, .int k] = .ok (.int (cellV ns k)) [] := by
  unfold cellV
  by_cases h : k < ns.length
  · simp [f_law_cell_at, evDef_eq, d_law_cell_at, prim_lenS, prim_idxS, pEqS, h, atI_ints h]
  · by_cases h2 : ns = []
    · subst h2
      simp [f_law_cell_at, evDef_eq, d_law_cell_at, prim_lenS, prim_idxS, pEqS, show ¬ ((k : Int) < 0) by omega]
    · have hl : 0 < ns.length := List.length_pos_iff.mpr h2
      have h3 : pMod [.int k, .int ns.length] = some (.int ((k % ns.length : Nat) : Int)) := by
        rw [pMod_int (by omega)]
        rfl
      have hm : k % ns.length < ns.length := Nat.mod_lt _ hl
      have h4 : ∀ x : Int, pMul [.int x, .int 31] = some (.int (x * 31)) := fun x => pMul_int (by omega)
      have h5 := atI_ints hm
      simp at h5
      simp only [f_law_cell_at, evDef_eq, d_law_cell_at]
      simp [prim_lenS, prim_idxS, pEqS, h, h2, h3, h5, h4]
def mixV (ns : List Int) (k : Nat) (m : Int) : Int := ((cellV ns k * 1103515245 + 7919 * k + 12345) % 2147483647) ^ 5 % 2147483647 % 999983 % m
theorem mix_ok (ns : List Int) (k : Nat) {m : Int} (h : 0 < m) : f_law_mixed [scr ns, .int k, .int m] = .ok (.int (mixV ns k m)) [] := by
  have h1 : ∀ x : Int, pMul [.int x, .int 1103515245] = some (.int (x * 1103515245)) := fun x => pMul_int (by omega)
  have h2 : pMul [.int 7919, .int k] = some (.int (7919 * k)) := pMul_int (by omega)
  have h3 : ∀ x : Int, pMod [.int x, .int 2147483647] = some (.int (x % 2147483647)) := fun x => pMod_int (by omega)
  have h4 : ∀ x : Int, pMod [.int x, .int 999983] = some (.int (x % 999983)) := fun x => pMod_int (by omega)
  have h5 : ∀ x : Int, pMod [.int x, .int m] = some (.int (x % m)) := fun x => pMod_int h
  have h6 : ∀ x : Int, pPow [.int (x % 2147483647), .int 5] = some (.int ((x % 2147483647) ^ 5)) := fun x => if_pos ⟨by decide, by decide, by omega⟩
  simp only [f_law_mixed, evDef_eq, d_law_mixed]
  simp [Tb.G, t_law_mixed, callW_0 (cell_ok ns k), h1, h2, h3, h4, h5, h6, mixV]
theorem mix_rng (ns : List Int) (k : Nat) {m : Int} (h : 0 < m) : 0 ≤ mixV ns k m ∧ mixV ns k m < m := ⟨Int.emod_nonneg _ (by omega), Int.emod_lt_of_pos _ h⟩
/-- the t-th draw -/
def drw (ns : List Int) (t : Nat) (m : Int) : Int := mixV ns (t + 1) m
theorem drw_rng (ns : List Int) (t : Nat) {m : Int} (h : 0 < m) : 0 ≤ drw ns t m ∧ drw ns t m < m := mix_rng _ _ h
theorem draw_ok (ns : List Int) {t : Nat} {m : Int} (ht : t < 1000000) (h : 0 < m) : f_law_draw [scr ns, town t, .int m] = .ok (.int (drw ns t m)) [town (t + 1)] := by
  have hz : t < sizeLine := by rw [sizeLine_eq]; omega
  have e : List.replicate t (PyData.int 0) ++ [PyData.int 0] = List.replicate (t + 1) (PyData.int 0) := by rw [List.replicate_succ']
  have hm := mix_ok ns (t + 1) h
  simp only [f_law_draw, evDef_eq, d_law_draw]
  simp [Tb.G, t_law_draw, town, hz, e, callW_0 hm, drw]
  simp [callW_0 (show f_law_mixed [scr ns, .int ((t : Int) + 1), .int m] = _ from hm)]
theorem pick_ok (ns : List Int) {t : Nat} {xs : List D} (ht : t < 1000000) (h : xs ≠ []) : f_law_pick [scr ns, town t, .list xs] = .ok (xs.getD (drw ns t xs.length).toNat .none) [town (t + 1)] := by
  have hl : 0 < xs.length := List.length_pos_iff.mpr h
  have hr := drw_rng ns t (m := xs.length) (by omega)
  have hi : L2.atI xs (drw ns t xs.length) = some (xs.getD (drw ns t xs.length).toNat .none) := by
    have : (drw ns t xs.length).toNat < xs.length := by omega
    have e : drw ns t xs.length = ((drw ns t xs.length).toNat : Int) := by omega
    rw [e]
    refine atI_nat ?_
    rw [List.getD_eq_getElem?_getD, Int.toNat_natCast, List.getElem?_eq_getElem this]
    rfl
  simp only [f_law_pick, evDef_eq, d_law_pick]
  simp [Tb.G, t_law_pick, town]
  simp [show PyData.list (List.replicate t (PyData.int 0)) = town t from rfl, callW_1 (draw_ok ns (m := (xs.length : Int)) ht (by omega)), hi]
  rfl
end Nv

set_option linter.all false
set_option maxRecDepth 100000
namespace Nv
open PySem
theorem forL_rwE {G : Gam} {tg : List Nat} {one : Bool} {kill : List Nat} {body : List S} {α σ : Type} (f : α → D) (E : σ → En) (step : σ → α → σ) (I : Nat → σ → Prop) {xs : List α} {env : En} (s : σ) (h0 : I 0 s) (he : env = E s)
    (h : ∀ j x, xs[j]? = some x → ∀ s, I j s → nxIs (bodyR G tg one body (f x) (E s)) fun e => killE e kill = E (step s x) ∧ I (j + 1) (step s x)) :
    forL G tg one kill body (xs.map f) env = .nx (E (xs.foldl step s)) := by
  rw [he]
  exact forL_rw f E step I s h0 h
/-- what a row of turns with a state gives -/
def outsL {α β σ : Type} (step : σ → α → σ) (val : σ → α → β) : σ → List α → List β
  | _, [] => []
  | s, x :: xs => val s x :: outsL step val (step s x) xs
theorem outsL_len {α β σ : Type} {step : σ → α → σ} {val : σ → α → β} : ∀ {s : σ} {xs : List α}, (outsL step val s xs).length = xs.length
  | _, [] => rfl
  | s, x :: xs => by simp [outsL, outsL_len]
theorem compR_state {body : D → En → R (Option D)} {α β σ : Type} (f : α → D) (E : σ → En) (step : σ → α → σ) (val : σ → α → β) (g : β → D) (I : Nat → σ → Prop) :
    ∀ {xs : List α} {acc : List D} (i : Nat) (s : σ), I i s → (∀ j x, xs[j]? = some x → ∀ s, I (i + j) s → body (f x) (E s) = .ok (some (g (val s x))) (E (step s x)) ∧ I (i + j + 1) (step s x)) →
      compR body (xs.map f) acc (E s) = .ok (acc ++ (outsL step val s xs).map g) (E (xs.foldl step s))
  | [], acc, i, s, _, _ => by simp [compR, outsL]
  | x :: xs, acc, i, s, hI, h => by
    obtain ⟨h1, h2⟩ := h 0 x rfl s hI
    simp only [List.map_cons, compR, h1, R.bind_ok, List.foldl_cons, outsL]
    rw [compR_state f E step val g I (i + 1) (step s x) h2 fun j y hy s hs => by
      have := h (j + 1) y (by simpa using hy) s (by rwa [show i + (j + 1) = i + 1 + j by omega])
      rwa [show i + (j + 1) + 1 = i + 1 + j + 1 by omega] at this]
    simp
theorem lcR_state {G : Gam} {elt : E} {tg : List Nat} {one : Bool} {cond : Option E} {env : En} {α β σ : Type} (f : α → D) (E : σ → En) (step : σ → α → σ) (val : σ → α → β) (g : β → D) (I : Nat → σ → Prop) {xs : List α} (s : σ) (h0 : I 0 s) (he : killE env tg = E s)
    (h : ∀ j x, xs[j]? = some x → ∀ s, I j s → lcB G elt tg one cond (f x) (E s) = .ok (some (g (val s x))) (E (step s x)) ∧ I (j + 1) (step s x)) :
    lcR G elt tg one cond (xs.map f) env = .ok (.list ((outsL step val s xs).map g)) (backE tg env (E (xs.foldl step s))) := by
  unfold lcR
  rw [he, compR_state f E step val g I 0 s h0 fun j x hx s hs => by rw [Nat.zero_add] at hs ⊢; exact h j x hx s hs]
  simp
theorem foldl_cnt {α : Type} : ∀ (xs : List α) (t : Nat), xs.foldl (fun t _ => t + 1) t = t + xs.length
  | [], t => rfl
  | x :: xs, t => by rw [List.foldl_cons, foldl_cnt xs, List.length_cons]; omega
theorem upTo_lenI {n : Int} (h : 0 ≤ n) : ((upTo n).length : Int) = n := by
  unfold upTo
  rw [List.length_map, List.length_range]
  omega
theorem upTo_pw (n : Int) : (upTo n).Pairwise (· < ·) := by
  unfold upTo
  rw [List.pairwise_map]
  exact List.pairwise_lt_range.imp fun {a b} h => by show (a : Int) < b; omega
theorem atI_ints' {ns : List Int} {i : Int} (h0 : 0 ≤ i) (h : i < ns.length) : L2.atI (ns.map PyData.int) i = some (.int (ns.getD i.toNat 0)) := by
  have e : i = ((i.toNat : Nat) : Int) := by omega
  have := atI_ints (ns := ns) (k := i.toNat) (by omega)
  rwa [← e] at this
def freeRow (line : List Int) (n st i : Int) : List (Int × Int) := ((upTo n).filter fun j => decide (line.getD j.toNat 0 - line.getD i.toNat 0 ≥ st)).map fun j => (i, j)
def freeAll (line : List Int) (n st : Int) : List (Int × Int) := (upTo n).flatMap (freeRow line n st)
theorem mem_free {line : List Int} {n st : Int} {p : Int × Int} : p ∈ freeAll line n st ↔ (0 ≤ p.1 ∧ p.1 < n) ∧ (0 ≤ p.2 ∧ p.2 < n) ∧ line.getD p.2.toNat 0 - line.getD p.1.toNat 0 ≥ st := by
  unfold freeAll freeRow
  simp only [List.mem_flatMap, List.mem_map, List.mem_filter, mem_upTo, decide_eq_true_eq]
  constructor
  · rintro ⟨i, hi, j, ⟨hj, h⟩, rfl⟩
    exact ⟨hi, hj, h⟩
  · rintro ⟨h1, h2, h3⟩
    exact ⟨p.1, h1, p.2, ⟨h2, h3⟩, rfl⟩
theorem row_pw {n : Int} (F : Int → Int → Bool) : ((upTo n).flatMap fun i => ((upTo n).filter (F i)).map fun j => (i, j)).Pairwise lexLt := by
  have key : ∀ l : List Int, l.Pairwise (· < ·) → (l.flatMap fun i => ((upTo n).filter (F i)).map fun j => (i, j)).Pairwise lexLt := by
    intro l
    induction l with
    | nil => intro _; exact List.Pairwise.nil
    | cons x xs ih =>
      intro h
      rw [List.pairwise_cons] at h
      rw [List.flatMap_cons, List.pairwise_append]
      refine ⟨?_, ih h.2, fun a ha b hb => ?_⟩
      · rw [List.pairwise_map]
        exact ((upTo_pw n).filter _).imp fun {a b} hab => .inr ⟨rfl, hab⟩
      · obtain ⟨j, _, rfl⟩ := List.mem_map.mp ha
        obtain ⟨i, hi, hb⟩ := List.mem_flatMap.mp hb
        obtain ⟨k, _, rfl⟩ := List.mem_map.mp hb
        exact .inl (h.1 i hi)
  exact key _ (upTo_pw n)
theorem free_pw (line : List Int) (n st : Int) : (freeAll line n st).Pairwise lexLt := row_pw fun i j => decide (line.getD j.toNat 0 - line.getD i.toNat 0 ≥ st)
theorem free_ord {line : List Int} {n st : Int} (h1 : 1 ≤ n) (h8 : n ≤ 8) (hs : 1 ≤ st) : IsOrd n (freeAll line n st) :=
  ⟨h1, h8, free_pw _ _ _, fun p hp => by
    have h := mem_free.mp hp
    refine ⟨h.1, h.2.1, fun e => ?_⟩
    have h3 := h.2.2
    rw [e] at h3
    omega⟩
theorem srtQ_id {ps : List (Int × Int)} (h : ps.Pairwise lexLt) : srtQ ps = ps := List.mergeSort_of_pairwise (h.imp fun {a b} hab => lexLe_iff.mpr fun z => lex_asymm hab z)
def widths : List Int := [3, 6, 9, 14, 20]
theorem free_noBar {line : List Int} {n st : Int} : NoBar n (freeAll line n st) := by
  refine ⟨fun p hp q hq => ?_, fun p hp q hq e d d0 d1 => ?_⟩
  · have k1 := mem_free.mp hp
    have k2 := mem_free.mp hq
    rw [Bool.eq_false_iff]
    intro z
    simp only [twoB, Bool.and_eq_true, Bool.not_eq_true', decide_eq_true_eq, decide_eq_false_iff_not] at z
    obtain ⟨_, _, z3, z4⟩ := z
    by_cases c : line.getD q.2.toNat 0 - line.getD p.1.toNat 0 ≥ st
    · exact z3 (mem_free.mpr ⟨k1.1, k2.2.1, c⟩)
    · exact z4 (mem_free.mpr ⟨k2.1, k1.2.1, by simp only at *; omega⟩)
  · have k1 := mem_free.mp hp
    have k2 := mem_free.mp hq
    rw [e] at k2
    rw [Bool.eq_false_iff]
    intro z
    simp only [threeB, Bool.and_eq_true, Bool.not_eq_true', decide_eq_true_eq, decide_eq_false_iff_not] at z
    obtain ⟨_, _, z3, z4⟩ := z
    by_cases c : line.getD d.toNat 0 - line.getD p.1.toNat 0 ≥ st
    · exact z3 (mem_free.mpr ⟨k1.1, ⟨d0, d1⟩, c⟩)
    · exact z4 (mem_free.mpr ⟨⟨d0, d1⟩, k2.2.1, by simp only at *; omega⟩)
theorem free_ok2 (ns : List Int) {t : Nat} {lo mo : Int} (ht : t < 900000) (h1 : 1 ≤ lo) (h2 : lo ≤ mo) (h3 : mo ≤ 8) : ∃ n ps t', f_law_free [scr ns, town t, .int lo, .int mo] = .ok (ordD n ps) [town t'] ∧ IsOrd n ps ∧ lo ≤ n ∧ n ≤ mo ∧ t' ≤ t + 11 ∧ NoBar n ps := by
  have hz := sizeLine_eq
  have hw : (5 : Nat) ≤ sizeLine := five_le
  have h2z := two_le
  have e1 := draw_ok ns (t := t) (m := 5) (by omega) (by omega)
  have e2 := pick_ok ns (t := t + 1) (xs := widths.map PyData.int) (by omega) (by decide)
  have e3 := draw_ok ns (t := t + 2) (m := mo - lo + 1) (by omega) (by omega)
  have r1 := drw_rng ns t (m := 5) (by omega)
  have r3 := drw_rng ns (t + 2) (m := mo - lo + 1) (by omega)
  obtain ⟨wd, hwd, hwd1⟩ : ∃ wd : Int, (widths.map PyData.int).getD (drw ns (t + 1) (widths.map PyData.int).length).toNat .none = .int wd ∧ 1 ≤ wd := by
    have r2 := drw_rng ns (t + 1) (m := 5) (by omega)
    have e : ((widths.map PyData.int).length : Int) = 5 := rfl
    rw [e]
    have : (drw ns (t + 1) 5).toNat < 5 := by omega
    match h : (drw ns (t + 1) 5).toNat, this with
    | 0, _ => exact ⟨3, rfl, by decide⟩
    | 1, _ => exact ⟨6, rfl, by decide⟩
    | 2, _ => exact ⟨9, rfl, by decide⟩
    | 3, _ => exact ⟨14, rfl, by decide⟩
    | 4, _ => exact ⟨20, rfl, by decide⟩
  rw [hwd] at e2
  have e2' : f_law_pick [scr ns, town (t + 1), .list [.int 3, .int 6, .int 9, .int 14, .int 20]] = .ok (.int wd) [town (t + 1 + 1)] := e2
  generalize hn : lo + drw ns (t + 2) (mo - lo + 1) = n at *
  generalize hst : 1 + drw ns t 5 = st at *
  have hn1 : 1 ≤ n := by omega
  have hn8 : n ≤ 8 := by omega
  have tw : ∀ t, PyData.list (List.replicate t (PyData.int 0)) = town t := fun _ => rfl
  refine ⟨n, freeAll (outsL (fun t (_ : Int) => t + 1) (fun t _ => drw ns t wd) (t + 3) (upTo n)) n st, t + 3 + (upTo n).length, ?_, free_ord hn1 hn8 (by omega), by omega, by omega, by have := upTo_len hn8; omega, free_noBar⟩
  simp only [f_law_free, evDef_eq, d_law_free]
  simp [Tb.G, t_law_free, callW_1 e1, callW_1 e2', hw, callW_1 e3, hst, hn, rng_upTo (show n ≤ 1000000 by omega) (by omega)]
  generalize hline : outsL (fun t (_ : Int) => t + 1) (fun t _ => drw ns t wd) (t + 3) (upTo n) = line
  have hll : (line.length : Int) = n := by rw [← hline, outsL_len, upTo_lenI (by omega)]
  rw [lcR_state PyData.int (fun t => [.im (scr ns), .mu (town t), .im (.int lo), .im (.int mo), .im (.int st), .im (.int wd), .im (.int n), .no, .no, .no, .no, .no]) (fun t _ => t + 1) (fun t _ => drw ns t wd) PyData.int (fun j u => u = t + 3 + j) (t + 3) rfl rfl ?_, hline, foldl_cnt]
  · simp [rng_upTo (show n ≤ 1000000 by omega) (by omega)]
    rw [forL_rwE PyData.int (fun s : List (Int × Int) => [.im (scr ns), .mu (town (t + 3 + (upTo n).length)), .im (.int lo), .im (.int mo), .im (.int st), .im (.int wd), .im (.int n), .im (.list (line.map PyData.int)), .mu (.list (s.map pairD)), .no, .no, .no]) (fun s i => s ++ freeRow line n st i) (fun i s => s.length ≤ 8 * i) [] (by simp) ?_ ?_]
    · rw [foldl_app, List.nil_append]
      have hs := pSrt_pairs (freeAll line n st)
      rw [srtQ_id (free_pw _ _ _)] at hs
      simp [show (upTo n).flatMap (freeRow line n st) = freeAll line n st from rfl, hs, h2z, ordD]
    · rfl
    · intro j i hi s hs
      have him : i ∈ upTo n := List.mem_of_getElem? hi
      have hj : j < (upTo n).length := (List.getElem?_eq_some_iff.mp hi).1
      have hul := upTo_len hn8
      have hfl : (freeRow line n st i).length ≤ 8 := by
        unfold freeRow
        rw [List.length_map]
        exact Nat.le_trans (List.length_filter_le _ _) hul
      rw [mem_upTo] at him
      simp [bodyR, tgE, rng_upTo (show n ≤ 1000000 by omega) (by omega)]
      rw [lcR_filter PyData.int (fun j => decide (line.getD j.toNat 0 - line.getD i.toNat 0 ≥ st)) (fun j => pairD (i, j)) ?_ rfl]
      · have e : ((upTo n).filter fun j => decide (line.getD j.toNat 0 - line.getD i.toNat 0 ≥ st)).map (fun j => pairD (i, j)) = (freeRow line n st i).map pairD := by
          unfold freeRow
          rw [List.map_map]
          rfl
        have hsz : s.length + (freeRow line n st i).length ≤ sizeLine := by omega
        rw [e]
        simp [hsz]
        omega
      · intro k hk
        rw [mem_upTo] at hk
        have a1 := atI_ints' (ns := line) (i := k) (by omega) (by omega)
        have a2 := atI_ints' (ns := line) (i := i) (by omega) (by omega)
        simp [lcB, tgE, a1, a2, h2z, pairD]
        by_cases e : st ≤ line[k.toNat]?.getD 0 - line[i.toNat]?.getD 0
        · simp [e, h2z]
        · simp [e, h2z]
  · intro j x hx u hu
    have hj : j < (upTo n).length := (List.getElem?_eq_some_iff.mp hx).1
    have hul := upTo_len hn8
    subst hu
    have e4 := draw_ok ns (t := t + 3 + j) (m := wd) (by omega) (by omega)
    simp [lcB, tgE, callW_1 e4]
    omega
theorem free_ok (ns : List Int) {t : Nat} {lo mo : Int} (ht : t < 900000) (h1 : 1 ≤ lo) (h2 : lo ≤ mo) (h3 : mo ≤ 8) : ∃ n ps t', f_law_free [scr ns, town t, .int lo, .int mo] = .ok (ordD n ps) [town t'] ∧ IsOrd n ps ∧ lo ≤ n ∧ n ≤ mo ∧ t' ≤ t + 11 := by
  obtain ⟨n, ps, t', e, h, a, b, c, _⟩ := free_ok2 ns ht h1 h2 h3
  exact ⟨n, ps, t', e, h, a, b, c⟩
end Nv

set_option linter.all false
set_option maxRecDepth 100000
namespace Nv
open PySem
theorem neP (p : Int × Int) (a b : Int) : pNe [pairD p, .tuple [.int a, .int b]] = some (.bool (!decide (p = (a, b)))) :=
  pNe_pl (n := 1) (m := 1) (b := pairD (a, b)) rfl rfl (by decide) (by decide) (by rw [decide_eq_true_eq]; exact pairD_inj.symm)
def Val (n : Int) (ps : List (Int × Int)) : Prop := ∀ p ∈ ps, (0 ≤ p.1 ∧ p.1 < n) ∧ (0 ≤ p.2 ∧ p.2 < n) ∧ p.1 ≠ p.2
def dropP (p : Int × Int) (ps : List (Int × Int)) : List (Int × Int) := ps.filter fun q => !decide (q = p)
/-- a spoilt order -/
def spoil1 (a b w : Int) (ps : List (Int × Int)) : List (Int × Int) := if 0 < w then dropP (a, b) ps ++ [(a, b)] else dropP (a, b) ps
def spoil (a b w : Int) (ps : List (Int × Int)) : List (Int × Int) := if w = 1 then dropP (b, a) (spoil1 a b w ps) else spoil1 a b w ps
theorem dropP_nodup {p : Int × Int} {ps : List (Int × Int)} (h : ps.Nodup) : (dropP p ps).Nodup := h.filter _
theorem mem_dropP {p q : Int × Int} {ps : List (Int × Int)} : q ∈ dropP p ps ↔ q ∈ ps ∧ q ≠ p := by
  unfold dropP
  rw [List.mem_filter]
  simp
theorem dropP_val {n : Int} {p : Int × Int} {ps : List (Int × Int)} (h : Val n ps) : Val n (dropP p ps) := fun q hq => h q (mem_dropP.mp hq).1
theorem dropP_len (p : Int × Int) (ps : List (Int × Int)) : (dropP p ps).length ≤ ps.length := List.length_filter_le _ _
theorem spoil_ok {n a b w : Int} {ps : List (Int × Int)} (h : ps.Nodup) (v : Val n ps) (ha : 0 ≤ a ∧ a < n) (hb : 0 ≤ b ∧ b < n) (hab : a ≠ b) : (spoil a b w ps).Nodup ∧ Val n (spoil a b w ps) ∧ (spoil a b w ps).length ≤ ps.length + 1 := by
  have h1 : (spoil1 a b w ps).Nodup ∧ Val n (spoil1 a b w ps) ∧ (spoil1 a b w ps).length ≤ ps.length + 1 := by
    unfold spoil1
    have hl := dropP_len (a, b) ps
    split
    · refine ⟨List.nodup_append.mpr ⟨dropP_nodup h, by simp, fun x hx y hy e => ?_⟩, fun q hq => ?_, by rw [List.length_append]; simp; omega⟩
      · simp at hy
        rw [e, hy] at hx
        exact (mem_dropP.mp hx).2 rfl
      · rw [List.mem_append] at hq
        rcases hq with hq | hq
        · exact dropP_val v q hq
        · simp at hq
          subst hq
          exact ⟨ha, hb, hab⟩
    · exact ⟨dropP_nodup h, dropP_val v, by omega⟩
  unfold spoil
  split
  · exact ⟨dropP_nodup h1.1, dropP_val h1.2.1, Nat.le_trans (dropP_len _ _) h1.2.2⟩
  · exact h1
theorem other_ok {n a d : Int} (hn : 1 < n) (ha : 0 ≤ a ∧ a < n) (hd : 0 ≤ d ∧ d < n - 1) : (0 ≤ (a + 1 + d) % n ∧ (a + 1 + d) % n < n) ∧ a ≠ (a + 1 + d) % n := by
  refine ⟨⟨Int.emod_nonneg _ (by omega), Int.emod_lt_of_pos _ (by omega)⟩, ?_⟩
  by_cases h : a + 1 + d < n
  · rw [Int.emod_eq_of_lt (by omega) h]
    omega
  · have e : (a + 1 + d) % n = a + 1 + d - n := by
      rw [show a + 1 + d = (a + 1 + d - n) + n by omega, Int.add_emod_right, Int.emod_eq_of_lt (by omega) (by omega)]
      omega
    omega
theorem srt_ord {n : Int} {ps : List (Int × Int)} (h1 : 1 ≤ n) (h8 : n ≤ 8) (h : ps.Nodup) (v : Val n ps) : IsOrd n (srtQ ps) :=
  ⟨h1, h8, srtQ_pw h, fun p hp => v p ((srtQ_perm ps).mem_iff.mp hp)⟩
def anyStep (ns : List Int) (n : Int) (s : Nat × List (Int × Int)) : Nat × List (Int × Int) :=
  (s.1 + 3, spoil (drw ns s.1 n) ((drw ns s.1 n + 1 + drw ns (s.1 + 1) (n - 1)) % n) (drw ns (s.1 + 2) 3) s.2)
theorem any_ok (ns : List Int) {t : Nat} {lo mo : Int} (ht : t < 800000) (h1 : 1 ≤ lo) (h2 : lo ≤ mo) (h3 : mo ≤ 8) : ∃ n ps t', f_law_any [scr ns, town t, .int lo, .int mo] = .ok (ordD n ps) [town t'] ∧ IsOrd n ps ∧ lo ≤ n ∧ n ≤ mo ∧ t' ≤ t + 40 := by
  have hz := sizeLine_eq
  have h2z := two_le
  have h1z : (1 : Nat) ≤ sizeLine := by omega
  have e1 := draw_ok ns (t := t) (m := 4) (by omega) (by omega)
  have r1 := drw_rng ns t (m := 4) (by omega)
  have f0 : t_law_any.G.fn 0 = some ([false, true, false], f_law_draw) := rfl
  have f1 : t_law_any.G.fn 1 = some ([false, true, false, false], f_law_free) := rfl
  obtain ⟨n, ps, t1, e2, ho, hn1, hn2, ht1⟩ := free_ok ns (t := t + 1) (by omega) h1 h2 h3
  have hl := ord_len' ho
  generalize hc : (if 1 < n then drw ns t 4 else 0) = cnt at *
  have hcnt : 0 ≤ cnt ∧ cnt < 4 ∧ (0 < cnt → 1 < n) := by
    rw [← hc]
    split <;> omega
  let fin := (upTo cnt).foldl (fun s _ => anyStep ns n s) (t1, ps)
  have hul : (upTo cnt).length ≤ 3 := by
    have := upTo_lenI hcnt.1
    omega
  have key := forL_foldI (G := t_law_any.G) (tg := [5]) (one := true) (kill := [5, 8, 9, 10]) (body := [.asg 8 (.call 0 [.imm (.var 0), .own 1, .imm (.var 6)]),
    .asg 9 (.op .mod [.imm (.op .add [.imm (.op .add [.imm (.var 8), .imm (.cst (.int 1))]), .imm (.call 0 [.imm (.var 0), .own 1, .imm (.op .sub [.imm (.var 6), .imm (.cst (.int 1))])])]), .imm (.var 6)]),
    .asg 10 (.call 0 [.imm (.var 0), .own 1, .imm (.cst (.int 3))]),
    .asg 7 (.op .tuple [.imm (.lc (.var 11) [11] true (.seq (.imm (.var 7))) (some (.op .ne [.imm (.var 11), .imm (.tup [.imm (.var 8), .imm (.var 9)])])))]),
    .ite (.op .gt [.imm (.var 10), .imm (.cst (.int 0))])
    [.asg 7 (.op .add [.imm (.var 7), .imm (.tup [.imm (.tup [.imm (.var 8), .imm (.var 9)])])])]
    [],
    .ite (.op .eq [.imm (.var 10), .imm (.cst (.int 1))])
    [.asg 7 (.op .tuple [.imm (.lc (.var 11) [11] true (.seq (.imm (.var 7))) (some (.op .ne [.imm (.var 11), .imm (.tup [.imm (.var 9), .imm (.var 8)])])))])]
    []]) PyData.int (fun s : Nat × List (Int × Int) => [.im (scr ns), .mu (town s.1), .im (.int lo), .im (.int mo), .im (.int (drw ns t 4)), .no, .im (.int n), .im (.tuple (s.2.map pairD)), .no, .no, .no, .no]) (fun s _ => anyStep ns n s)
    (fun j s => s.1 = t1 + 3 * j ∧ s.2.Nodup ∧ Val n s.2 ∧ s.2.length ≤ 64 + j) (xs := upTo cnt) 0 (t1, ps) ⟨rfl, pw_nodup ho.pw, ho.ok, by show ps.length ≤ 64 + 0; omega⟩ ?_
  · obtain ⟨k1, k2, k3, k4, k5⟩ := key
    refine ⟨n, srtQ fin.2, fin.1, ?_, srt_ord ho.lo ho.hi k3 k4, hn1, hn2, by have : fin.1 = t1 + 3 * (0 + (upTo cnt).length) := k2; omega⟩
    have hs := pSrt_pairsT fin.2
    have hf : f_law_any [scr ns, town t, .int lo, .int mo] = finR [false, true, false, false] (exs t_law_any.G d_law_any.body (startE 12 [false, true, false, false] [scr ns, town t, .int lo, .int mo])) := by
      simp only [f_law_any, evDef_eq, d_law_any]
      rfl
    rw [hf]
    have e2' : f_law_free [scr ns, town (t + 1), .int lo, .int mo] = .ok (.tuple [.int n, .tuple (ps.map pairD)]) [town t1] := e2
    simp [d_law_any, f0, f1, callW_1 e1, callW_1 e2', tgL]
    have hc2 : (if 1 < n then R.ok (PyData.int (drw ns t 4)) [Sl.im (scr ns), Sl.mu (town t1), Sl.im (PyData.int lo), Sl.im (PyData.int mo), Sl.im (PyData.int (drw ns t 4)), Sl.no, Sl.im (PyData.int n), Sl.im (PyData.tuple (ps.map pairD)), Sl.no, Sl.no, Sl.no, Sl.no] else R.ok (PyData.int 0) [Sl.im (scr ns), Sl.mu (town t1), Sl.im (PyData.int lo), Sl.im (PyData.int mo), Sl.im (PyData.int (drw ns t 4)), Sl.no, Sl.im (PyData.int n), Sl.im (PyData.tuple (ps.map pairD)), Sl.no, Sl.no, Sl.no, Sl.no]) = R.ok (PyData.int cnt) [Sl.im (scr ns), Sl.mu (town t1), Sl.im (PyData.int lo), Sl.im (PyData.int mo), Sl.im (PyData.int (drw ns t 4)), Sl.no, Sl.im (PyData.int n), Sl.im (PyData.tuple (ps.map pairD)), Sl.no, Sl.no, Sl.no, Sl.no] := by
      rw [← hc]
      split <;> rfl
    simp [hc2, rng_upTo (show cnt ≤ 1000000 by omega) (by omega), k1]
    rw [show ((upTo cnt).foldl (fun s _ => anyStep ns n s) (t1, ps)) = fin from rfl]
    simp [hs, h2z, ordD]
  · intro j x hx s hs
    obtain ⟨t', qs⟩ := s
    obtain ⟨q1, q2, q3, q4⟩ := hs
    simp only at q1 q2 q3 q4
    have hj : j < (upTo cnt).length := (List.getElem?_eq_some_iff.mp hx).1
    have hn : 1 < n := by
      have := List.mem_of_getElem? hx
      rw [mem_upTo] at this
      exact hcnt.2.2 (by omega)
    have d1 := draw_ok ns (t := t') (m := n) (by omega) (by omega)
    have d2 := draw_ok ns (t := t' + 1) (m := n - 1) (by omega) (by omega)
    have d3 := draw_ok ns (t := t' + 2) (m := 3) (by omega) (by omega)
    have g1 := drw_rng ns t' (m := n) (by omega)
    have g2 := drw_rng ns (t' + 1) (m := n - 1) (by omega)
    have g3 := drw_rng ns (t' + 2) (m := 3) (by omega)
    obtain ⟨o1, o2⟩ := other_ok hn g1 g2
    have hmod : ∀ x : Int, pMod [.int x, .int n] = some (.int (x % n)) := fun x => pMod_int (by omega)
    unfold anyStep
    simp only
    generalize drw ns t' n = a at *
    generalize drw ns (t' + 1) (n - 1) = dd at *
    generalize drw ns (t' + 2) 3 = w at *
    generalize hb : (a + 1 + dd) % n = b at *
    obtain ⟨s1, s2, s3⟩ := spoil_ok (w := w) q2 q3 g1 o1 o2
    have fin : ∀ ys : List (Int × Int), ys = spoil a b w qs → (t' + 3 = t1 + 3 * (0 + j + 1) ∧ ys.Nodup ∧ Val n ys ∧ ys.length ≤ 64 + (0 + j + 1)) := fun ys hy => by
      rw [hy]
      exact ⟨by omega, s1, s2, by omega⟩
    have hl1 := dropP_len (a, b) qs
    have add : pAdd [.tuple ((dropP (a, b) qs).map pairD), .tuple [.tuple [.int a, .int b]]] = some (.tuple ((dropP (a, b) qs ++ [(a, b)]).map pairD)) := by
      rw [pAdd_tuple (by rw [List.length_map]; simp only [List.length_cons, List.length_nil]; omega), List.map_append]
      rfl
    have c1 : ∀ (x y : Int) (zs : List (Int × Int)) (e : En), ∀ p ∈ zs, lcB t_law_any.G (.var 11) [11] true (some (.op .ne [.imm (.var 11), .imm (.tup [.imm (.var 8), .imm (.var 9)])])) (pairD p) (killE [.im (scr ns), .mu (town (t' + 3)), .im (.int lo), .im (.int mo), .im (.int (drw ns t 4)), .im (.int x), .im (.int n), .im (.tuple (zs.map pairD)), .im (.int a), .im (.int b), .im (.int w), .no] [11]) = .ok (if (!decide (p = (a, b))) = true then some (pairD p) else none) (killE [.im (scr ns), .mu (town (t' + 3)), .im (.int lo), .im (.int mo), .im (.int (drw ns t 4)), .im (.int x), .im (.int n), .im (.tuple (zs.map pairD)), .im (.int a), .im (.int b), .im (.int w), .no] [11]) := fun x y zs e p hp => by
      simp [lcB, tgE, h2z, neP]
      by_cases q : p = (a, b) <;> simp [q]
    have c2 : ∀ (x y : Int) (zs : List (Int × Int)) (e : En), ∀ p ∈ zs, lcB t_law_any.G (.var 11) [11] true (some (.op .ne [.imm (.var 11), .imm (.tup [.imm (.var 9), .imm (.var 8)])])) (pairD p) (killE [.im (scr ns), .mu (town (t' + 3)), .im (.int lo), .im (.int mo), .im (.int (drw ns t 4)), .im (.int x), .im (.int n), .im (.tuple (zs.map pairD)), .im (.int a), .im (.int b), .im (.int w), .no] [11]) = .ok (if (!decide (p = (b, a))) = true then some (pairD p) else none) (killE [.im (scr ns), .mu (town (t' + 3)), .im (.int lo), .im (.int mo), .im (.int (drw ns t 4)), .im (.int x), .im (.int n), .im (.tuple (zs.map pairD)), .im (.int a), .im (.int b), .im (.int w), .no] [11]) := fun x y zs e p hp => by
      simp [lcB, tgE, h2z, neP]
      by_cases q : p = (b, a) <;> simp [q]
    have D1 : ∀ (x : Int) (zs : List (Int × Int)), lcR t_law_any.G (.var 11) [11] true (some (.op .ne [.imm (.var 11), .imm (.tup [.imm (.var 8), .imm (.var 9)])])) (zs.map pairD) [.im (scr ns), .mu (town (t' + 3)), .im (.int lo), .im (.int mo), .im (.int (drw ns t 4)), .im (.int x), .im (.int n), .im (.tuple (zs.map pairD)), .im (.int a), .im (.int b), .im (.int w), .no] = .ok (.list ((dropP (a, b) zs).map pairD)) [.im (scr ns), .mu (town (t' + 3)), .im (.int lo), .im (.int mo), .im (.int (drw ns t 4)), .im (.int x), .im (.int n), .im (.tuple (zs.map pairD)), .im (.int a), .im (.int b), .im (.int w), .no] :=
      fun x zs => lcR_filter pairD (fun p => !decide (p = (a, b))) pairD (c1 x x zs []) rfl
    have D2 : ∀ (x : Int) (zs : List (Int × Int)), lcR t_law_any.G (.var 11) [11] true (some (.op .ne [.imm (.var 11), .imm (.tup [.imm (.var 9), .imm (.var 8)])])) (zs.map pairD) [.im (scr ns), .mu (town (t' + 3)), .im (.int lo), .im (.int mo), .im (.int (drw ns t 4)), .im (.int x), .im (.int n), .im (.tuple (zs.map pairD)), .im (.int a), .im (.int b), .im (.int w), .no] = .ok (.list ((dropP (b, a) zs).map pairD)) [.im (scr ns), .mu (town (t' + 3)), .im (.int lo), .im (.int mo), .im (.int (drw ns t 4)), .im (.int x), .im (.int n), .im (.tuple (zs.map pairD)), .im (.int a), .im (.int b), .im (.int w), .no] :=
      fun x zs => lcR_filter pairD (fun p => !decide (p = (b, a))) pairD (c2 x x zs []) rfl
    simp only [bodyR, tgE, if_true, setE_0, setE_s]
    have ht3 : t' + 2 + 1 = t' + 3 := rfl
    simp [f0, callW_1 d1, callW_1 d2, callW_1 d3, hmod, hb, D1]
    by_cases w0 : 0 < w
    · by_cases w1 : w = 1
      · subst w1
        simp only [show ((0 : Int) < 1) from by decide, if_true, h2z, h1z, add, D2, if_pos]
        have D2' := D2 x (dropP (a, b) qs ++ [(a, b)])
        simp only [List.map_append, List.map_cons, List.map_nil] at D2'
        have es : spoil a b 1 qs = dropP (b, a) (dropP (a, b) qs ++ [(a, b)]) := by
          unfold spoil spoil1
          simp
        rw [es] at s1 s2 s3
        simp [h2z, h1z, add, D2', es]
        exact ⟨by omega, s1, s2, by omega⟩
      · have es : spoil a b w qs = dropP (a, b) qs ++ [(a, b)] := by
          unfold spoil spoil1
          simp [w0, w1]
        rw [es] at s1 s2 s3
        simp [w0, w1, h2z, h1z, add, es]
        simp only [List.length_append, List.length_cons, List.length_nil] at s3
        exact ⟨by omega, s1, s2, by omega⟩
    · have w1 : w ≠ 1 := by omega
      have es : spoil a b w qs = dropP (a, b) qs := by
        unfold spoil spoil1
        simp [w0, w1]
      rw [es] at s1 s2 s3
      simp [w0, w1, es]
      exact ⟨by omega, s1, s2, by omega⟩
end Nv

set_option linter.all false
set_option maxRecDepth 100000
namespace Nv
open PySem
/-! ### what turned keeps; plain data that are told apart -/
theorem twoB_iff {ps : List (Int × Int)} {p q : Int × Int} : twoB ps p q = true ↔ p ∈ ps ∧ q ∈ ps ∧ (p.1, q.2) ∉ ps ∧ (q.1, p.2) ∉ ps := by simp [twoB]
theorem threeB_iff {ps : List (Int × Int)} {p q : Int × Int} : threeB ps p q = true ↔ p ∈ ps ∧ (p.2, q.1) ∈ ps ∧ (p.1, q.2) ∉ ps ∧ (q.2, q.1) ∉ ps := by simp [threeB]
theorem NoBar_trn {n : Int} {ps : List (Int × Int)} (h : NoBar n ps) : NoBar n (trn ps) := by
  obtain ⟨h2, h3⟩ := h
  refine ⟨fun p hp q hq => ?_, fun p hp q hq e d d0 d1 => ?_⟩
  · have h4 := h2 _ (mem_trn.mp hp) _ (mem_trn.mp hq)
    rw [Bool.eq_false_iff, ne_eq, twoB_iff] at *
    rintro ⟨k1, k2, k3, k4⟩
    rw [mem_trn] at k1 k2 k3 k4
    exact h4 ⟨k1, k2, k4, k3⟩
  · have hp' := mem_trn.mp hp
    have hq' := mem_trn.mp hq
    have h4 := h3 _ hq' _ hp' e.symm d d0 d1
    rw [Bool.eq_false_iff, ne_eq, threeB_iff] at *
    rintro ⟨k1, k2, k3, k4⟩
    rw [mem_trn] at k1 k2 k3 k4
    have e2 : swp q = (q.2, p.2) := by
      unfold swp
      rw [e]
    rw [e2] at h4
    exact h4 ⟨k2, k1, k4, k3⟩
theorem NoBar_iff {n : Int} {ps : List (Int × Int)} (h : IsOrd n ps) : NoBar n (trn ps) ↔ NoBar n ps :=
  ⟨fun z => by have := NoBar_trn z; rwa [trn_trn h] at this, NoBar_trn⟩
theorem pEq_bool (a b : Bool) : pEq [.bool a, .bool b] = some (.bool (a == b)) := by
  cases a <;> cases b <;> rfl
def dueAll (n : Int) (ps : List (Int × Int)) : List (Int × Int) := (upTo n).flatMap fun i => ((upTo n).filter fun j => decide ((j, i) ∈ ps)).map fun j => (i, j)
theorem due_trn {n : Int} {ps : List (Int × Int)} (h : IsOrd n ps) : dueAll n ps = trn ps := by
  refine pw_ext (row_pw fun i j => decide ((j, i) ∈ ps)) (trn_ord h).pw fun p => ?_
  unfold dueAll
  simp only [List.mem_flatMap, List.mem_map, List.mem_filter, mem_upTo, decide_eq_true_eq, mem_trn, swp]
  constructor
  · rintro ⟨i, _, j, ⟨_, k⟩, rfl⟩
    exact k
  · intro k
    have := h.ok _ k
    exact ⟨p.1, by omega, p.2, ⟨by omega, k⟩, rfl⟩
theorem neOrd {n : Int} {ps qs : List (Int × Int)} (h : ps = qs) : pNe [ordD n ps, ordD n qs] = some (.bool false) := by
  have hp : ∀ n ps, plN 3 (ordD n ps) = true := fun n ps => pl_tuple (n := 2) fun x hx => by
    simp only [List.mem_cons, List.not_mem_nil, or_false] at hx
    rcases hx with rfl | rfl
    · rfl
    · exact pl_tuple (pl_pairs ps)
  exact pNe_pl (p := true) (hp n ps) (hp n qs) (by decide) (by decide) (by simp [h])
theorem farB_trn {ps : List (Int × Int)} {t x : Int} : farB (trn ps) t x = farB ps t x := by
  unfold farB
  simp only [mem_trn, swp]
  exact decide_eq_decide.mpr Or.comm
theorem neInts {xs ys : List Int} (h : xs = ys) : pNe [.list (xs.map .int), .list (ys.map .int)] = some (.bool false) := by
  have hp : ∀ xs : List Int, plN 1 (.list (xs.map .int)) = true := fun xs => pl_list (n := 0) fun x hx => by
    obtain ⟨i, _, rfl⟩ := List.mem_map.mp hx
    rfl
  exact pNe_pl (p := true) (hp xs) (hp ys) (by decide) (by decide) (by simp [h])
end Nv

set_option linter.all false
set_option maxRecDepth 100000
namespace Nv
open PySem
/-! ### refusals -/
theorem whole_any {d : D} (hd : noDict d = true) (a b : Int) : f_is_whole [d, .int a, .int b] = .ok (.bool (wholeB d a b)) [] := by
  cases d with
  | int i => rw [whole_int]; rfl
  | dict _ => cases hd
  | bool x => simp [f_is_whole, evDef_eq, d_is_whole, wholeB]
  | none => simp [f_is_whole, evDef_eq, d_is_whole, wholeB]
  | str _ => simp [f_is_whole, evDef_eq, d_is_whole, wholeB]
  | list _ => simp [f_is_whole, evDef_eq, d_is_whole, wholeB]
  | tuple _ => simp [f_is_whole, evDef_eq, d_is_whole, wholeB]
theorem need_thing_bad {n : Int} {ps : List (Int × Int)} {d : D} (hd : noDict d = true) (h : wholeB d 0 (n - 1) = false) : f_need_thing [ordD n ps, d] = .exc 2 [] := by
  simp [f_need_thing, evDef_eq, d_need_thing, Tb.G, t_need_thing, callW_0 (whole_any hd _ _), ordD, h]
theorem callW_xs {fn : Fn} {ds : List D} {env : En} {c : Nat} (h : fn ds = .exc c []) : callW fn ds [] env = .exc c env := callW_x h
/-- rising rows of ints with the same members -/
theorem ints_ext {xs ys : List Int} (h1 : xs.Pairwise (· < ·)) (h2 : ys.Pairwise (· < ·)) (h : ∀ x, x ∈ xs ↔ x ∈ ys) : xs = ys := by
  refine List.Perm.eq_of_pairwise (le := (· < ·)) (fun a b _ _ k1 k2 => by omega) h1 h2 ?_
  exact (List.perm_ext_iff_of_nodup (h1.imp fun h => by omega) (h2.imp fun h => by omega)).mpr h
theorem eqOrd {n : Int} {ps qs : List (Int × Int)} (h : ps = qs) : pEq [ordD n ps, ordD n qs] = some (.bool true) := by
  have hp : ∀ n ps, plN 3 (ordD n ps) = true := fun n ps => pl_tuple (n := 2) fun x hx => by
    simp only [List.mem_cons, List.not_mem_nil, or_false] at hx
    rcases hx with rfl | rfl
    · rfl
    · exact pl_tuple (pl_pairs ps)
  exact pEq_pl (p := true) (hp n ps) (hp n qs) (by decide) (by decide) (by simp [h])
theorem pNe_bool (a b : Bool) : pNe [.bool a, .bool b] = some (.bool (!(a == b))) := by
  cases a <;> cases b <;> rfl
theorem bar_ex {n : Int} {ps : List (Int × Int)} (h : IsOrd n ps) : ∃ v, f_bar [.tuple [.int n, .tuple (ps.map pairD)]] = .ok v [] ∧ (isNone v = true ↔ NoBar n ps) :=
  ⟨_, bar_ok h, by rw [barsAll_some, decide_eq_true_eq, barsAll_nil]⟩
theorem one_ord : IsOrd 1 [] := ⟨by decide, by decide, List.Pairwise.nil, fun p hp => by cases hp⟩
theorem upTo_getD {n i : Int} (h0 : 0 ≤ i) (h1 : i < n) : (upTo n)[i.toNat]? = some i := by
  unfold upTo
  rw [List.getElem?_map, List.getElem?_range (by omega)]
  show some ((i.toNat : Nat) : Int) = some i
  congr 1
  omega
theorem atI_upTo {n i : Int} (f : Int → D) (h0 : 0 ≤ i) (h1 : i < n) : L2.atI ((upTo n).map f) i = some (f i) := by
  have e : i = ((i.toNat : Nat) : Int) := by omega
  rw [e]
  refine atI_nat ?_
  rw [List.getElem?_map, upTo_getD h0 h1, ← e]
  rfl
theorem pick_mem (ns : List Int) {t : Nat} {xs : List D} (ht : t < 1000000) (h : xs ≠ []) : ∃ d ∈ xs, f_law_pick [scr ns, town t, .list xs] = .ok d [town (t + 1)] := by
  have hl : 0 < xs.length := List.length_pos_iff.mpr h
  have hr := drw_rng ns t (m := xs.length) (by omega)
  have hi : (drw ns t xs.length).toNat < xs.length := by omega
  refine ⟨_, ?_, pick_ok ns ht h⟩
  rw [List.getD_eq_getElem?_getD, List.getElem?_eq_getElem hi]
  exact List.getElem_mem hi
theorem ord0 (n : Int) (ps : List (Int × Int)) : prim .idx [ordD n ps, .int 0] = some (.int n) := (atI_0 : L2.atI [PyData.int n, .tuple (ps.map pairD)] 0 = some (.int n))
theorem ord1 (n : Int) (ps : List (Int × Int)) : prim .idx [ordD n ps, .int 1] = some (.tuple (ps.map pairD)) := (atI_1 : L2.atI [PyData.int n, .tuple (ps.map pairD)] 1 = some (.tuple (ps.map pairD)))
end Nv

set_option linter.all false
set_option maxRecDepth 100000
namespace Nv
open PySem
/-- twos -/
def d_twos : Def where
  n := 4
  ps := [false]
  body := [
    .asgM 1 (.lst []),
    .for_ [2] true (.rng (.imm (.var 0))) [2]
    [.ext 1 (.lc (.tup [.imm (.var 2), .imm (.var 3)]) [3] true (.rng2 (.imm (.op .add [.imm (.var 2), .imm (.cst (.int 1))])) (.imm (.var 0))) none)],
    .ret (.move 1)]
def t_twos : Tb where
  N := ["many", "made", "one", "other"]
  fns := []
  gls := []
  exs := []
def f_twos : Fn := evDef t_twos.G d_twos

/-- said_of -/
def d_said_of : Def where
  n := 2
  ps := [false, false]
  body := [
    .ret (.tup [.imm (.op .inn [.imm (.var 1), .imm (.op .idx [.imm (.var 0), .imm (.cst (.int 1))])]), .imm (.op .inn [.imm (.tup [.imm (.op .idx [.imm (.var 1), .imm (.cst (.int 1))]), .imm (.op .idx [.imm (.var 1), .imm (.cst (.int 0))])]), .imm (.op .idx [.imm (.var 0), .imm (.cst (.int 1))])])])]
def t_said_of : Tb where
  N := ["order", "pair"]
  fns := []
  gls := []
  exs := []
def f_said_of : Fn := evDef t_said_of.G d_said_of

/-- far -/
def d_far : Def where
  n := 3
  ps := [false, false]
  body := [
    .ret (.op .len [.imm (.lc (.var 2) [2] true (.seq (.imm (.call 0 [.imm (.op .idx [.imm (.var 0), .imm (.cst (.int 0))])]))) (some (.op .ne [.imm (.call 1 [.imm (.var 0), .imm (.var 2)]), .imm (.call 1 [.imm (.var 1), .imm (.var 2)])])))])]
def t_far : Tb where
  N := ["one", "other", "pair"]
  fns := [("twos", [false], f_twos), ("said_of", [false, false], f_said_of)]
  gls := []
  exs := []
def f_far : Fn := evDef t_far.G d_far

/-- unlike -/
def d_unlike : Def where
  n := 2
  ps := [false, false]
  body := [
    .drop (.call 0 [.imm (.var 0)]),
    .drop (.call 0 [.imm (.var 1)]),
    .ite (.op .ne [.imm (.op .idx [.imm (.var 0), .imm (.cst (.int 0))]), .imm (.op .idx [.imm (.var 1), .imm (.cst (.int 0))])])
    [.raise 5]
    [],
    .ret (.call 1 [.imm (.var 0), .imm (.var 1)])]
def t_unlike : Tb where
  N := ["one", "other"]
  fns := [("need_order", [false], f_need_order), ("far", [false, false], f_far)]
  gls := []
  exs := [(5, "NoCount")]
def f_unlike : Fn := evDef t_unlike.G d_unlike

/-- free_orders -/
def d_free_orders : Def where
  n := 7
  ps := [false]
  body := [
    .asg 1 (.lst [.imm (.tup [])]),
    .for_ [3, 4] false (.seq (.imm (.call 0 [.imm (.var 0)]))) [3, 4]
    [.asg 1 (.op .add [.imm (.op .add [.imm (.var 1), .imm (.lc (.op .add [.imm (.var 5), .imm (.tup [.imm (.tup [.imm (.var 3), .imm (.var 4)])])]) [5] true (.seq (.imm (.var 1))) none)]), .imm (.lc (.op .add [.imm (.var 5), .imm (.tup [.imm (.tup [.imm (.var 4), .imm (.var 3)])])]) [5] true (.seq (.imm (.var 1))) none)])],
    .asg 2 (.lc (.tup [.imm (.var 0), .imm (.op .tuple [.imm (.op .srt [.imm (.var 5)])])]) [5] true (.seq (.imm (.var 1))) none),
    .ret (.op .srt [.imm (.lc (.var 6) [6] true (.seq (.imm (.var 2))) (some (.op .eq [.imm (.call 1 [.imm (.var 6)]), .imm (.lst [])])))])]
def t_free_orders : Tb where
  N := ["many", "rows", "orders", "one", "other", "row", "order"]
  fns := [("twos", [false], f_twos), ("all_bars", [false], f_all_bars)]
  gls := []
  exs := []
def f_free_orders : Fn := evDef t_free_orders.G d_free_orders

/-- closest -/
def d_closest : Def where
  n := 2
  ps := [false]
  body := [
    .drop (.call 0 [.imm (.var 0)]),
    .ite (.op .gt [.imm (.op .idx [.imm (.var 0), .imm (.cst (.int 0))]), .imm (.glob 0)])
    [.raise 8]
    [],
    .ite (.op .eq [.imm (.call 1 [.imm (.var 0)]), .imm (.lst [])])
    [.ret (.tup [.imm (.cst (.int 0)), .imm (.var 0)])]
    [],
    .ret (.op .minL [.imm (.lc (.tup [.imm (.call 3 [.imm (.var 0), .imm (.var 1)]), .imm (.var 1)]) [1] true (.seq (.imm (.call 2 [.imm (.op .idx [.imm (.var 0), .imm (.cst (.int 0))])]))) none)])]
def t_closest : Tb where
  N := ["order", "other"]
  fns := [("need_order", [false], f_need_order), ("all_bars", [false], f_all_bars), ("free_orders", [false], f_free_orders), ("far", [false, false], f_far)]
  gls := [("FEW", .int 4)]
  exs := [(8, "Full")]
def f_closest : Fn := evDef t_closest.G d_closest

/-- how_far -/
def d_how_far : Def where
  n := 1
  ps := [false]
  body := [
    .ret (.op .idx [.imm (.call 0 [.imm (.var 0)]), .imm (.cst (.int 0))])]
def t_how_far : Tb where
  N := ["order"]
  fns := [("closest", [false], f_closest)]
  gls := []
  exs := []
def f_how_far : Fn := evDef t_how_far.G d_how_far

/-- called -/
def d_called : Def where
  n := 4
  ps := [false, false]
  body := [
    .ret (.tup [.imm (.op .idx [.imm (.var 0), .imm (.cst (.int 0))]), .imm (.op .tuple [.imm (.op .srt [.imm (.lc (.tup [.imm (.op .idx [.imm (.var 1), .imm (.var 2)]), .imm (.op .idx [.imm (.var 1), .imm (.var 3)])]) [2, 3] false (.seq (.imm (.op .idx [.imm (.var 0), .imm (.cst (.int 1))]))) none)])])])]
def t_called : Tb where
  N := ["order", "names", "one", "other"]
  fns := []
  gls := []
  exs := []
def f_called : Fn := evDef t_called.G d_called

/-- renamed -/
def d_renamed : Def where
  n := 3
  ps := [false, false]
  body := [
    .drop (.call 0 [.imm (.var 0)]),
    .ite (.or (.not (.op .isTup [.imm (.var 1)])) (.not (.op .allB [.imm (.lc (.call 1 [.imm (.var 2), .imm (.cst (.int 0)), .imm (.op .sub [.imm (.op .idx [.imm (.var 0), .imm (.cst (.int 0))]), .imm (.cst (.int 1))])]) [2] true (.seq (.imm (.var 1))) none)])))
    [.raise 10]
    [],
    .ite (.op .ne [.imm (.op .srt [.imm (.var 1)]), .imm (.op .lrg [.imm (.op .idx [.imm (.var 0), .imm (.cst (.int 0))])])])
    [.raise 10]
    [],
    .ret (.call 2 [.imm (.var 0), .imm (.var 1)])]
def t_renamed : Tb where
  N := ["order", "names", "one"]
  fns := [("need_order", [false], f_need_order), ("is_whole", [false, false, false], f_is_whole), ("called", [false, false], f_called)]
  gls := []
  exs := [(10, "NoNames")]
def f_renamed : Fn := evDef t_renamed.G d_renamed

/-- without -/
def d_without : Def where
  n := 6
  ps := [false, false]
  body := [
    .drop (.call 0 [.imm (.var 0)]),
    .drop (.call 1 [.imm (.var 0), .imm (.var 1)]),
    .ite (.op .eq [.imm (.op .idx [.imm (.var 0), .imm (.cst (.int 0))]), .imm (.cst (.int 1))])
    [.raise 5]
    [],
    .asg 2 (.lc (.op .sub [.imm (.var 4), .imm (.op .intOf [.imm (.op .gt [.imm (.var 4), .imm (.var 1)])])]) [4] true (.rng (.imm (.op .idx [.imm (.var 0), .imm (.cst (.int 0))]))) none),
    .asg 3 (.lc (.tup [.imm (.op .idx [.imm (.var 2), .imm (.var 4)]), .imm (.op .idx [.imm (.var 2), .imm (.var 5)])]) [4, 5] false (.seq (.imm (.op .idx [.imm (.var 0), .imm (.cst (.int 1))]))) (some (.op .nin [.imm (.var 1), .imm (.tup [.imm (.var 4), .imm (.var 5)])]))),
    .ret (.tup [.imm (.op .sub [.imm (.op .idx [.imm (.var 0), .imm (.cst (.int 0))]), .imm (.cst (.int 1))]), .imm (.op .tuple [.imm (.op .srt [.imm (.var 3)])])])]
def t_without : Tb where
  N := ["order", "thing", "names", "pairs", "one", "other"]
  fns := [("need_order", [false], f_need_order), ("need_thing", [false, false], f_need_thing)]
  gls := []
  exs := [(5, "NoCount")]
def f_without : Fn := evDef t_without.G d_without

/-- nearest -/
def d_nearest : Def where
  n := 1
  ps := [false]
  body := [
    .ret (.op .idx [.imm (.call 0 [.imm (.var 0)]), .imm (.cst (.int 1))])]
def t_nearest : Tb where
  N := ["order"]
  fns := [("closest", [false], f_closest)]
  gls := []
  exs := []
def f_nearest : Fn := evDef t_nearest.G d_nearest

/-- _law_odd -/
def d_law_odd : Def where
  n := 3
  ps := [false, true]
  body := [
    .asg 2 (.lst [.imm (.cst .none), .imm (.cst (.int 5)), .imm (.cst (.str (PySem.Str.ofString "2: 0<1"))), .imm (.tup [.imm (.cst (.int 0)), .imm (.tup [])]), .imm (.tup [.imm (.cst (.int 9)), .imm (.tup [])]), .imm (.tup [.imm (.cst (.int 2)), .imm (.lst [.imm (.tup [.imm (.cst (.int 0)), .imm (.cst (.int 1))])])]), .imm (.lst [.imm (.cst (.int 2)), .imm (.tup [.imm (.tup [.imm (.cst (.int 0)), .imm (.cst (.int 1))])])]), .imm (.tup [.imm (.cst (.int 2)), .imm (.tup [.imm (.tup [.imm (.cst (.int 0)), .imm (.cst (.int 0))])])]), .imm (.tup [.imm (.cst (.int 2)), .imm (.tup [.imm (.tup [.imm (.cst (.int 0)), .imm (.cst (.int 2))])])])]),
    .asg 2 (.op .add [.imm (.var 2), .imm (.lst [.imm (.tup [.imm (.cst (.int 2)), .imm (.tup [.imm (.tup [.imm (.cst (.int 1)), .imm (.cst (.int 0))]), .imm (.tup [.imm (.cst (.int 0)), .imm (.cst (.int 1))])])]), .imm (.tup [.imm (.cst (.int 2)), .imm (.tup [.imm (.tup [.imm (.cst (.int 0)), .imm (.cst (.int 1))]), .imm (.tup [.imm (.cst (.int 0)), .imm (.cst (.int 1))])])]), .imm (.tup [.imm (.cst (.bool true)), .imm (.tup [])]), .imm (.tup [.imm (.cst (.int 2)), .imm (.tup [.imm (.tup [.imm (.cst (.int 0)), .imm (.cst (.bool true))])])]), .imm (.tup [.imm (.cst (.int 2)), .imm (.tup [.imm (.cst (.int 0)), .imm (.cst (.int 1))])]), .imm (.tup [.imm (.cst (.int 2))])])]),
    .asg 2 (.op .add [.imm (.var 2), .imm (.lst [.imm (.tup [.imm (.cst (.int 2)), .imm (.tup [.imm (.tup [.imm (.cst (.int 0)), .imm (.cst (.int 1)), .imm (.cst (.int 1))])])]), .imm (.tup [.imm (.cst (.int 2)), .imm (.tup [.imm (.tup [.imm (.cst (.int 0)), .imm (.cst .none)])])]), .imm (.tup [.imm (.cst (.str (PySem.Str.ofString "2"))), .imm (.tup [])]), .imm (.tup [.imm (.cst (.int 2)), .imm (.tup [.imm (.tup [.imm (.op .neg [.imm (.cst (.int 1))]), .imm (.cst (.int 0))])])]), .imm (.tup [.imm (.cst (.int 1)), .imm (.tup []), .imm (.tup [])])])]),
    .ret (.call 0 [.imm (.var 0), .own 1, .imm (.var 2)])]
def t_law_odd : Tb where
  N := ["_law_script", "_law_town", "_law_some"]
  fns := [("_law_pick", [false, true, false], f_law_pick)]
  gls := []
  exs := []
def f_law_odd : Fn := evDef t_law_odd.G d_law_odd

/-- _law_names -/
def d_law_names : Def where
  n := 5
  ps := [false, true, false]
  body := [
    .asgM 3 (.op .lrg [.imm (.var 2)]),
    .asgM 4 (.lst []),
    .while_ 1000000 (.op .ne [.own 3, .imm (.lst [])]) []
    [.app 4 (.pop 3 (.call 0 [.imm (.var 0), .own 1, .imm (.op .len [.own 3])]))],
    .ret (.op .tuple [.own 4])]
def t_law_names : Tb where
  N := ["_law_script", "_law_town", "_law_many", "_law_things", "_law_made"]
  fns := [("_law_draw", [false, true, false], f_law_draw)]
  gls := []
  exs := []
def f_law_names : Fn := evDef t_law_names.G d_law_names

/-- need_both -/
def d_need_both : Def where
  n := 2
  ps := [false, false]
  body := [
    .drop (.call 0 [.imm (.var 0)]),
    .drop (.call 0 [.imm (.var 1)]),
    .ite (.op .gt [.imm (.op .add [.imm (.op .idx [.imm (.var 0), .imm (.cst (.int 0))]), .imm (.op .idx [.imm (.var 1), .imm (.cst (.int 0))])]), .imm (.glob 0)])
    [.raise 8]
    []]
def t_need_both : Tb where
  N := ["one", "other"]
  fns := [("need_order", [false], f_need_order)]
  gls := [("MANY", .int 8)]
  exs := [(8, "Full")]
def f_need_both : Fn := evDef t_need_both.G d_need_both

/-- moved -/
def d_moved : Def where
  n := 4
  ps := [false, false]
  body := [
    .ret (.lc (.tup [.imm (.op .add [.imm (.var 2), .imm (.var 1)]), .imm (.op .add [.imm (.var 3), .imm (.var 1)])]) [2, 3] false (.seq (.imm (.op .idx [.imm (.var 0), .imm (.cst (.int 1))]))) none)]
def t_moved : Tb where
  N := ["order", "by", "one", "other"]
  fns := []
  gls := []
  exs := []
def f_moved : Fn := evDef t_moved.G d_moved

/-- joined -/
def d_joined : Def where
  n := 5
  ps := [false, false]
  body := [
    .drop (.call 0 [.imm (.var 0), .imm (.var 1)]),
    .asgM 2 (.op .add [.imm (.op .list [.imm (.op .idx [.imm (.var 0), .imm (.cst (.int 1))])]), .imm (.call 1 [.imm (.var 1), .imm (.op .idx [.imm (.var 0), .imm (.cst (.int 0))])])]),
    .for_ [3] true (.rng (.imm (.op .idx [.imm (.var 0), .imm (.cst (.int 0))]))) [3]
    [.ext 2 (.lc (.tup [.imm (.var 3), .imm (.op .add [.imm (.op .idx [.imm (.var 0), .imm (.cst (.int 0))]), .imm (.var 4)])]) [4] true (.rng (.imm (.op .idx [.imm (.var 1), .imm (.cst (.int 0))]))) none)],
    .ret (.tup [.imm (.op .add [.imm (.op .idx [.imm (.var 0), .imm (.cst (.int 0))]), .imm (.op .idx [.imm (.var 1), .imm (.cst (.int 0))])]), .imm (.op .tuple [.imm (.op .srt [.own 2])])])]
def t_joined : Tb where
  N := ["one", "other", "pairs", "thing", "behind"]
  fns := [("need_both", [false, false], f_need_both), ("moved", [false, false], f_moved)]
  gls := []
  exs := []
def f_joined : Fn := evDef t_joined.G d_joined

/-- laid -/
def d_laid : Def where
  n := 2
  ps := [false, false]
  body := [
    .drop (.call 0 [.imm (.var 0), .imm (.var 1)]),
    .ret (.tup [.imm (.op .add [.imm (.op .idx [.imm (.var 0), .imm (.cst (.int 0))]), .imm (.op .idx [.imm (.var 1), .imm (.cst (.int 0))])]), .imm (.op .tuple [.imm (.op .srt [.imm (.op .add [.imm (.op .list [.imm (.op .idx [.imm (.var 0), .imm (.cst (.int 1))])]), .imm (.call 1 [.imm (.var 1), .imm (.op .idx [.imm (.var 0), .imm (.cst (.int 0))])])])])])])]
def t_laid : Tb where
  N := ["one", "other"]
  fns := [("need_both", [false, false], f_need_both), ("moved", [false, false], f_moved)]
  gls := []
  exs := []
def f_laid : Fn := evDef t_laid.G d_laid

end Nv

set_option linter.all false
set_option maxRecDepth 100000
namespace Nv
open PySem
/-- need_step -/
def d_need_step : Def where
  n := 1
  ps := [false]
  body := [
    .ite (.not (.call 0 [.imm (.var 0), .imm (.cst (.int 1)), .imm (.glob 0)]))
    [.raise 3]
    []]
def t_need_step : Tb where
  N := ["thing"]
  fns := [("is_whole", [false, false, false], f_is_whole)]
  gls := [("STEP", .int 999)]
  exs := [(3, "NoStep")]
def f_need_step : Fn := evDef t_need_step.G d_need_step

/-- are_numbers -/
def d_are_numbers : Def where
  n := 2
  ps := [false]
  body := [
    .ite (.or (.not (.op .isTup [.imm (.var 0)])) (.not (.leLe (.cst (.int 1)) (.op .len [.imm (.var 0)]) (.glob 0))))
    [.ret (.cst (.bool false))]
    [],
    .ret (.op .allB [.imm (.lc (.call 0 [.imm (.var 1), .imm (.cst (.int 0)), .imm (.glob 1)]) [1] true (.seq (.imm (.var 0))) none)])]
def t_are_numbers : Tb where
  N := ["thing", "one"]
  fns := [("is_whole", [false, false, false], f_is_whole)]
  gls := [("MANY", .int 8), ("GREAT", .int 9999)]
  exs := []
def f_are_numbers : Fn := evDef t_are_numbers.G d_are_numbers

/-- order_by -/
def d_order_by : Def where
  n := 5
  ps := [false, false]
  body := [
    .asgM 2 (.lst []),
    .for_ [3] true (.rng (.imm (.op .len [.imm (.var 1)]))) [3]
    [.ext 2 (.lc (.tup [.imm (.var 3), .imm (.var 4)]) [4] true (.rng (.imm (.op .len [.imm (.var 1)]))) (some (.op .ge [.imm (.op .sub [.imm (.op .idx [.imm (.var 1), .imm (.var 4)]), .imm (.op .idx [.imm (.var 1), .imm (.var 3)])]), .imm (.var 0)])))],
    .ret (.tup [.imm (.op .len [.imm (.var 1)]), .imm (.op .tuple [.own 2])])]
def t_order_by : Tb where
  N := ["step", "numbers", "pairs", "one", "other"]
  fns := []
  gls := []
  exs := []
def f_order_by : Fn := evDef t_order_by.G d_order_by

/-- fits -/
def d_fits : Def where
  n := 3
  ps := [false, false, false]
  body := [
    .drop (.call 0 [.imm (.var 0)]),
    .drop (.call 1 [.imm (.var 1)]),
    .ite (.or (.not (.call 2 [.imm (.var 2)])) (.op .ne [.imm (.op .len [.imm (.var 2)]), .imm (.op .idx [.imm (.var 0), .imm (.cst (.int 0))])]))
    [.raise 4]
    [],
    .ret (.op .eq [.imm (.call 3 [.imm (.var 1), .imm (.var 2)]), .imm (.var 0)])]
def t_fits : Tb where
  N := ["order", "step", "numbers"]
  fns := [("need_order", [false], f_need_order), ("need_step", [false], f_need_step), ("are_numbers", [false], f_are_numbers), ("order_by", [false, false], f_order_by)]
  gls := []
  exs := [(4, "NoNumbers")]
def f_fits : Fn := evDef t_fits.G d_fits

/-- steps_of -/
def d_steps_of : Def where
  n := 5
  ps := [false, false]
  body := [
    .asgM 2 (.lst []),
    .for_ [3] true (.rng (.imm (.op .idx [.imm (.var 0), .imm (.cst (.int 0))]))) [3, 4]
    [.for_ [4] true (.rng (.imm (.op .idx [.imm (.var 0), .imm (.cst (.int 0))]))) [4]
    [.ite (.op .inn [.imm (.tup [.imm (.var 3), .imm (.var 4)]), .imm (.op .idx [.imm (.var 0), .imm (.cst (.int 1))])])
    [.app 2 (.tup [.imm (.var 3), .imm (.var 4), .imm (.var 1)])]
    [.ite (.op .ne [.imm (.var 3), .imm (.var 4)])
    [.app 2 (.tup [.imm (.var 4), .imm (.var 3), .imm (.op .sub [.imm (.cst (.int 1)), .imm (.var 1)])])]
    []]]],
    .ret (.move 2)]
def t_steps_of : Tb where
  N := ["order", "step", "made", "one", "other"]
  fns := []
  gls := []
  exs := []
def f_steps_of : Fn := evDef t_steps_of.G d_steps_of

/-- least_by -/
def d_least_by : Def where
  n := 11
  ps := [false, false]
  body := [
    .asgM 2 (.op .mul [.imm (.lst [.imm (.cst (.int 0))]), .imm (.op .idx [.imm (.var 0), .imm (.cst (.int 0))])]),
    .newD 3 false,
    .asg 4 (.call 0 [.imm (.var 0), .imm (.var 1)]),
    .for_ [5] true (.rng (.imm (.op .add [.imm (.op .idx [.imm (.var 0), .imm (.cst (.int 0))]), .imm (.cst (.int 1))]))) [5, 7, 8, 9, 10]
    [.asg 6 (.cst .none),
    .for_ [1000000, 7, 8, 9, 10] false (.enum (.imm (.var 4))) [7, 8, 9, 10]
    [.ite (.op .gt [.imm (.op .add [.imm (.op .idx [.own 2, .imm (.var 8)]), .imm (.var 10)]), .imm (.op .idx [.own 2, .imm (.var 9)])])
    [.setI 2 (.var 9) (.op .add [.imm (.op .idx [.own 2, .imm (.var 8)]), .imm (.var 10)]),
    .setD 3 (.var 9) (.var 7),
    .asg 6 (.var 9)]
    []],
    .ite (.op .isN [.imm (.var 6)])
    [.ret (.tup [.imm (.op .tuple [.own 2]), .imm (.cst .none), .imm (.move 3)])]
    []],
    .ret (.tup [.imm (.cst .none), .imm (.var 6), .imm (.move 3)])]
def t_least_by : Tb where
  N := ["order", "step", "row", "by", "some", "turn", "changed", "place", "one", "other", "more"]
  fns := [("steps_of", [false, false], f_steps_of)]
  gls := []
  exs := []
def f_least_by : Fn := evDef t_least_by.G d_least_by

/-- numbers -/
def d_numbers : Def where
  n := 2
  ps := [false, false]
  body := [
    .drop (.call 0 [.imm (.var 0)]),
    .drop (.call 1 [.imm (.var 1)]),
    .ret (.op .idx [.imm (.call 2 [.imm (.var 0), .imm (.var 1)]), .imm (.cst (.int 0))])]
def t_numbers : Tb where
  N := ["order", "step"]
  fns := [("need_order", [false], f_need_order), ("need_step", [false], f_need_step), ("least_by", [false, false], f_least_by)]
  gls := []
  exs := []
def f_numbers : Fn := evDef t_numbers.G d_numbers

/-- least_step -/
def d_least_step : Def where
  n := 2
  ps := [false]
  body := [
    .drop (.call 0 [.imm (.var 0)]),
    .ite (.op .ne [.imm (.call 1 [.imm (.var 0)]), .imm (.lst [])])
    [.raise 7]
    [],
    .asg 1 (.cst (.int 1)),
    .while_ 1000000 (.op .isN [.imm (.op .idx [.imm (.call 2 [.imm (.var 0), .imm (.var 1)]), .imm (.cst (.int 0))])]) []
    [.asg 1 (.op .add [.imm (.var 1), .imm (.cst (.int 1))])],
    .ret (.var 1)]
def t_least_step : Tb where
  N := ["order", "step"]
  fns := [("need_order", [false], f_need_order), ("all_bars", [false], f_all_bars), ("least_by", [false, false], f_least_by)]
  gls := []
  exs := [(7, "Barred")]
def f_least_step : Fn := evDef t_least_step.G d_least_step

end Nv

set_option linter.all false
set_option maxRecDepth 100000
namespace Nv
open PySem
/-! ### steps, rows raised: what the program does -/
/-- turns, till one stops: left, or all turns made: right -/
def turnsF {σ : Type} (step : σ → σ) (stop : σ → Bool) : Nat → σ → Sum σ σ
  | 0, s => .inr s
  | k + 1, s => if stop s then .inl s else turnsF step stop k (step s)
theorem forL_turns {G : Gam} {tg : List Nat} {one : Bool} {kill : List Nat} {body : List S} {α σ : Type} (f : α → D) (E : σ → En) (step : σ → σ) (stop : σ → Bool) (res : σ → D) (I : Nat → σ → Prop) :
    ∀ (xs : List α) (i : Nat) (s : σ), I i s → (∀ j x, xs[j]? = some x → ∀ s, I (i + j) s → if stop s = true then ∃ e, bodyR G tg one body (f x) (E s) = .ret (res s) e else nxIs (bodyR G tg one body (f x) (E s)) fun e => killE e kill = E (step s) ∧ I (i + j + 1) (step s)) →
      match turnsF step stop xs.length s with
      | .inl s' => ∃ e, forL G tg one kill body (xs.map f) (E s) = .ret (res s') e
      | .inr s' => forL G tg one kill body (xs.map f) (E s) = .nx (E s') ∧ I (i + xs.length) s'
  | [], i, s, hI, _ => ⟨rfl, hI⟩
  | x :: xs, i, s, hI, h => by
    have h0 := h 0 x rfl s hI
    have hd : forL G tg one kill body ((x :: xs).map f) (E s) = (match bodyR G tg one body (f x) (E s) with
        | .nx env' => forL G tg one kill body (xs.map f) (killE env' kill)
        | .cnt env' => forL G tg one kill body (xs.map f) (killE env' kill)
        | .brk env' => .nx (killE env' kill)
        | .ret d env' => .ret d env'
        | .exc c env' => .exc c env'
        | .stuck => .stuck) := by
      unfold forL
      simp only [List.map_cons, forR]
      rfl
    show match (if stop s = true then Sum.inl s else turnsF step stop xs.length (step s)) with
      | .inl s' => _
      | .inr s' => _
    cases hs : stop s with
    | true =>
      rw [if_pos hs] at h0
      obtain ⟨e, h0⟩ := h0
      simp only [if_true]
      exact ⟨e, by rw [hd, h0]⟩
    | false =>
      rw [if_neg (by rw [hs]; decide)] at h0
      simp only [Bool.false_eq_true, if_false]
      have e1 : forL G tg one kill body ((x :: xs).map f) (E s) = forL G tg one kill body (xs.map f) (E (step s)) ∧ I (i + 1) (step s) := by
        rw [hd]
        cases e : bodyR G tg one body (f x) (E s) <;> rw [e] at h0 <;> first | exact h0.elim | exact ⟨by simp only [h0.1], h0.2⟩
      have ih := forL_turns f E step stop res I xs (i + 1) (step s) e1.2 fun j y hy s hs => by
        have := h (j + 1) y (by simpa using hy) s (by rwa [show i + (j + 1) = i + 1 + j by omega])
        rwa [show i + (j + 1) + 1 = i + 1 + j + 1 by omega] at this
      rw [e1.1]
      cases ht : turnsF step stop xs.length (step s) with
      | inl s' => rw [ht] at ih; exact ih
      | inr s' =>
        rw [ht] at ih
        simp only at ih ⊢
        refine ⟨ih.1, ?_⟩
        have := ih.2
        rwa [show i + 1 + xs.length = i + (x :: xs).length by simp; omega] at this
abbrev Tr := Int × Int × Int
def tripD (t : Tr) : D := .tuple [.int t.1, .int t.2.1, .int t.2.2]
def stepCell (ps : List (Int × Int)) (st i j : Int) : List Tr := if (i, j) ∈ ps then [(i, j, st)] else if i ≠ j then [(j, i, 1 - st)] else []
def stepsL (n : Int) (ps : List (Int × Int)) (st : Int) : List Tr := (upTo n).flatMap fun i => (upTo n).flatMap fun j => stepCell ps st i j
theorem cell_len (ps : List (Int × Int)) (st i j : Int) : (stepCell ps st i j).length ≤ 1 := by
  unfold stepCell
  split
  · simp
  · split <;> simp
theorem foldl_appL {α β : Type} (f : α → List β) : ∀ (xs : List α) (acc : List β), xs.foldl (fun s x => s ++ f x) acc = acc ++ xs.flatMap f
  | [], acc => by simp
  | x :: xs, acc => by rw [List.foldl_cons, foldl_appL f xs, List.flatMap_cons, List.append_assoc]
theorem flat_le {α β : Type} (f : α → List β) (k : Nat) : ∀ (xs : List α), (∀ x ∈ xs, (f x).length ≤ k) → (xs.flatMap f).length ≤ k * xs.length
  | [], _ => by simp
  | x :: xs, h => by
    have h1 := h x List.mem_cons_self
    have h2 := flat_le f k xs fun y hy => h y (List.mem_cons_of_mem _ hy)
    rw [List.flatMap_cons, List.length_append, List.length_cons, Nat.mul_add]
    omega
theorem pIn_pair {p : Int × Int} {ps : List (Int × Int)} : pIn [pairD p, .tuple (ps.map pairD)] = some (.bool (decide (p ∈ ps))) :=
  (pIn_pl (n := 1) (m := 1) (pl_pair p) (pl_pairs ps) (by decide) (by decide) (by rw [decide_eq_true_eq, mem_pairs])).1
theorem three_le : (3 : Nat) ≤ sizeLine := by rw [sizeLine_eq]; omega
theorem steps_ok {n st : Int} {ps : List (Int × Int)} (h1 : 0 ≤ n) (h8 : n ≤ 8) : f_steps_of [ordD n ps, .int st] = .ok (.list ((stepsL n ps st).map tripD)) [] := by
  have hz := sizeLine_eq
  have h3z := three_le
  have h2z := two_le
  have hul := upTo_len h8
  have hr : itRng [.int n] = some ((upTo n).map .int) := rng_upTo (by omega) (by omega)
  simp only [f_steps_of, evDef_eq, d_steps_of]
  simp [ordD, hr]
  rw [forL_rwE PyData.int (fun s : List Tr => [.im (.tuple [.int n, .tuple (ps.map pairD)]), .im (.int st), .mu (.list (s.map tripD)), .no, .no]) (fun s i => s ++ (upTo n).flatMap fun j => stepCell ps st i j) (fun k s => s.length ≤ 8 * k) [] (by simp) ?_ ?_]
  · rw [foldl_appL, List.nil_append]
    simp [stepsL]
  · rfl
  · intro k i hi s hs
    have hk : k < (upTo n).length := (List.getElem?_eq_some_iff.mp hi).1
    simp [bodyR, tgE, hr]
    rw [forL_rwE PyData.int (fun s : List Tr => [.im (.tuple [.int n, .tuple (ps.map pairD)]), .im (.int st), .mu (.list (s.map tripD)), .im (.int i), .no]) (fun s j => s ++ stepCell ps st i j) (fun m s => s.length ≤ 8 * k + m) s (by omega) rfl ?_]
    · rw [foldl_appL]
      have hh := flat_le (fun j => stepCell ps st i j) 1 (upTo n) fun j _ => cell_len ps st i j
      simp at hh
      simp
      omega
    · intro m j hj s hs
      have hm : m < (upTo n).length := (List.getElem?_eq_some_iff.mp hj).1
      have hsl : s.length < sizeLine := by omega
      have hp : pIn [.tuple [.int i, .int j], .tuple (ps.map pairD)] = some (.bool (decide ((i, j) ∈ ps))) := pIn_pair (p := (i, j))
      simp [bodyR, tgE, h2z, hp]
      by_cases e : (i, j) ∈ ps
      · simp [e, h3z, hsl, stepCell, tripD]
        omega
      · by_cases e2 : i = j
        · subst e2
          simp [e, stepCell]
          omega
        · simp [e, e2, h3z, hsl, stepCell, tripD]
          omega
/-! the rows -/
structure Bs where
  row : List Int
  by_ : List (D × D)
  ch : Option Int
def chD : Option Int → D
  | none => .none
  | some i => .int i
def toEd (t : Tr) : Ed := (t.1.toNat, t.2.1.toNat, t.2.2)
def upB (s : Bs) (x : Tr × D) : Bs :=
  if gx s.row x.1.2.1.toNat < gx s.row x.1.1.toNat + x.1.2.2 then ⟨s.row.set x.1.2.1.toNat (gx s.row x.1.1.toNat + x.1.2.2), putD (.int x.1.2.1) x.2 s.by_, some x.1.2.1⟩ else s
def passB (xs : List (Tr × D)) (s : Bs) : Bs := xs.foldl upB { s with ch := none }
theorem upB_row (s : Bs) (x : Tr × D) : (upB s x).row = relax s.row (toEd x.1) := by
  unfold upB relax toEd
  split <;> rfl
theorem foldB_row : ∀ (xs : List (Tr × D)) (s : Bs), (xs.foldl upB s).row = pass (xs.map fun x => toEd x.1) s.row
  | [], _ => rfl
  | x :: xs, s => by
    rw [List.foldl_cons, foldB_row xs, upB_row]
    rfl
theorem passB_row (xs : List (Tr × D)) (s : Bs) : (passB xs s).row = pass (xs.map fun x => toEd x.1) s.row := foldB_row xs _
theorem foldB_ch {n : Nat} : ∀ (xs : List (Tr × D)) (s : Bs), (∀ x ∈ xs, x.1.2.1.toNat < n) → s.row.length = n → ((xs.foldl upB s).ch = none ↔ s.ch = none ∧ pass (xs.map fun x => toEd x.1) s.row = s.row)
  | [], s, _, _ => by simp [pass]
  | x :: xs, s, hr, hl => by
    have hr' := fun y hy => hr y (List.mem_cons_of_mem x hy)
    have hx : x.1.2.1.toNat < s.row.length := by rw [hl]; exact hr x List.mem_cons_self
    rw [List.foldl_cons, foldB_ch xs (upB s x) hr' (by rw [upB_row, relax_len, hl]), upB_row]
    show _ ↔ _ ∧ pass (xs.map fun x => toEd x.1) (relax s.row (toEd x.1)) = s.row
    by_cases hc : gx s.row x.1.2.1.toNat < gx s.row x.1.1.toNat + x.1.2.2
    · have e1 : (upB s x).ch = some x.1.2.1 := by unfold upB; rw [if_pos hc]
      rw [e1]
      refine ⟨fun z => (by cases z.1), fun z => ?_⟩
      have a1 := pass_ge (xs.map fun x => toEd x.1) (relax s.row (toEd x.1)) x.1.2.1.toNat
      rw [z.2] at a1
      unfold relax toEd at a1
      rw [if_pos hc, gx_set, if_pos ⟨rfl, hx⟩] at a1
      simp only at a1
      omega
    · have e1 : upB s x = s := by unfold upB; rw [if_neg hc]
      have e2 : relax s.row (toEd x.1) = s.row := by
        unfold relax toEd
        rw [if_neg hc]
      rw [e1, e2]
theorem passB_ch {n : Nat} {xs : List (Tr × D)} {s : Bs} (hr : ∀ x ∈ xs, x.1.2.1.toNat < n) (hl : s.row.length = n) : (passB xs s).ch = none ↔ pass (xs.map fun x => toEd x.1) s.row = s.row := by
  unfold passB
  rw [foldB_ch (n := n) xs { s with ch := none } hr hl]
  simp
/-- the dict's keys are whole numbers -/
def KeyI (es : List (D × D)) : Prop := ∀ p ∈ es, ∃ i, p.1 = .int i
theorem dictOf_int {es : List (D × D)} (h : KeyI es) : dictOf (.dict es) = some (false, es) := by
  cases es with
  | nil => rfl
  | cons p es =>
    obtain ⟨i, hi⟩ := h p List.mem_cons_self
    obtain ⟨k, v⟩ := p
    simp only at hi
    subst hi
    rfl
theorem putD_key {es : List (D × D)} {i : Int} {v : D} (h : KeyI es) : KeyI (putD (.int i) v es) := by
  unfold putD
  split
  · intro p hp
    obtain ⟨q, hq, rfl⟩ := List.mem_map.mp hp
    split
    · exact h q hq
    · exact h q hq
  · intro p hp
    rcases List.mem_append.mp hp with hp | hp
    · exact h p hp
    · simp at hp
      exact ⟨i, by rw [hp]⟩
theorem putD_len {es : List (D × D)} {k v : D} : (putD k v es).length ≤ es.length + 1 := by
  unfold putD
  split
  · rw [List.length_map]; omega
  · simp
theorem pPut_int {es : List (D × D)} {i : Int} {v : D} (h : KeyI es) (hl : es.length < sizeLine) : pPut (.dict es) (.int i) v = some (.dict (putD (.int i) v es)) := by
  unfold pPut
  rw [dictOf_int h]
  show (if es.length < sizeLine then _ else _) = _
  rw [if_pos hl]
  rfl
theorem upB_key {s : Bs} {x : Tr × D} (h : KeyI s.by_) : KeyI (upB s x).by_ := by
  unfold upB
  split
  · exact putD_key h
  · exact h
theorem upB_blen (s : Bs) (x : Tr × D) : (upB s x).by_.length ≤ s.by_.length + 1 := by
  unfold upB
  split
  · exact putD_len
  · omega
theorem ixN_ok {n : Nat} {j : Int} (h0 : 0 ≤ j) (h : j < n) : L2.ixN n j = some j.toNat := by
  unfold L2.ixN
  rw [if_pos (by omega), if_pos (by omega)]
theorem set_map {xs : List Int} {k : Nat} {a : Int} : (xs.map PyData.int).set k (.int a) = (xs.set k a).map .int := by rw [List.map_set]
theorem gx_at {x : List Int} {i : Int} (h0 : 0 ≤ i) (h : i < x.length) : L2.atI (x.map PyData.int) i = some (.int (gx x i.toNat)) := atI_ints' h0 h
/-- pass after pass -/
def runS (xs : List (Tr × D)) : Nat → Bs → Option (List Int) × Bs
  | 0, s => (none, s)
  | k + 1, s => if (passB xs s).ch = none then (some (passB xs s).row, passB xs s) else runS xs k (passB xs s)
theorem runS_B {n : Nat} {xs : List (Tr × D)} (hr : ∀ x ∈ xs, x.1.2.1.toNat < n) : ∀ (k : Nat) (s : Bs), s.row.length = n → (runS xs k s).1 = runB (xs.map fun x => toEd x.1) k s.row
  | 0, _, _ => rfl
  | k + 1, s, hl => by
    unfold runS runB
    have h1 := passB_ch hr hl
    by_cases e : (passB xs s).ch = none
    · rw [if_pos e, if_pos (h1.mp e)]
      show some (passB xs s).row = _
      rw [passB_row, h1.mp e]
    · rw [if_neg e, if_neg fun z => e (h1.mpr z), runS_B hr k _ (by rw [passB_row, pass_len, hl]), passB_row]
def rowO : Option (List Int) → D
  | none => .none
  | some L => .tuple (L.map .int)
def resB (r : Option (List Int) × Bs) : D := .tuple [rowO r.1, chD r.2.ch, .dict r.2.by_]
def enumT (ts : List Tr) : List (Tr × D) := (List.range ts.length).zip ts |>.map fun p => (p.2, .int p.1)
theorem enum_map {ts : List Tr} : (enumT ts).map (·.1) = ts := by
  unfold enumT
  rw [List.map_map]
  show ((List.range ts.length).zip ts).map (fun p => p.2) = ts
  rw [List.map_snd_zip (by simp)]
theorem enum_item {ts : List Tr} : ((List.range ts.length).zip (ts.map tripD)).map (fun p => PyData.tuple [.int (p.1 : Nat), p.2]) = (enumT ts).map fun x => .tuple [x.2, tripD x.1] := by
  unfold enumT
  rw [List.map_map, List.zip_map_right, List.map_map]
  rfl
def startB (n : Int) : Bs := ⟨zeros n.toNat, [], none⟩
theorem steps_rg {n st : Int} {ps : List (Int × Int)} (hp : ∀ p ∈ ps, (0 ≤ p.1 ∧ p.1 < n) ∧ (0 ≤ p.2 ∧ p.2 < n)) : ∀ t ∈ stepsL n ps st, (0 ≤ t.1 ∧ t.1 < n) ∧ (0 ≤ t.2.1 ∧ t.2.1 < n) := by
  intro t ht
  unfold stepsL at ht
  obtain ⟨i, hi, ht⟩ := List.mem_flatMap.mp ht
  obtain ⟨j, hj, ht⟩ := List.mem_flatMap.mp ht
  rw [mem_upTo] at hi hj
  unfold stepCell at ht
  split at ht
  · simp at ht
    rw [ht]
    exact ⟨hi, hj⟩
  · split at ht
    · simp at ht
      rw [ht]
      exact ⟨hj, hi⟩
    · cases ht
theorem steps_len {n st : Int} {ps : List (Int × Int)} (h8 : n ≤ 8) : (stepsL n ps st).length ≤ 64 := by
  have hul := upTo_len h8
  have h1 : ∀ i ∈ upTo n, ((upTo n).flatMap fun j => stepCell ps st i j).length ≤ 8 := fun i _ => by
    have := flat_le (fun j => stepCell ps st i j) 1 (upTo n) fun j _ => cell_len ps st i j
    omega
  have := flat_le _ 8 (upTo n) h1
  unfold stepsL
  omega
theorem zeros_mul {n : Int} (h0 : 0 ≤ n) (h8 : n ≤ 8) : pMul [.list [.int 0], .int n] = some (.list ((zeros n.toNat).map .int)) := by
  have hz := sizeLine_eq
  have : (List.replicate n.toNat [PyData.int 0]).flatten = (zeros n.toNat).map .int := by
    unfold zeros
    generalize n.toNat = k
    induction k with
    | zero => rfl
    | succ k ih => rw [List.replicate_succ, List.flatten_cons, ih, List.replicate_succ]; rfl
  rw [← this]
  exact if_pos ⟨by omega, by omega, by simp; omega⟩
def bodyT : List S := [.asg 6 (.cst .none),
    .for_ [1000000, 7, 8, 9, 10] false (.enum (.imm (.var 4))) [7, 8, 9, 10]
    [.ite (.op .gt [.imm (.op .add [.imm (.op .idx [.own 2, .imm (.var 8)]), .imm (.var 10)]), .imm (.op .idx [.own 2, .imm (.var 9)])])
    [.setI 2 (.var 9) (.op .add [.imm (.op .idx [.own 2, .imm (.var 8)]), .imm (.var 10)]),
    .setD 3 (.var 9) (.var 7),
    .asg 6 (.var 9)]
    []],
    .ite (.op .isN [.imm (.var 6)])
    [.ret (.tup [.imm (.op .tuple [.own 2]), .imm (.cst .none), .imm (.move 3)])]
    []]
theorem least_by_ok {n st : Int} {ps : List (Int × Int)} (h1 : 1 ≤ n) (h8 : n ≤ 8) (hp : ∀ p ∈ ps, (0 ≤ p.1 ∧ p.1 < n) ∧ (0 ≤ p.2 ∧ p.2 < n)) :
    f_least_by [ordD n ps, .int st] = .ok (resB (runS (enumT (stepsL n ps st)) (n.toNat + 1) (startB n))) [] := by
  have hz := sizeLine_eq
  have h3z := three_le
  have hrg := steps_rg (st := st) hp
  have hlen := steps_len (st := st) (ps := ps) h8
  generalize hT : stepsL n ps st = T at *
  have eS : f_steps_of [ordD n ps, .int st] = .ok (.list (T.map tripD)) [] := by rw [← hT]; exact steps_ok (by omega) h8
  have hrgE : ∀ x ∈ enumT T, (0 ≤ x.1.1 ∧ x.1.1 < n) ∧ (0 ≤ x.1.2.1 ∧ x.1.2.1 < n) := fun x hx => hrg x.1 (by rw [← enum_map (ts := T)]; exact List.mem_map_of_mem hx)
  have hEl : (enumT T).length ≤ 64 := by
    have := congrArg List.length (enum_map (ts := T))
    rw [List.length_map] at this
    omega
  have hr : itRng [.int (n + 1)] = some ((upTo (n + 1)).map .int) := rng_upTo (by omega) (by omega)
  have hul : (upTo (n + 1)).length = n.toNat + 1 := by have := upTo_lenI (n := n + 1) (by omega); omega
  have hen : itEnum [.list (T.map tripD)] = some ((enumT T).map fun x => .tuple [x.2, tripD x.1]) := by
    show some _ = _
    rw [List.length_map, enum_item]
  simp only [f_least_by, evDef_eq, d_least_by]
  simp [show t_least_by.G.fn 0 = some ([false, false], f_steps_of) from rfl, show 1 ≤ sizeLine by omega, ord0, zeros_mul (show 0 ≤ n by omega) h8, callW_0 eS, emptyD, hr]
  let Ev : Sl → Bs → En := fun c s => [.im (ordD n ps), .im (.int st), .mu (.list (s.row.map .int)), .mu (.dict s.by_), .im (.list (T.map tripD)), .no, c, .no, .no, .no, .no]
  -- the states: with the slot of changed
  let E : Bs × Sl → En := fun q => Ev q.2 q.1
  let step : Bs × Sl → Bs × Sl := fun q => (passB (enumT T) q.1, .im (chD (passB (enumT T) q.1).ch))
  let stop : Bs × Sl → Bool := fun q => decide ((passB (enumT T) q.1).ch = none)
  let I : Nat → Bs × Sl → Prop := fun k q => q.1.row.length = n.toNat ∧ KeyI q.1.by_ ∧ q.1.by_.length ≤ 64 * k ∧ (0 < k → q.2 = .im (chD q.1.ch))
  have hturn : ∀ (j : Nat) (x : Int), (upTo (n + 1))[j]? = some x → ∀ q : Bs × Sl, I (0 + j) q → if stop q = true then ∃ e, bodyR t_least_by.G [5] true bodyT (.int x) (E q) = .ret (resB (some (passB (enumT T) q.1).row, passB (enumT T) q.1)) e else
      nxIs (bodyR t_least_by.G [5] true bodyT (.int x) (E q)) fun e => killE e [5, 7, 8, 9, 10] = E (step q) ∧ I (0 + j + 1) (step q) := by
    intro j x hx q hI
    have hj : j < (upTo (n + 1)).length := (List.getElem?_eq_some_iff.mp hx).1
    obtain ⟨hI1, hI2, hI3, _⟩ := hI
    obtain ⟨s, c⟩ := q
    simp only at hI1 hI2 hI3
    rw [Nat.zero_add] at hI3
    -- the inner turns
    have inner : forL t_least_by.G [1000000, 7, 8, 9, 10] false [7, 8, 9, 10] [.ite (.op .gt [.imm (.op .add [.imm (.op .idx [.own 2, .imm (.var 8)]), .imm (.var 10)]), .imm (.op .idx [.own 2, .imm (.var 9)])])
        [.setI 2 (.var 9) (.op .add [.imm (.op .idx [.own 2, .imm (.var 8)]), .imm (.var 10)]), .setD 3 (.var 9) (.var 7), .asg 6 (.var 9)] []] ((enumT T).map fun x => .tuple [x.2, tripD x.1])
        [.im (ordD n ps), .im (.int st), .mu (.list (s.row.map .int)), .mu (.dict s.by_), .im (.list (T.map tripD)), .im (.int x), .im .none, .no, .no, .no, .no] =
        .nx [.im (ordD n ps), .im (.int st), .mu (.list ((passB (enumT T) s).row.map .int)), .mu (.dict (passB (enumT T) s).by_), .im (.list (T.map tripD)), .im (.int x), .im (chD (passB (enumT T) s).ch), .no, .no, .no, .no] ∧
        (passB (enumT T) s).row.length = n.toNat ∧ KeyI (passB (enumT T) s).by_ ∧ (passB (enumT T) s).by_.length ≤ 64 * j + 64 := by
      have key := forL_foldI (G := t_least_by.G) (tg := [1000000, 7, 8, 9, 10]) (one := false) (kill := [7, 8, 9, 10]) (body := [.ite (.op .gt [.imm (.op .add [.imm (.op .idx [.own 2, .imm (.var 8)]), .imm (.var 10)]), .imm (.op .idx [.own 2, .imm (.var 9)])])
        [.setI 2 (.var 9) (.op .add [.imm (.op .idx [.own 2, .imm (.var 8)]), .imm (.var 10)]), .setD 3 (.var 9) (.var 7), .asg 6 (.var 9)] []]) (fun x : Tr × D => PyData.tuple [x.2, tripD x.1])
        (fun s : Bs => [.im (ordD n ps), .im (.int st), .mu (.list (s.row.map .int)), .mu (.dict s.by_), .im (.list (T.map tripD)), .im (.int x), .im (chD s.ch), .no, .no, .no, .no]) upB
        (fun m s => s.row.length = n.toNat ∧ KeyI s.by_ ∧ s.by_.length ≤ 64 * j + m) (xs := enumT T) 0 { s with ch := none } ⟨hI1, hI2, by simpa using hI3⟩ (fun m y hy s hs => ?_)
      · obtain ⟨k1, k2, k3, k4⟩ := key
        refine ⟨k1, k2, k3, ?_⟩
        have : (passB (enumT T) s).by_.length ≤ 64 * j + (0 + (enumT T).length) := k4
        omega
      · have hy2 := hrgE y (List.mem_of_getElem? hy)
        have hm : m < (enumT T).length := (List.getElem?_eq_some_iff.mp hy).1
        obtain ⟨⟨⟨one, other, more⟩, pl⟩, rfl⟩ : ∃ z : Tr × D, z = y := ⟨y, rfl⟩
        obtain ⟨hs1, hs2, hs3⟩ := hs
        simp only at hy2
        have a1 := gx_at (x := s.row) hy2.1.1 (by omega)
        have a2 := gx_at (x := s.row) hy2.2.1 (by omega)
        have a3 := ixN_ok (n := s.row.length) hy2.2.1 (by omega)
        have a4 := pPut_int (i := other) (v := pl) hs2 (by omega)
        simp [bodyR, tgE, tgN, tripD, a1, a2]
        by_cases hc : gx s.row other.toNat < gx s.row one.toNat + more
        · have e : upB s ((one, other, more), pl) = ⟨s.row.set other.toNat (gx s.row one.toNat + more), putD (.int other) pl s.by_, some other⟩ := by
            unfold upB
            rw [if_pos hc]
          simp [hc, a3, e, putR, a4, chD]
          exact ⟨hs1, putD_key hs2, by have := putD_len (es := s.by_) (k := .int other) (v := pl); omega⟩
        · have e : upB s ((one, other, more), pl) = s := by
            unfold upB
            rw [if_neg hc]
          simp [hc, e]
          exact ⟨hs1, hs2, by omega⟩
    obtain ⟨i1, i2, i3, i4⟩ := inner
    by_cases hc : (passB (enumT T) s).ch = none
    · rw [if_pos (show stop (s, c) = true from decide_eq_true hc)]
      simp [bodyT, bodyR, tgE, E, Ev, hen, i1, hc, chD, h3z, resB, rowO]
    · rw [if_neg (show ¬ stop (s, c) = true from fun z => hc (of_decide_eq_true z))]
      have hnn : isNone (chD (passB (enumT T) s).ch) = false := by
        cases h : (passB (enumT T) s).ch with
        | none => exact absurd h hc
        | some i => rfl
      simp [bodyT, bodyR, tgE, E, Ev, hen, i1, hnn, step, I]
      exact ⟨i2, i3, by omega⟩
  have fin := forL_turns (G := t_least_by.G) (tg := [5]) (one := true) (kill := [5, 7, 8, 9, 10]) (body := bodyT) PyData.int E step stop (fun q => resB (some (passB (enumT T) q.1).row, passB (enumT T) q.1)) I (upTo (n + 1)) 0 (startB n, .no) ⟨by simp [startB, zeros], fun p hp => (by cases hp), by simp [startB], fun z => absurd z (Nat.lt_irrefl 0)⟩ hturn
  rw [hul] at fin
  have key : ∀ (k : Nat) (q : Bs × Sl), runS (enumT T) k q.1 = match turnsF step stop k q with
      | .inl q' => (some (passB (enumT T) q'.1).row, passB (enumT T) q'.1)
      | .inr q' => (none, q'.1) := by
    intro k
    induction k with
    | zero => intro q; rfl
    | succ k ih =>
      intro q
      unfold runS turnsF
      by_cases hc : (passB (enumT T) q.1).ch = none
      · rw [if_pos hc, if_pos (show stop q = true from decide_eq_true hc)]
      · rw [if_neg hc, if_neg (show ¬ stop q = true from fun z => hc (of_decide_eq_true z))]
        exact ih (step q)
  have k0 := key (n.toNat + 1) (startB n, .no)
  cases ht : turnsF step stop (n.toNat + 1) (startB n, .no) with
  | inl q =>
    rw [ht] at fin k0
    obtain ⟨e, fin⟩ := fin
    have fin' : forL t_least_by.G [5] true [5, 7, 8, 9, 10] bodyT ((upTo (n + 1)).map .int) [.im (ordD n ps), .im (.int st), .mu (.list ((zeros n.toNat).map .int)), .mu (.dict []), .im (.list (T.map tripD)), .no, .no, .no, .no, .no, .no] = _ := fin
    simp only [bodyT] at fin'
    rw [fin']
    simp only at k0
    rw [k0]
    simp
  | inr q =>
    rw [ht] at fin k0
    obtain ⟨fin, hI⟩ := fin
    have fin' : forL t_least_by.G [5] true [5, 7, 8, 9, 10] bodyT ((upTo (n + 1)).map .int) [.im (ordD n ps), .im (.int st), .mu (.list ((zeros n.toNat).map .int)), .mu (.dict []), .im (.list (T.map tripD)), .no, .no, .no, .no, .no, .no] = _ := fin
    simp only [bodyT] at fin'
    rw [fin']
    simp only at k0
    rw [k0]
    have hq : q.2 = .im (chD q.1.ch) := hI.2.2.2 (by omega)
    simp [E, Ev, hq, h3z, resB, rowO]
end Nv

set_option linter.all false
set_option maxRecDepth 100000
namespace Nv
open PySem
/-! ### numbers behind an order: what the program's defs tell -/
theorem whileQ_t {G : Gam} {c : E} {kill : List Nat} {body : List S} {f : Nat} {env env1 env2 : En} (h1 : ev G c env = .ok (.bool true) env1) (h2 : exs G body env1 = .nx env2) : whileL G c kill body (f + 1) env = whileL G c kill body f (killE env2 kill) := by
  unfold whileL
  simp only [whileR, h1, h2]
theorem whileQ_f {G : Gam} {c : E} {kill : List Nat} {body : List S} {f : Nat} {env env1 : En} (h1 : ev G c env = .ok (.bool false) env1) : whileL G c kill body (f + 1) env = .nx (killE env1 kill) := by
  unfold whileL
  simp only [whileR, h1]
def edg (n : Int) (ps : List (Int × Int)) (st : Int) : List Ed := (stepsL n ps st).map toEd
theorem edg_rg {n st : Int} {ps : List (Int × Int)} (hp : ∀ p ∈ ps, (0 ≤ p.1 ∧ p.1 < n) ∧ (0 ≤ p.2 ∧ p.2 < n)) : Rg n.toNat (edg n ps st) := by
  intro e he
  unfold edg at he
  obtain ⟨t, ht, rfl⟩ := List.mem_map.mp he
  have := steps_rg hp t ht
  unfold toEd
  simp only
  omega
theorem IsOrd.rg {n : Int} {ps : List (Int × Int)} (h : IsOrd n ps) : ∀ p ∈ ps, (0 ≤ p.1 ∧ p.1 < n) ∧ (0 ≤ p.2 ∧ p.2 < n) := fun p hp => ⟨(h.ok p hp).1, (h.ok p hp).2.1⟩
theorem mem_steps {n st : Int} {ps : List (Int × Int)} {t : Tr} : t ∈ stepsL n ps st ↔ ∃ i j, (0 ≤ i ∧ i < n) ∧ (0 ≤ j ∧ j < n) ∧ (((i, j) ∈ ps ∧ t = (i, j, st)) ∨ ((i, j) ∉ ps ∧ i ≠ j ∧ t = (j, i, 1 - st))) := by
  unfold stepsL
  simp only [List.mem_flatMap, mem_upTo]
  constructor
  · rintro ⟨i, hi, j, hj, h⟩
    refine ⟨i, j, hi, hj, ?_⟩
    unfold stepCell at h
    split at h
    · rename_i e
      simp at h
      exact .inl ⟨e, h⟩
    · rename_i e
      split at h
      · rename_i e2
        simp at h
        exact .inr ⟨e, e2, h⟩
      · cases h
  · rintro ⟨i, j, hi, hj, h⟩
    refine ⟨i, hi, j, hj, ?_⟩
    unfold stepCell
    rcases h with ⟨h1, rfl⟩ | ⟨h1, h2, rfl⟩
    · rw [if_pos h1]
      simp
    · rw [if_neg h1, if_pos h2]
      simp
/-- numbers tell an order by a threshold -/
def Tells (n : Int) (ps : List (Int × Int)) (st : Int) (x : List Int) : Prop := ∀ i j : Int, 0 ≤ i → i < n → 0 ≤ j → j < n → ((i, j) ∈ ps ↔ gx x i.toNat + st ≤ gx x j.toNat)
theorem sol_tells {n st : Int} {ps : List (Int × Int)} {x : List Int} (hs : 1 ≤ st) (irr : ∀ p ∈ ps, p.1 ≠ p.2) : Sol (edg n ps st) x ↔ Tells n ps st x := by
  constructor
  · intro s i j i0 i1 j0 j1
    constructor
    · intro h
      exact s (toEd (i, j, st)) (List.mem_map_of_mem (mem_steps.mpr ⟨i, j, ⟨i0, i1⟩, ⟨j0, j1⟩, .inl ⟨h, rfl⟩⟩))
    · intro h
      apply Classical.byContradiction
      intro hn
      by_cases e : i = j
      · subst e
        omega
      · have := s (toEd (j, i, 1 - st)) (List.mem_map_of_mem (mem_steps.mpr ⟨i, j, ⟨i0, i1⟩, ⟨j0, j1⟩, .inr ⟨hn, e, rfl⟩⟩))
        unfold toEd at this
        simp only at this
        omega
  · intro h e he
    obtain ⟨t, ht, rfl⟩ := List.mem_map.mp he
    obtain ⟨i, j, hi, hj, ⟨h1, rfl⟩ | ⟨h1, h2, rfl⟩⟩ := mem_steps.mp ht
    · exact (h i j hi.1 hi.2 hj.1 hj.2).mp h1
    · have := mt (h i j hi.1 hi.2 hj.1 hj.2).mpr h1
      unfold toEd
      simp only
      omega
theorem tells_free {n st : Int} {ps : List (Int × Int)} {x : List Int} (h : ∀ p ∈ ps, (0 ≤ p.1 ∧ p.1 < n) ∧ (0 ≤ p.2 ∧ p.2 < n)) (hw : ps.Pairwise lexLt) : freeAll x n st = ps ↔ Tells n ps st x := by
  constructor
  · intro e i j i0 i1 j0 j1
    rw [← e, mem_free]
    unfold gx
    constructor
    · intro h
      have := h.2.2
      simp only at this
      omega
    · intro h
      exact ⟨⟨i0, i1⟩, ⟨j0, j1⟩, by simp only; omega⟩
  · intro t
    refine pw_ext (free_pw _ _ _) hw fun p => ?_
    rw [mem_free]
    constructor
    · rintro ⟨a, b, c⟩
      refine (t p.1 p.2 a.1 a.2 b.1 b.2).mpr ?_
      unfold gx
      omega
    · intro hp
      have := h p hp
      have t := (t p.1 p.2 this.1.1 this.1.2 this.2.1 this.2.2).mp hp
      unfold gx at t
      exact ⟨this.1, this.2, by omega⟩
/-! the defs -/
theorem step_ok {st : Int} (h1 : 1 ≤ st) (h2 : st ≤ 999) : f_need_step [.int st] = .ok .none [] := by
  have g0 : t_need_step.G.gl 0 = some (.int 999) := rfl
  have f0 : t_need_step.G.fn 0 = some ([false, false, false], f_is_whole) := rfl
  simp only [f_need_step, evDef_eq, d_need_step]
  simp [f0, g0, callW_0 (whole_int _ _ _), h1, h2]
theorem order_by_ok {st : Int} {x : List Int} (h8 : x.length ≤ 8) : f_order_by [.int st, .tuple (x.map .int)] = .ok (ordD x.length (freeAll x x.length st)) [] := by
  have hz := sizeLine_eq
  have h2z := two_le
  generalize hn : (x.length : Int) = n
  have hr : itRng [.int n] = some ((upTo n).map .int) := rng_upTo (by omega) (by omega)
  have hul := upTo_len (n := n) (by omega)
  simp only [f_order_by, evDef_eq, d_order_by]
  simp [hn, hr]
  rw [forL_rwE PyData.int (fun s : List (Int × Int) => [.im (.int st), .im (.tuple (x.map .int)), .mu (.list (s.map pairD)), .no, .no]) (fun s i => s ++ freeRow x n st i) (fun k s => s.length ≤ 8 * k) [] (by simp) ?_ ?_]
  · rw [foldl_app, List.nil_append]
    simp [show (upTo n).flatMap (freeRow x n st) = freeAll x n st from rfl, h2z, ordD, hn]
  · rfl
  · intro k i hi s hs
    have him : i ∈ upTo n := List.mem_of_getElem? hi
    have hk : k < (upTo n).length := (List.getElem?_eq_some_iff.mp hi).1
    have hfl : (freeRow x n st i).length ≤ 8 := by
      unfold freeRow
      rw [List.length_map]
      exact Nat.le_trans (List.length_filter_le _ _) hul
    rw [mem_upTo] at him
    simp [bodyR, tgE, hn, hr]
    rw [lcR_filter PyData.int (fun j => decide (x.getD j.toNat 0 - x.getD i.toNat 0 ≥ st)) (fun j => pairD (i, j)) ?_ rfl]
    · have e : ((upTo n).filter fun j => decide (x.getD j.toNat 0 - x.getD i.toNat 0 ≥ st)).map (fun j => pairD (i, j)) = (freeRow x n st i).map pairD := by
        unfold freeRow
        rw [List.map_map]
        rfl
      have hsz : s.length + (freeRow x n st i).length ≤ sizeLine := by omega
      rw [e]
      simp [hsz]
      omega
    · intro j hj
      rw [mem_upTo] at hj
      have a1 := atI_ints' (ns := x) (i := j) (by omega) (by omega)
      have a2 := atI_ints' (ns := x) (i := i) (by omega) (by omega)
      simp [lcB, tgE, a1, a2, h2z, pairD]
      by_cases e : st ≤ x[j.toNat]?.getD 0 - x[i.toNat]?.getD 0
      · simp [e, h2z]
      · simp [e, h2z]
/-- numbers as they are asked for -/
structure Nums (x : List Int) : Prop where
  lo : 1 ≤ x.length
  hi : x.length ≤ 8
  ok : ∀ a ∈ x, 0 ≤ a ∧ a ≤ 9999
theorem are_ok {x : List Int} (h : Nums x) : f_are_numbers [.tuple (x.map .int)] = .ok (.bool true) [] := by
  have g0 : t_are_numbers.G.gl 0 = some (.int 8) := rfl
  have g1 : t_are_numbers.G.gl 1 = some (.int 9999) := rfl
  have f0 : t_are_numbers.G.fn 0 = some ([false, false, false], f_is_whole) := rfl
  have h1 := h.lo
  have h2 := h.hi
  have h1' : 1 ≤ (x.length : Int) := by omega
  have h2' : (x.length : Int) ≤ 8 := by omega
  simp only [f_are_numbers, evDef_eq, d_are_numbers]
  simp [g0, h1', h2']
  rw [lcR_map PyData.int (fun _ => .bool true) ?_ rfl]
  · have hb : boolsD (x.map fun _ => PyData.bool true) = some (x.map fun _ => true) := boolsD_map_bool (fun _ => true) x
    simp [hb]
  · intro a ha
    have := h.ok a ha
    simp [lcB, tgE, f0, g1, callW_0 (whole_int _ _ _), this.1, this.2]
theorem eqOrd2 {n m : Int} {ps qs : List (Int × Int)} : pEq [ordD n ps, ordD m qs] = some (.bool (decide (n = m ∧ ps = qs))) :=
  pEq_pl (n := 3) (m := 3) (pl_tuple (n := 2) fun x hx => by
    simp at hx
    rcases hx with rfl | rfl
    · rfl
    · exact pl_tuple (pl_pairs ps)) (pl_tuple (n := 2) fun x hx => by
    simp at hx
    rcases hx with rfl | rfl
    · rfl
    · exact pl_tuple (pl_pairs qs)) (by decide) (by decide) (by
    rw [decide_eq_true_eq]
    unfold ordD
    simp only [PyData.tuple.injEq, List.cons.injEq, PyData.int.injEq, and_true]
    rw [pairs_inj])
theorem fits_ok {n st : Int} {ps : List (Int × Int)} {x : List Int} (h : IsOrd n ps) (h1 : 1 ≤ st) (h2 : st ≤ 999) (hx : Nums x) (hl : (x.length : Int) = n) : f_fits [ordD n ps, .int st, .tuple (x.map .int)] = .ok (.bool (decide (freeAll x n st = ps))) [] := by
  have f0 : t_fits.G.fn 0 = some ([false], f_need_order) := rfl
  have f1 : t_fits.G.fn 1 = some ([false], f_need_step) := rfl
  have f2 : t_fits.G.fn 2 = some ([false], f_are_numbers) := rfl
  have f3 : t_fits.G.fn 3 = some ([false, false], f_order_by) := rfl
  have e := order_by_ok (st := st) (x := x) hx.hi
  rw [hl] at e
  simp only [f_fits, evDef_eq, d_fits]
  simp [f0, f1, f2, f3, callW_0 (need_order_ok h), callW_0 (step_ok h1 h2), callW_0 (are_ok hx), hl, ord0, callW_0 e, eqOrd2]
theorem numbers_ok {n st : Int} {ps : List (Int × Int)} (h : IsOrd n ps) (h1 : 1 ≤ st) (h2 : st ≤ 999) : f_numbers [ordD n ps, .int st] = .ok (rowO (leastB n.toNat (edg n ps st))) [] := by
  have hlo := h.lo
  have f0 : t_numbers.G.fn 0 = some ([false], f_need_order) := rfl
  have f1 : t_numbers.G.fn 1 = some ([false], f_need_step) := rfl
  have f2 : t_numbers.G.fn 2 = some ([false, false], f_least_by) := rfl
  have e := least_by_ok (st := st) h.lo h.hi h.rg
  have er : (runS (enumT (stepsL n ps st)) (n.toNat + 1) (startB n)).1 = leastB n.toNat (edg n ps st) := by
    rw [runS_B (n := n.toNat) (fun x hx => by
      have := steps_rg (st := st) h.rg x.1 (by rw [← enum_map (ts := stepsL n ps st)]; exact List.mem_map_of_mem hx)
      omega) _ _ (by simp [startB, zeros])]
    unfold leastB edg startB
    congr 1
    rw [← enum_map (ts := stepsL n ps st), List.map_map, enum_map]
    rfl
  simp only [f_numbers, evDef_eq, d_numbers]
  simp [f0, f1, f2, callW_0 (need_order_ok h), callW_0 (step_ok h1 h2), callW_0 e, resB, er]
/-! the least numbers tell it -/
theorem gx_mem {x : List Int} {i : Nat} (h : i < x.length) : gx x i ∈ x := by
  unfold gx
  rw [List.getD_eq_getElem?_getD, List.getElem?_eq_getElem h]
  exact List.getElem_mem h
theorem mem_gx {x : List Int} {a : Int} (h : a ∈ x) : ∃ i, i < x.length ∧ a = gx x i := by
  obtain ⟨i, hi, e⟩ := List.getElem_of_mem h
  refine ⟨i, hi, ?_⟩
  unfold gx
  rw [List.getD_eq_getElem?_getD, List.getElem?_eq_getElem hi, e]
  rfl
theorem pos_iff {x : List Int} : Pos x ↔ ∀ a ∈ x, 0 ≤ a := by
  constructor
  · intro h a ha
    obtain ⟨i, _, rfl⟩ := mem_gx ha
    exact h i
  · intro h i
    by_cases hi : i < x.length
    · exact h _ (gx_mem hi)
    · rw [gx_big (by omega)]
      exact Int.le_refl _
theorem least_nums {n st : Int} {ps : List (Int × Int)} {L : List Int} (h : IsOrd n ps) (h1 : 1 ≤ st) (h2 : st ≤ 999) (e : leastB n.toNat (edg n ps st) = some L) : Nums L ∧ (L.length : Int) = n ∧ freeAll L n st = ps ∧ Mini n.toNat (edg n ps st) L := by
  have hlo := h.lo
  have hhi := h.hi
  have m := least_mini (edg_rg h.rg) e
  have hb := mini_bound m (edg_rg h.rg) (W := st) (by omega) fun e he => by
    obtain ⟨t, ht, rfl⟩ := List.mem_map.mp he
    obtain ⟨i, j, hi, hj, ⟨_, rfl⟩ | ⟨_, _, rfl⟩⟩ := mem_steps.mp ht
    · exact Int.le_refl _
    · unfold toEd
      simp only
      omega
  have hl : (L.length : Int) = n := by rw [m.len]; omega
  refine ⟨⟨by omega, by omega, fun a ha => ?_⟩, hl, (tells_free h.rg h.pw).mpr ((sol_tells h1 fun p hp => (h.ok p hp).2.2).mp m.sol), m⟩
  obtain ⟨i, hi, rfl⟩ := mem_gx ha
  refine ⟨m.pos i, Int.le_trans (hb i) ?_⟩
  have a1 : ((n.toNat - 1 : Nat) : Int) * st ≤ 7 * st := Int.mul_le_mul_of_nonneg_right (by omega) (by omega)
  omega
/-- the numbers behind it are numbers of the next threshold, too -/
theorem sol_next {n st : Int} {ps : List (Int × Int)} {x : List Int} (h1 : 1 ≤ st) (irr : ∀ p ∈ ps, p.1 ≠ p.2) (hl : (x.length : Int) = n) (hp : Pos x) (s : Sol (edg n ps st) x) : ∃ y : List Int, y.length = x.length ∧ Pos y ∧ Sol (edg n ps (st + 1)) y := by
  refine ⟨x.map fun a => a + a / st, by simp, pos_iff.mpr fun a ha => ?_, (sol_tells (by omega) irr).mpr ?_⟩
  · obtain ⟨b, hb, rfl⟩ := List.mem_map.mp ha
    have h0 := pos_iff.mp hp b hb
    have := Int.ediv_nonneg h0 (show 0 ≤ st by omega)
    omega
  · have t := (sol_tells h1 irr).mp s
    have hg : ∀ i : Int, 0 ≤ i → i < n → gx (x.map fun a => a + a / st) i.toNat = gx x i.toNat + gx x i.toNat / st := fun i i0 i1 => by
      unfold gx
      have hi : i.toNat < x.length := by omega
      rw [List.getD_eq_getElem?_getD, List.getD_eq_getElem?_getD, List.getElem?_map, List.getElem?_eq_getElem hi]
      rfl
    intro i j i0 i1 j0 j1
    rw [t i j i0 i1 j0 j1, hg i i0 i1, hg j j0 j1]
    generalize gx x i.toNat = a
    generalize gx x j.toNat = b
    constructor
    · intro h
      have e1 : (a + st) / st = a / st + 1 := by rw [Int.add_ediv_of_dvd_right (Int.dvd_refl st), Int.ediv_self (by omega)]
      have e2 := Int.ediv_le_ediv (show 0 < st by omega) h
      omega
    · intro h
      apply Classical.byContradiction
      intro hn
      have hb : b ≤ a + st - 1 := by omega
      have e1 : (a + st) / st = a / st + 1 := by rw [Int.add_ediv_of_dvd_right (Int.dvd_refl st), Int.ediv_self (by omega)]
      have e2 := Int.ediv_le_ediv (show 0 < st by omega) (show b ≤ a + st by omega)
      omega
end Nv

set_option linter.all false
set_option maxRecDepth 100000
namespace Nv
open PySem
/-- round_of -/
def d_round_of : Def where
  n := 9
  ps := [false, false]
  body := [
    .drop (.call 0 [.imm (.var 0)]),
    .drop (.call 1 [.imm (.var 1)]),
    .unp [6, 7, 8] (.call 2 [.imm (.var 0), .imm (.var 1)]),
    .ite (.op .notN [.imm (.var 6)])
    [.ret (.cst .none)]
    [],
    .asg 2 (.call 3 [.imm (.var 0), .imm (.var 1)]),
    .for_ [3] true (.rng (.imm (.op .idx [.imm (.var 0), .imm (.cst (.int 0))]))) [3]
    [.asg 7 (.op .idx [.imm (.op .idx [.imm (.var 2), .imm (.dget (.imm (.var 8)) (.var 7))]), .imm (.cst (.int 0))])],
    .asgM 4 (.lst [.imm (.var 7)]),
    .asg 5 (.op .idx [.imm (.op .idx [.imm (.var 2), .imm (.dget (.imm (.var 8)) (.var 7))]), .imm (.cst (.int 0))]),
    .while_ 1000000 (.op .ne [.imm (.var 5), .imm (.var 7)]) []
    [.app 4 (.var 5),
    .asg 5 (.op .idx [.imm (.op .idx [.imm (.var 2), .imm (.dget (.imm (.var 8)) (.var 5))]), .imm (.cst (.int 0))])],
    .ret (.op .rev [.own 4])]
def t_round_of : Tb where
  N := ["order", "step", "some", "turn", "made", "now", "row", "here", "by"]
  fns := [("need_order", [false], f_need_order), ("need_step", [false], f_need_step), ("least_by", [false, false], f_least_by), ("steps_of", [false, false], f_steps_of)]
  gls := []
  exs := []
def f_round_of : Fn := evDef t_round_of.G d_round_of

/-- are_several -/
def d_are_several : Def where
  n := 2
  ps := [false]
  body := [
    .ite (.or (.not (.op .isList [.imm (.var 0)])) (.not (.leLe (.cst (.int 1)) (.op .len [.imm (.var 0)]) (.glob 0))))
    [.ret (.cst (.bool false))]
    [],
    .for_ [1] true (.seq (.imm (.var 0))) []
    [.ite (.or (.not (.op .isTup [.imm (.var 1)])) (.or (.op .ne [.imm (.op .len [.imm (.var 1)]), .imm (.cst (.int 2))]) (.or (.not (.call 0 [.imm (.op .idx [.imm (.var 1), .imm (.cst (.int 0))])])) (.not (.call 1 [.imm (.op .idx [.imm (.var 1), .imm (.cst (.int 1))]), .imm (.cst (.int 1)), .imm (.glob 1)])))))
    [.ret (.cst (.bool false))]
    []],
    .ret (.op .allB [.imm (.lc (.op .eq [.imm (.op .idx [.imm (.op .idx [.imm (.var 1), .imm (.cst (.int 0))]), .imm (.cst (.int 0))]), .imm (.op .idx [.imm (.op .idx [.imm (.op .idx [.imm (.var 0), .imm (.cst (.int 0))]), .imm (.cst (.int 0))]), .imm (.cst (.int 0))])]) [1] true (.seq (.imm (.var 0))) none)])]
def t_are_several : Tb where
  N := ["thing", "part"]
  fns := [("is_order", [false], f_is_order), ("is_whole", [false, false, false], f_is_whole)]
  gls := [("MOST", .int 3), ("STEP", .int 999)]
  exs := []
def f_are_several : Fn := evDef t_are_several.G d_are_several

/-- need_several -/
def d_need_several : Def where
  n := 1
  ps := [false]
  body := [
    .ite (.not (.call 0 [.imm (.var 0)]))
    [.raise 12]
    []]
def t_need_several : Tb where
  N := ["thing"]
  fns := [("are_several", [false], f_are_several)]
  gls := []
  exs := [(12, "NoSeveral")]
def f_need_several : Fn := evDef t_need_several.G d_need_several

/-- least_for -/
def d_least_for : Def where
  n := 12
  ps := [false]
  body := [
    .asg 1 (.op .idx [.imm (.op .idx [.imm (.op .idx [.imm (.var 0), .imm (.cst (.int 0))]), .imm (.cst (.int 0))]), .imm (.cst (.int 0))]),
    .asgM 2 (.op .mul [.imm (.lst [.imm (.cst (.int 0))]), .imm (.var 1)]),
    .newD 3 false,
    .asgM 4 (.lst []),
    .for_ [6, 7] false (.enum (.imm (.var 0))) [6, 7]
    [.ext 4 (.lc (.tup [.imm (.var 9), .imm (.var 10), .imm (.var 11), .imm (.var 6)]) [9, 10, 11] false (.seq (.imm (.call 0 [.imm (.op .idx [.imm (.var 7), .imm (.cst (.int 0))]), .imm (.op .idx [.imm (.var 7), .imm (.cst (.int 1))])]))) none)],
    .for_ [5] true (.rng (.imm (.op .add [.imm (.var 1), .imm (.cst (.int 1))]))) [5, 6, 9, 10, 11]
    [.asg 8 (.cst .none),
    .for_ [9, 10, 11, 6] false (.seq (.imm (.move 4))) [6, 9, 10, 11]
    [.ite (.op .gt [.imm (.op .add [.imm (.op .idx [.own 2, .imm (.var 9)]), .imm (.var 11)]), .imm (.op .idx [.own 2, .imm (.var 10)])])
    [.setI 2 (.var 10) (.op .add [.imm (.op .idx [.own 2, .imm (.var 9)]), .imm (.var 11)]),
    .setD 3 (.var 10) (.tup [.imm (.var 9), .imm (.var 6)]),
    .asg 8 (.var 10)]
    []],
    .ite (.op .isN [.imm (.var 8)])
    [.ret (.tup [.imm (.op .tuple [.own 2]), .imm (.cst .none), .imm (.move 3)])]
    []],
    .ret (.tup [.imm (.cst .none), .imm (.var 8), .imm (.move 3)])]
def t_least_for : Tb where
  N := ["several", "many", "row", "by", "steps", "turn", "place", "part", "changed", "one", "other", "more"]
  fns := [("steps_of", [false, false], f_steps_of)]
  gls := []
  exs := []
def f_least_for : Fn := evDef t_least_for.G d_least_for

/-- numbers_for -/
def d_numbers_for : Def where
  n := 1
  ps := [false]
  body := [
    .drop (.call 0 [.imm (.var 0)]),
    .ret (.op .idx [.imm (.call 1 [.imm (.var 0)]), .imm (.cst (.int 0))])]
def t_numbers_for : Tb where
  N := ["several"]
  fns := [("need_several", [false], f_need_several), ("least_for", [false], f_least_for)]
  gls := []
  exs := []
def f_numbers_for : Fn := evDef t_numbers_for.G d_numbers_for

/-- bar_for -/
def d_bar_for : Def where
  n := 6
  ps := [false]
  body := [
    .drop (.call 0 [.imm (.var 0)]),
    .unp [3, 4, 5] (.call 1 [.imm (.var 0)]),
    .ite (.op .notN [.imm (.var 3)])
    [.ret (.cst .none)]
    [],
    .for_ [1] true (.rng (.imm (.op .idx [.imm (.op .idx [.imm (.op .idx [.imm (.var 0), .imm (.cst (.int 0))]), .imm (.cst (.int 0))]), .imm (.cst (.int 0))]))) [1]
    [.asg 4 (.op .idx [.imm (.dget (.imm (.var 5)) (.var 4)), .imm (.cst (.int 0))])],
    .asgM 2 (.lst [.imm (.dget (.imm (.var 5)) (.var 4))]),
    .while_ 1000000 (.op .ne [.imm (.op .idx [.imm (.op .idx [.own 2, .imm (.op .neg [.imm (.cst (.int 1))])]), .imm (.cst (.int 0))]), .imm (.var 4)]) []
    [.app 2 (.dget (.imm (.var 5)) (.op .idx [.imm (.op .idx [.own 2, .imm (.op .neg [.imm (.cst (.int 1))])]), .imm (.cst (.int 0))]))],
    .ret (.op .rev [.own 2])]
def t_bar_for : Tb where
  N := ["several", "turn", "made", "row", "here", "by"]
  fns := [("need_several", [false], f_need_several), ("least_for", [false], f_least_for)]
  gls := []
  exs := []
def f_bar_for : Fn := evDef t_bar_for.G d_bar_for

/-- _law_told -/
def d_law_told : Def where
  n := 5
  ps := [false, false]
  body := [
    .asgM 2 (.lst []),
    .for_ [3] true (.rng (.imm (.op .len [.imm (.var 1)]))) [3]
    [.ext 2 (.lc (.tup [.imm (.var 3), .imm (.var 4)]) [4] true (.rng (.imm (.op .len [.imm (.var 1)]))) (some (.op .le [.imm (.op .add [.imm (.op .idx [.imm (.var 1), .imm (.var 3)]), .imm (.var 0)]), .imm (.op .idx [.imm (.var 1), .imm (.var 4)])])))],
    .ret (.tup [.imm (.op .len [.imm (.var 1)]), .imm (.op .tuple [.own 2])])]
def t_law_told : Tb where
  N := ["_law_step", "_law_values", "_law_pairs", "_law_one", "_law_other"]
  fns := []
  gls := []
  exs := []
def f_law_told : Fn := evDef t_law_told.G d_law_told

/-- _law_several -/
def d_law_several : Def where
  n := 11
  ps := [false, true]
  body := [
    .asg 2 (.call 0 [.imm (.var 0), .own 1, .imm (.cst (.int 5))]),
    .asg 3 (.op .add [.imm (.cst (.int 1)), .imm (.call 0 [.imm (.var 0), .own 1, .imm (.cst (.int 3))])]),
    .asg 4 (.call 1 [.imm (.var 0), .own 1, .imm (.lst [.imm (.cst (.int 4)), .imm (.cst (.int 8)), .imm (.cst (.int 14)), .imm (.cst (.int 20))])]),
    .asg 5 (.op .add [.imm (.cst (.int 1)), .imm (.call 0 [.imm (.var 0), .own 1, .imm (.cst (.int 6))])]),
    .asg 6 (.lc (.call 0 [.imm (.var 0), .own 1, .imm (.var 4)]) [9] true (.rng (.imm (.var 5))) none),
    .asg 7 (.lc (.call 0 [.imm (.var 0), .own 1, .imm (.var 4)]) [9] true (.rng (.imm (.var 5))) none),
    .asgM 8 (.lst []),
    .for_ [9] true (.rng (.imm (.var 3))) [9, 10]
    [.asg 10 (.op .add [.imm (.cst (.int 1)), .imm (.call 0 [.imm (.var 0), .own 1, .imm (.cst (.int 7))])]),
    .app 8 (.tup [.imm (.call 2 [.imm (.var 10), .imm (.ite (.and (.op .eq [.imm (.var 2), .imm (.cst (.int 0))]) (.op .gt [.imm (.var 9), .imm (.cst (.int 0))])) (.var 7) (.var 6))]), .imm (.var 10)])],
    .ite (.op .eq [.imm (.var 2), .imm (.cst (.int 1))])
    [.setI 8 (.op .neg [.imm (.cst (.int 1))]) (.tup [.imm (.op .idx [.imm (.op .idx [.own 8, .imm (.op .neg [.imm (.cst (.int 1))])]), .imm (.cst (.int 0))]), .imm (.op .add [.imm (.cst (.int 1)), .imm (.call 0 [.imm (.var 0), .own 1, .imm (.cst (.int 7))])])])]
    [],
    .ret (.tup [.imm (.move 8), .imm (.var 6)])]
def t_law_several : Tb where
  N := ["_law_script", "_law_town", "_law_way", "_law_times", "_law_wide", "_law_many", "_law_values", "_law_other", "_law_made", "_law_k", "_law_step"]
  fns := [("_law_draw", [false, true, false], f_law_draw), ("_law_pick", [false, true, false], f_law_pick), ("_law_told", [false, false], f_law_told)]
  gls := []
  exs := []
def f_law_several : Fn := evDef t_law_several.G d_law_several

end Nv

set_option linter.all false
set_option maxRecDepth 100000
namespace Nv
open PySem
/-! ### several orders -/
abbrev Sev := List (List (Int × Int) × Int)
def partD (n : Int) (q : List (Int × Int) × Int) : D := .tuple [ordD n q.1, .int q.2]
def sevD (n : Int) (S : Sev) : D := .list (S.map (partD n))
structure IsSev (n : Int) (S : Sev) : Prop where
  lo : 1 ≤ S.length
  hi : S.length ≤ 3
  ok : ∀ q ∈ S, IsOrd n q.1 ∧ 1 ≤ q.2 ∧ q.2 ≤ 999
theorem IsSev.n {n : Int} {S : Sev} (h : IsSev n S) : 1 ≤ n ∧ n ≤ 8 := by
  have h1 := h.lo
  match S, h with
  | q :: S, h => exact ⟨(h.ok q List.mem_cons_self).1.lo, (h.ok q List.mem_cons_self).1.hi⟩
  | [], h => simp at h1
@[simp] theorem isList_list (i : List D) : isA .isList (.list i) = some true := rfl
@[simp] theorem isList_tup (i : List D) : isA .isList (.tuple i) = some false := rfl
@[simp] theorem isList_int (i : Int) : isA .isList (.int i) = some false := rfl
@[simp] theorem isList_bool (i : Bool) : isA .isList (.bool i) = some false := rfl
@[simp] theorem isList_str (i : Str) : isA .isList (.str i) = some false := rfl
@[simp] theorem isList_none : isA .isList .none = some false := rfl
@[simp] theorem partI0 (n : Int) (q : List (Int × Int) × Int) : prim .idx [partD n q, .int 0] = some (ordD n q.1) := by
  show L2.atI [ordD n q.1, PyData.int q.2] 0 = _
  exact atI_0
@[simp] theorem partI1 (n : Int) (q : List (Int × Int) × Int) : prim .idx [partD n q, .int 1] = some (.int q.2) := by
  show L2.atI [ordD n q.1, PyData.int q.2] 1 = _
  exact atI_1
theorem lastS {α : Type} (f : α → D) : ∀ (xs : List α) (c : Sl), (c = .no ∨ ∃ d, c = .im d) → (xs.foldl (fun (_ : Sl) q => Sl.im (f q)) c = .no ∨ ∃ d, xs.foldl (fun (_ : Sl) q => Sl.im (f q)) c = .im d)
  | [], _, h => h
  | x :: xs, c, _ => lastS f xs (.im (f x)) (.inr ⟨_, rfl⟩)
theorem sev_0 {n : Int} {S : Sev} (h : IsSev n S) : ∃ q S', S = q :: S' := by
  have h1 := h.lo
  cases S with
  | nil => simp at h1
  | cons q S' => exact ⟨q, S', rfl⟩
theorem are_sev_ok {n : Int} {S : Sev} (h : IsSev n S) : f_are_several [sevD n S] = .ok (.bool true) [] := by
  have g0 : t_are_several.G.gl 0 = some (.int 3) := rfl
  have g1 : t_are_several.G.gl 1 = some (.int 999) := rfl
  have f0 : t_are_several.G.fn 0 = some ([false], f_is_order) := rfl
  have f1 : t_are_several.G.fn 1 = some ([false, false, false], f_is_whole) := rfl
  have h1 : 1 ≤ (S.length : Int) := by have := h.lo; omega
  have h2 : (S.length : Int) ≤ 3 := by have := h.hi; omega
  simp only [f_are_several, evDef_eq, d_are_several]
  simp [sevD, g0, h1, h2]
  rw [forL_rwE (partD n) (fun c : Sl => [.im (.list (S.map (partD n))), c]) (fun _ q => .im (partD n q)) (fun _ _ => True) .no trivial rfl ?_]
  · obtain ⟨q0, S', e⟩ := sev_0 h
    simp
    have hc := lastS (partD n) S .no (.inl rfl)
    generalize List.foldl (fun (_ : Sl) q => Sl.im (partD n q)) Sl.no S = c at hc ⊢
    rw [lcR_map (partD n) (fun _ => .bool true) ?_ (by rcases hc with rfl | ⟨d, rfl⟩ <;> rfl)]
    · have hb : boolsD (S.map fun _ => PyData.bool true) = some (S.map fun _ => true) := boolsD_map_bool (fun _ => true) S
      simp [hb]
    · intro q hq
      subst e
      simp [lcB, tgE, partD, ordD]
  · intro j q hq _ _
    have := h.ok q (List.mem_of_getElem? hq)
    simp [bodyR, tgE, partD, f0, f1, g1, callW_0 (order_ok this.1), callW_0 (whole_int _ _ _), this.2.1, this.2.2]
theorem need_sev_ok {n : Int} {S : Sev} (h : IsSev n S) : f_need_several [sevD n S] = .ok .none [] := by
  have f0 : t_need_several.G.fn 0 = some ([false], f_are_several) := rfl
  simp only [f_need_several, evDef_eq, d_need_several]
  simp [f0, callW_0 (are_sev_ok h)]
/-- the steps of several orders, each with its place -/
def quadD (x : Tr × Int) : D := .tuple [.int x.1.1, .int x.1.2.1, .int x.1.2.2, .int x.2]
def stepsQ (n : Int) (S : Sev) : List (Tr × Int) := ((List.range S.length).zip S).flatMap fun p => (stepsL n p.2.1 p.2.2).map fun t => (t, (p.1 : Int))
def payQ (x : Tr × Int) : Tr × D := (x.1, .tuple [.int x.1.1, .int x.2])
def stepsS (n : Int) (S : Sev) : List Tr := S.flatMap fun q => stepsL n q.1 q.2
theorem stepsQ_fst (n : Int) (S : Sev) : (stepsQ n S).map (·.1) = stepsS n S := by
  have h : ∀ (l : List (Nat × (List (Int × Int) × Int))), (l.flatMap fun p => (stepsL n p.2.1 p.2.2).map fun t => (t, (p.1 : Int))).map (·.1) = (l.map (·.2)).flatMap fun q => stepsL n q.1 q.2 := by
    intro l
    induction l with
    | nil => rfl
    | cons p l ih => rw [List.flatMap_cons, List.map_append, ih, List.map_cons, List.flatMap_cons, List.map_map]; simp [Function.comp_def]
  unfold stepsQ stepsS
  rw [h, List.map_snd_zip (by simp)]
theorem stepsS_len {n : Int} {S : Sev} (h8 : n ≤ 8) (h3 : S.length ≤ 3) : (stepsS n S).length ≤ 192 := by
  have := flat_le (fun q : List (Int × Int) × Int => stepsL n q.1 q.2) 64 S fun q _ => steps_len h8
  unfold stepsS
  omega
theorem stepsS_rg {n : Int} {S : Sev} (h : IsSev n S) : ∀ t ∈ stepsS n S, (0 ≤ t.1 ∧ t.1 < n) ∧ (0 ≤ t.2.1 ∧ t.2.1 < n) := by
  intro t ht
  unfold stepsS at ht
  obtain ⟨q, hq, ht⟩ := List.mem_flatMap.mp ht
  exact steps_rg (h.ok q hq).1.rg t ht
theorem stepsQ_len {n : Int} {S : Sev} (h8 : n ≤ 8) (h3 : S.length ≤ 3) : (stepsQ n S).length ≤ 192 := by
  have := congrArg List.length (stepsQ_fst n S)
  rw [List.length_map] at this
  rw [this]
  exact stepsS_len h8 h3
theorem stepsQ_rg {n : Int} {S : Sev} (h : IsSev n S) : ∀ x ∈ stepsQ n S, (0 ≤ x.1.1 ∧ x.1.1 < n) ∧ (0 ≤ x.1.2.1 ∧ x.1.2.1 < n) := fun x hx =>
  stepsS_rg h x.1 (by rw [← stepsQ_fst]; exact List.mem_map_of_mem hx)
def bodyQ : List S := [.asg 8 (.cst .none),
    .for_ [9, 10, 11, 6] false (.seq (.imm (.move 4))) [6, 9, 10, 11]
    [.ite (.op .gt [.imm (.op .add [.imm (.op .idx [.own 2, .imm (.var 9)]), .imm (.var 11)]), .imm (.op .idx [.own 2, .imm (.var 10)])])
    [.setI 2 (.var 10) (.op .add [.imm (.op .idx [.own 2, .imm (.var 9)]), .imm (.var 11)]),
    .setD 3 (.var 10) (.tup [.imm (.var 9), .imm (.var 6)]),
    .asg 8 (.var 10)]
    []],
    .ite (.op .isN [.imm (.var 8)])
    [.ret (.tup [.imm (.op .tuple [.own 2]), .imm (.cst .none), .imm (.move 3)])]
    []]
theorem four_le : (4 : Nat) ≤ sizeLine := by rw [sizeLine_eq]; omega
theorem least_for_ok {n : Int} {S : Sev} (h : IsSev n S) : f_least_for [sevD n S] = .ok (resB (runS ((stepsQ n S).map payQ) (n.toNat + 1) (startB n))) [] := by
  have hz := sizeLine_eq
  have h2z := two_le
  have h3z := three_le
  have h4z := four_le
  obtain ⟨h1, h8⟩ := h.n
  have h3 := h.hi
  have hrg := stepsQ_rg h
  have hlen := stepsQ_len (n := n) (S := S) h8 h3
  have f0 : t_least_for.G.fn 0 = some ([false, false], f_steps_of) := rfl
  have hr : itRng [.int (n + 1)] = some ((upTo (n + 1)).map .int) := rng_upTo (by omega) (by omega)
  have hul : (upTo (n + 1)).length = n.toNat + 1 := by have := upTo_lenI (n := n + 1) (by omega); omega
  have hen : itEnum [.list (S.map (partD n))] = some (((List.range S.length).zip S).map fun p => .tuple [.int (p.1 : Nat), partD n p.2]) := by
    show some _ = _
    rw [List.length_map, List.zip_map_right, List.map_map]
    rfl
  obtain ⟨q0, hfirst⟩ : ∃ q0, L2.atI (S.map (partD n)) 0 = some (partD n q0) := by
    obtain ⟨q, S', rfl⟩ := sev_0 h
    exact ⟨q, by simp⟩
  simp only [f_least_for, evDef_eq, d_least_for]
  simp [sevD, hfirst, ord0, show 1 ≤ sizeLine by omega, zeros_mul (show 0 ≤ n by omega) h8, emptyD, hen]
  rw [forL_rwE (fun p : Nat × (List (Int × Int) × Int) => PyData.tuple [.int (p.1 : Nat), partD n p.2]) (fun s : List (Tr × Int) => [.im (.list (S.map (partD n))), .im (.int n), .mu (.list ((zeros n.toNat).map .int)), .mu (.dict []), .mu (.list (s.map quadD)), .no, .no, .no, .no, .no, .no, .no])
    (fun s p => s ++ (stepsL n p.2.1 p.2.2).map fun t => (t, (p.1 : Int))) (fun k s => s.length ≤ 64 * k) [] (by simp) ?_ ?_]
  · rw [foldl_appL, List.nil_append]
    rw [show (((List.range S.length).zip S).flatMap fun p => (stepsL n p.2.1 p.2.2).map fun t => (t, (p.1 : Int))) = stepsQ n S from rfl]
    clear hfirst hen
    generalize hQ : stepsQ n S = Q at *
    simp [hr]
    have hTr : ∀ x ∈ Q.map payQ, (0 ≤ x.1.1 ∧ x.1.1 < n) ∧ (0 ≤ x.1.2.1 ∧ x.1.2.1 < n) := fun x hx => by
      obtain ⟨y, hy, rfl⟩ := List.mem_map.mp hx
      exact hrg y hy
    let X : D := .list (Q.map quadD)
    let E : Bs × Sl × Sl → En := fun q => [.im (.list (S.map (partD n))), .im (.int n), .mu (.list (q.1.row.map .int)), .mu (.dict q.1.by_), q.2.2, .no, .no, .no, q.2.1, .no, .no, .no]
    let step : Bs × Sl × Sl → Bs × Sl × Sl := fun q => (passB (Q.map payQ) q.1, .im (chD (passB (Q.map payQ) q.1).ch), .im X)
    let stop : Bs × Sl × Sl → Bool := fun q => decide ((passB (Q.map payQ) q.1).ch = none)
    let I : Nat → Bs × Sl × Sl → Prop := fun k q => q.1.row.length = n.toNat ∧ KeyI q.1.by_ ∧ q.1.by_.length ≤ 192 * k ∧ (0 < k → q.2.1 = .im (chD q.1.ch)) ∧ (q.2.2 = .mu X ∨ q.2.2 = .im X)
    have hturn : ∀ (j : Nat) (x : Int), (upTo (n + 1))[j]? = some x → ∀ q : Bs × Sl × Sl, I (0 + j) q → if stop q = true then ∃ e, bodyR t_least_for.G [5] true bodyQ (.int x) (E q) = .ret (resB (some (passB (Q.map payQ) q.1).row, passB (Q.map payQ) q.1)) e else
        nxIs (bodyR t_least_for.G [5] true bodyQ (.int x) (E q)) fun e => killE e [5, 6, 9, 10, 11] = E (step q) ∧ I (0 + j + 1) (step q) := by
      intro j x hx q hI
      have hj : j < (upTo (n + 1)).length := (List.getElem?_eq_some_iff.mp hx).1
      obtain ⟨s, c, X'⟩ := q
      obtain ⟨hI1, hI2, hI3, _, hX⟩ := hI
      simp only at hI1 hI2 hI3 hX
      rw [Nat.zero_add] at hI3
      have inner : forL t_least_for.G [9, 10, 11, 6] false [6, 9, 10, 11] [.ite (.op .gt [.imm (.op .add [.imm (.op .idx [.own 2, .imm (.var 9)]), .imm (.var 11)]), .imm (.op .idx [.own 2, .imm (.var 10)])])
          [.setI 2 (.var 10) (.op .add [.imm (.op .idx [.own 2, .imm (.var 9)]), .imm (.var 11)]), .setD 3 (.var 10) (.tup [.imm (.var 9), .imm (.var 6)]), .asg 8 (.var 10)] []] (Q.map quadD)
          [.im (.list (S.map (partD n))), .im (.int n), .mu (.list (s.row.map .int)), .mu (.dict s.by_), .im X, .im (.int x), .no, .no, .im .none, .no, .no, .no] =
          .nx [.im (.list (S.map (partD n))), .im (.int n), .mu (.list ((passB (Q.map payQ) s).row.map .int)), .mu (.dict (passB (Q.map payQ) s).by_), .im X, .im (.int x), .no, .no, .im (chD (passB (Q.map payQ) s).ch), .no, .no, .no] ∧
          (passB (Q.map payQ) s).row.length = n.toNat ∧ KeyI (passB (Q.map payQ) s).by_ ∧ (passB (Q.map payQ) s).by_.length ≤ 192 * j + 192 := by
        have key := forL_foldI (G := t_least_for.G) (tg := [9, 10, 11, 6]) (one := false) (kill := [6, 9, 10, 11]) (body := [.ite (.op .gt [.imm (.op .add [.imm (.op .idx [.own 2, .imm (.var 9)]), .imm (.var 11)]), .imm (.op .idx [.own 2, .imm (.var 10)])])
          [.setI 2 (.var 10) (.op .add [.imm (.op .idx [.own 2, .imm (.var 9)]), .imm (.var 11)]), .setD 3 (.var 10) (.tup [.imm (.var 9), .imm (.var 6)]), .asg 8 (.var 10)] []]) quadD
          (fun s : Bs => [.im (.list (S.map (partD n))), .im (.int n), .mu (.list (s.row.map .int)), .mu (.dict s.by_), .im X, .im (.int x), .no, .no, .im (chD s.ch), .no, .no, .no]) (fun s y => upB s (payQ y))
          (fun m s => s.row.length = n.toNat ∧ KeyI s.by_ ∧ s.by_.length ≤ 192 * j + m) (xs := Q) 0 { s with ch := none } ⟨hI1, hI2, by simpa using hI3⟩ (fun m y hy s hs => ?_)
        · obtain ⟨k1, k2, k3, k4⟩ := key
          have e : Q.foldl (fun s y => upB s (payQ y)) { s with ch := none } = passB (Q.map payQ) s := by
            unfold passB
            rw [List.foldl_map]
          rw [e] at k1 k2 k3 k4
          exact ⟨k1, k2, k3, by omega⟩
        · have hy2 := hrg y (List.mem_of_getElem? hy)
          have hm : m < Q.length := (List.getElem?_eq_some_iff.mp hy).1
          obtain ⟨⟨⟨one, other, more⟩, pl⟩, rfl⟩ : ∃ z : Tr × Int, z = y := ⟨y, rfl⟩
          obtain ⟨hs1, hs2, hs3⟩ := hs
          simp only at hy2
          have a1 := gx_at (x := s.row) hy2.1.1 (by omega)
          have a2 := gx_at (x := s.row) hy2.2.1 (by omega)
          have a3 := ixN_ok (n := s.row.length) hy2.2.1 (by omega)
          have a4 := pPut_int (i := other) (v := .tuple [.int one, .int pl]) hs2 (by omega)
          simp [bodyR, tgE, quadD, a1, a2]
          by_cases hc : gx s.row other.toNat < gx s.row one.toNat + more
          · have e : upB s (payQ ((one, other, more), pl)) = ⟨s.row.set other.toNat (gx s.row one.toNat + more), putD (.int other) (.tuple [.int one, .int pl]) s.by_, some other⟩ := by
              unfold upB payQ
              rw [if_pos hc]
            simp [hc, a3, e, putR, a4, chD, h2z]
            exact ⟨hs1, putD_key hs2, by have := putD_len (es := s.by_) (k := .int other) (v := .tuple [.int one, .int pl]); omega⟩
          · have e : upB s (payQ ((one, other, more), pl)) = s := by
              unfold upB payQ
              rw [if_neg hc]
            simp [hc, e]
            exact ⟨hs1, hs2, by omega⟩
      obtain ⟨i1, i2, i3, i4⟩ := inner
      have i1' : forL t_least_for.G [9, 10, 11, 6] false [6, 9, 10, 11] [.ite (.op .gt [.imm (.op .add [.imm (.op .idx [.own 2, .imm (.var 9)]), .imm (.var 11)]), .imm (.op .idx [.own 2, .imm (.var 10)])])
          [.setI 2 (.var 10) (.op .add [.imm (.op .idx [.own 2, .imm (.var 9)]), .imm (.var 11)]), .setD 3 (.var 10) (.tup [.imm (.var 9), .imm (.var 6)]), .asg 8 (.var 10)] []] (Q.map quadD)
          [.im (.list (S.map (partD n))), .im (.int n), .mu (.list (s.row.map .int)), .mu (.dict s.by_), .im (.list (Q.map quadD)), .im (.int x), .no, .no, .im .none, .no, .no, .no] = _ := i1
      by_cases hc : (passB (Q.map payQ) s).ch = none
      · rw [if_pos (show stop (s, c, X') = true from decide_eq_true hc)]
        rcases hX with rfl | rfl <;> simp [bodyQ, bodyR, tgE, E, X, i1', hc, chD, h3z, resB, rowO]
      · rw [if_neg (show ¬ stop (s, c, X') = true from fun z => hc (of_decide_eq_true z))]
        have hnn : isNone (chD (passB (Q.map payQ) s).ch) = false := by
          cases h : (passB (Q.map payQ) s).ch with
          | none => exact absurd h hc
          | some i => rfl
        rcases hX with rfl | rfl <;> (simp [bodyQ, bodyR, tgE, E, X, i1', hnn, step, I]; exact ⟨i2, i3, by omega⟩)
    have fin := forL_turns (G := t_least_for.G) (tg := [5]) (one := true) (kill := [5, 6, 9, 10, 11]) (body := bodyQ) PyData.int E step stop (fun q => resB (some (passB (Q.map payQ) q.1).row, passB (Q.map payQ) q.1)) I (upTo (n + 1)) 0 (startB n, .no, .mu X) ⟨by simp [startB, zeros], fun p hp => (by cases hp), by simp [startB], fun z => absurd z (Nat.lt_irrefl 0), .inl rfl⟩ hturn
    rw [hul] at fin
    have key : ∀ (k : Nat) (q : Bs × Sl × Sl), runS (Q.map payQ) k q.1 = match turnsF step stop k q with
        | .inl q' => (some (passB (Q.map payQ) q'.1).row, passB (Q.map payQ) q'.1)
        | .inr q' => (none, q'.1) := by
      intro k
      induction k with
      | zero => intro q; rfl
      | succ k ih =>
        intro q
        unfold runS turnsF
        by_cases hc : (passB (Q.map payQ) q.1).ch = none
        · rw [if_pos hc, if_pos (show stop q = true from decide_eq_true hc)]
        · rw [if_neg hc, if_neg (show ¬ stop q = true from fun z => hc (of_decide_eq_true z))]
          exact ih (step q)
    have k0 := key (n.toNat + 1) (startB n, .no, .mu X)
    cases ht : turnsF step stop (n.toNat + 1) (startB n, .no, .mu X) with
    | inl q =>
      rw [ht] at fin k0
      obtain ⟨e, fin⟩ := fin
      have fin' : forL t_least_for.G [5] true [5, 6, 9, 10, 11] bodyQ ((upTo (n + 1)).map .int) [.im (.list (S.map (partD n))), .im (.int n), .mu (.list ((zeros n.toNat).map .int)), .mu (.dict []), .mu (.list (Q.map quadD)), .no, .no, .no, .no, .no, .no, .no] = _ := fin
      simp only [bodyQ] at fin'
      rw [fin']
      simp only at k0
      rw [k0]
      simp
    | inr q =>
      rw [ht] at fin k0
      obtain ⟨fin, hI⟩ := fin
      have fin' : forL t_least_for.G [5] true [5, 6, 9, 10, 11] bodyQ ((upTo (n + 1)).map .int) [.im (.list (S.map (partD n))), .im (.int n), .mu (.list ((zeros n.toNat).map .int)), .mu (.dict []), .mu (.list (Q.map quadD)), .no, .no, .no, .no, .no, .no, .no] = _ := fin
      simp only [bodyQ] at fin'
      rw [fin']
      simp only at k0
      rw [k0]
      have hq : q.2.1 = .im (chD q.1.ch) := hI.2.2.2.1 (by omega)
      simp [E, hq, h3z, resB, rowO]
  · rfl
  · intro k p hp s hs
    have hk : k < ((List.range S.length).zip S).length := (List.getElem?_eq_some_iff.mp hp).1
    simp at hk
    have hps : p.2 ∈ S := (List.of_mem_zip (List.mem_of_getElem? hp)).2
    have hq := h.ok p.2 hps
    have eS := steps_ok (n := n) (st := p.2.2) (ps := p.2.1) (by omega) h8
    have hsl := steps_len (n := n) (st := p.2.2) (ps := p.2.1) h8
    simp [bodyR, tgE, f0, callW_0 eS]
    rw [lcR_map tripD (fun t => quadD (t, (p.1 : Int))) ?_ rfl]
    · have hsz : s.length + (stepsL n p.2.1 p.2.2).length ≤ sizeLine := by omega
      simp [hsz, List.map_map, Function.comp_def]
      omega
    · intro t ht
      simp [lcB, tgE, tripD, quadD, h4z]
end Nv

set_option linter.all false
set_option maxRecDepth 100000
namespace Nv
open PySem
/-! ### what the law draws: several orders; the least numbers of several -/
theorem told_row {x : List Int} {n st i : Int} (i0 : 0 ≤ i) (i1 : i < n) (hl : (x.length : Int) = n) (F : Int → Bool) (hF : ∀ j, 0 ≤ j → j < n → F j = decide (x.getD j.toNat 0 - x.getD i.toNat 0 ≥ st)) : ((upTo n).filter F).map (fun j => PyData.tuple [.int i, .int j]) = (freeRow x n st i).map pairD := by
  unfold freeRow
  rw [List.map_map]
  have : (upTo n).filter F = (upTo n).filter fun j => decide (x.getD j.toNat 0 - x.getD i.toNat 0 ≥ st) := List.filter_congr fun j hj => by
    rw [mem_upTo] at hj
    exact hF j hj.1 hj.2
  rw [this]
  rfl
theorem told_ok {st : Int} {x : List Int} (h8 : x.length ≤ 8) (xd : D) (hx : xd = .list (x.map .int) ∨ xd = .tuple (x.map .int)) : f_law_told [.int st, xd] = .ok (ordD x.length (freeAll x x.length st)) [] := by
  have hz := sizeLine_eq
  have h2z := two_le
  generalize hn : (x.length : Int) = n
  have hr : itRng [.int n] = some ((upTo n).map .int) := rng_upTo (by omega) (by omega)
  have hul := upTo_len (n := n) (by omega)
  have hlen : prim .len [xd] = some (.int n) := by
    rcases hx with rfl | rfl <;> simp [hn]
  have hat : ∀ j : Int, 0 ≤ j → j < n → prim .idx [xd, .int j] = some (.int (x.getD j.toNat 0)) := fun j h0 h1 => by
    have := atI_ints' (ns := x) (i := j) h0 (by omega)
    rcases hx with rfl | rfl <;> simpa using this
  simp only [f_law_told, evDef_eq, d_law_told]
  simp [hlen, hr]
  rw [forL_rwE PyData.int (fun s : List (Int × Int) => [.im (.int st), .im xd, .mu (.list (s.map pairD)), .no, .no]) (fun s i => s ++ freeRow x n st i) (fun k s => s.length ≤ 8 * k) [] (by simp) ?_ ?_]
  · rw [foldl_app, List.nil_append]
    simp [hlen, show (upTo n).flatMap (freeRow x n st) = freeAll x n st from rfl, h2z, ordD]
  · rfl
  · intro k i hi s hs
    have him : i ∈ upTo n := List.mem_of_getElem? hi
    have hk : k < (upTo n).length := (List.getElem?_eq_some_iff.mp hi).1
    have hfl : (freeRow x n st i).length ≤ 8 := by
      unfold freeRow
      rw [List.length_map]
      exact Nat.le_trans (List.length_filter_le _ _) hul
    rw [mem_upTo] at him
    simp [bodyR, tgE, hlen, hr]
    rw [lcR_filter PyData.int (fun j => decide (x.getD i.toNat 0 + st ≤ x.getD j.toNat 0)) (fun j => .tuple [.int i, .int j]) ?_ rfl]
    · have hsz : s.length + (freeRow x n st i).length ≤ sizeLine := by omega
      rw [told_row (st := st) him.1 him.2 hn _ fun j h0 h1 => by
        rw [decide_eq_decide]
        omega]
      simp [hsz]
      omega
    · intro j hj
      rw [mem_upTo] at hj
      have a1 := hat j (by omega) (by omega)
      have a2 := hat i (by omega) (by omega)
      simp [lcB, tgE, a1, a2, h2z]
      by_cases e : x[i.toNat]?.getD 0 + st ≤ x[j.toNat]?.getD 0
      · simp [e, h2z]
      · simp [e, h2z]
/-- so many draws in a row -/
theorem draws_len (ns : List Int) (t : Nat) (wd n : Int) : (outsL (fun t (_ : Int) => t + 1) (fun t _ => drw ns t wd) t (upTo n)).length = n.toNat := by
  rw [outsL_len]
  unfold upTo
  simp
theorem outsL_mem {α β σ : Type} {step : σ → α → σ} {val : σ → α → β} {P : β → Prop} (h : ∀ s x, P (val s x)) : ∀ (xs : List α) (s : σ), ∀ y ∈ outsL step val s xs, P y
  | [], _, y, hy => by cases hy
  | x :: xs, s, y, hy => by
    rcases List.mem_cons.mp hy with rfl | hy
    · exact h s x
    · exact outsL_mem h xs _ y hy
theorem draws_rg (ns : List Int) (t : Nat) (wd n : Int) (h : 0 < wd) : ∀ y ∈ outsL (fun t (_ : Int) => t + 1) (fun t _ => drw ns t wd) t (upTo n), 0 ≤ y ∧ y < wd := outsL_mem (fun s _ => drw_rng ns s h) _ _
theorem range_int (k : Nat) : (List.range k).map (fun (i : Nat) => PyData.int i) = (upTo k).map .int := by
  unfold upTo
  rw [List.map_map]
  simp [Function.comp_def]
theorem ixN_last {k : Nat} : L2.ixN (k + 1) (-1) = some k := by
  unfold L2.ixN
  rw [if_neg (by omega), if_pos (by omega)]
  congr 1
  omega
theorem atI_last {α : Type} {xs : List α} {y : α} : L2.atI (xs ++ [y]) (-1) = some y := by
  unfold L2.atI
  rw [show (xs ++ [y]).length = xs.length + 1 by simp, ixN_last]
  simp
theorem several_ok (ns : List Int) {t : Nat} (ht : t < 900000) : ∃ (n : Int) (S : Sev) (x : List Int) (t' : Nat), f_law_several [scr ns, town t] = .ok (.tuple [sevD n S, .list (x.map .int)]) [town t'] ∧ IsSev n S ∧ n ≤ 6 ∧ (x.length : Int) = n ∧ (∀ a ∈ x, 0 ≤ a ∧ a < 20) ∧ t' ≤ t + 20 := by
  have hz := sizeLine_eq
  have h2z := two_le
  have h4z : (4 : Nat) ≤ sizeLine := by omega
  have e1 := draw_ok ns (t := t) (m := 5) (by omega) (by omega)
  have e2 := draw_ok ns (t := t + 1) (m := 3) (by omega) (by omega)
  have r1 := drw_rng ns t (m := 5) (by omega)
  have r2 := drw_rng ns (t + 1) (m := 3) (by omega)
  obtain ⟨wd, hwd, e3⟩ := pick_mem ns (t := t + 2) (xs := ([4, 8, 14, 20] : List Int).map .int) (by omega) (by decide)
  obtain ⟨w, hw, rfl⟩ := List.mem_map.mp hwd
  have hw1 : 4 ≤ w ∧ w ≤ 20 := by
    simp at hw
    omega
  have e3' : f_law_pick [scr ns, town (t + 2), .list [.int 4, .int 8, .int 14, .int 20]] = .ok (.int w) [town (t + 3)] := e3
  have e4 := draw_ok ns (t := t + 3) (m := 6) (by omega) (by omega)
  have r4 := drw_rng ns (t + 3) (m := 6) (by omega)
  generalize drw ns t 5 = way at *
  generalize hti : 1 + drw ns (t + 1) 3 = times at *
  generalize hn : 1 + drw ns (t + 3) 6 = n at *
  have hti1 : 1 ≤ times ∧ times ≤ 3 := by omega
  have hn1 : 1 ≤ n ∧ n ≤ 6 := by omega
  generalize hx : outsL (fun t (_ : Int) => t + 1) (fun t _ => drw ns t w) (t + 4) (upTo n) = x
  generalize hy : outsL (fun t (_ : Int) => t + 1) (fun t _ => drw ns t w) (t + 4 + n.toNat) (upTo n) = y
  have xl : (x.length : Int) = n := by rw [← hx, draws_len]; omega
  have yl : (y.length : Int) = n := by rw [← hy, draws_len]; omega
  have xr : ∀ a ∈ x, 0 ≤ a ∧ a < w := by rw [← hx]; exact draws_rg ns _ w n (by omega)
  have hul : (upTo n).length = n.toNat := by have := upTo_lenI (n := n) (by omega); omega
  have hut : (upTo times).length = times.toNat := by have := upTo_lenI (n := times) (by omega); omega
  have rn : itRng [.int n] = some ((upTo n).map .int) := rng_upTo (by omega) (by omega)
  have rt : itRng [.int times] = some ((upTo times).map .int) := rng_upTo (by omega) (by omega)
  have f0 : t_law_several.G.fn 0 = some ([false, true, false], f_law_draw) := rfl
  have f1 : t_law_several.G.fn 1 = some ([false, true, false], f_law_pick) := rfl
  have f2 : t_law_several.G.fn 2 = some ([false, false], f_law_told) := rfl
  have tox : ∀ st, f_law_told [.int st, .list (x.map .int)] = .ok (ordD n (freeAll x n st)) [] := fun st => by
    have := told_ok (st := st) (x := x) (by omega) _ (.inl rfl)
    rwa [xl] at this
  have toy : ∀ st, f_law_told [.int st, .list (y.map .int)] = .ok (ordD n (freeAll y n st)) [] := fun st => by
    have := told_ok (st := st) (x := y) (by omega) _ (.inl rfl)
    rwa [yl] at this
  -- the turns: (orders so far, draws)
  let t0 := t + 4 + n.toNat + n.toNat
  let stp : Sev × Nat → Int → Sev × Nat := fun s k => (s.1 ++ [(freeAll (if way = 0 ∧ 0 < k then y else x) n (1 + drw ns s.2 7), 1 + drw ns s.2 7)], s.2 + 1)
  let fin := (upTo times).foldl stp ([], t0)
  have hI : ∀ (ks : List Int) (s : Sev × Nat), (∀ q ∈ s.1, IsOrd n q.1 ∧ 1 ≤ q.2 ∧ q.2 ≤ 7) → (ks.foldl stp s).1.length = s.1.length + ks.length ∧ (ks.foldl stp s).2 = s.2 + ks.length ∧ ∀ q ∈ (ks.foldl stp s).1, IsOrd n q.1 ∧ 1 ≤ q.2 ∧ q.2 ≤ 7 := by
    intro ks
    induction ks with
    | nil => intro s h; exact ⟨rfl, rfl, h⟩
    | cons k ks ih =>
      intro s h
      rw [List.foldl_cons]
      have := ih (stp s k) (fun q hq => by
        rcases List.mem_append.mp hq with hq | hq
        · exact h q hq
        · simp at hq
          have r7 := drw_rng ns s.2 (m := 7) (by omega)
          rw [hq]
          exact ⟨free_ord (by omega) (by omega) (by omega), by simp only; omega, by simp only; omega⟩)
      refine ⟨?_, ?_, this.2.2⟩
      · rw [this.1]
        show (s.1 ++ [_]).length + _ = _
        simp
        omega
      · rw [this.2.1]
        show s.2 + 1 + _ = _
        simp
        omega
  obtain ⟨fl1, fl2, fl3⟩ := hI (upTo times) ([], t0) (fun q hq => by cases hq)
  have ff : (upTo times).foldl stp ([], t0) = fin := rfl
  rw [ff] at fl1 fl2 fl3
  simp only [List.length_nil, Nat.zero_add] at fl1
  -- the last one, anew
  have hlast : ∃ S0 q, fin.1 = S0 ++ [q] := by
    rcases List.eq_nil_or_concat fin.1 with h | ⟨S0, q, h⟩
    · rw [h] at fl1
      simp at fl1
      omega
    · exact ⟨S0, q, by rw [h, List.concat_eq_append]⟩
  obtain ⟨S0, q, hS0⟩ := hlast
  have r8 := drw_rng ns fin.2 (m := 7) (by omega)
  have hq := fl3 q (by rw [hS0]; simp)
  have hsl : (S0 ++ [q]).length = times.toNat := by rw [← hS0, fl1, hut]
  refine ⟨n, if way = 1 then S0 ++ [(q.1, 1 + drw ns fin.2 7)] else fin.1, x, if way = 1 then fin.2 + 1 else fin.2, ?_, ⟨?_, ?_, ?_⟩, hn1.2, xl, fun a ha => by have := xr a ha; omega, ?_⟩
  · simp only [f_law_several, evDef_eq, d_law_several]
    simp [f0, f1, callW_1 e1, callW_1 e2, hti, callW_1 e3', h4z, callW_1 e4, hn, rn]
    rw [lcR_state PyData.int (fun u => [.im (scr ns), .mu (town u), .im (.int way), .im (.int times), .im (.int w), .im (.int n), .no, .no, .no, .no, .no]) (fun t _ => t + 1) (fun t _ => drw ns t w) PyData.int (fun j u => u = t + 4 + j) (t + 4) rfl rfl ?_, hx, foldl_cnt]
    · simp [f0, rn]
      rw [lcR_state PyData.int (fun u => [.im (scr ns), .mu (town u), .im (.int way), .im (.int times), .im (.int w), .im (.int n), .im (.list (x.map .int)), .no, .no, .no, .no]) (fun t _ => t + 1) (fun t _ => drw ns t w) PyData.int (fun j u => u = t + 4 + n.toNat + j) (t + 4 + n.toNat) rfl (by rw [hul]; rfl) ?_, hy, foldl_cnt]
      · simp [rt]
        rw [forL_rwE PyData.int (fun s : Sev × Nat => [.im (scr ns), .mu (town s.2), .im (.int way), .im (.int times), .im (.int w), .im (.int n), .im (.list (x.map .int)), .im (.list (y.map .int)), .mu (sevD n s.1), .no, .no]) stp (fun k s => s.1.length = k ∧ s.2 = t0 + k) ([], t0) ⟨rfl, rfl⟩ (by rw [hul]; rfl) ?_]
        · rw [ff]
          by_cases hc : way = 1
          · have e8 := draw_ok ns (t := fin.2) (m := 7) (by omega) (by omega)
            have a1 : L2.atI (S0.map (partD n) ++ [PyData.tuple [ordD n q.1, .int q.2]]) (-1) = some (.tuple [ordD n q.1, .int q.2]) := atI_last
            have a3 : L2.ixN (S0.length + 1) (-1) = some S0.length := ixN_last
            simp [hc, sevD, hS0, f0, a1, a3, callW_1 e8, h2z, partD]
          · simp [hc, sevD, h2z]
        · intro k i hi s hs
          obtain ⟨h1, h2⟩ := hs
          have hk : k < (upTo times).length := (List.getElem?_eq_some_iff.mp hi).1
          have e9 := draw_ok ns (t := s.2) (m := 7) (by omega) (by omega)
          have hsz : s.1.length < sizeLine := by omega
          simp [bodyR, tgE, f0, f2, callW_1 e9, sevD]
          by_cases c1 : way = 0
          · by_cases c2 : 0 < i
            · simp [c1, c2, callW_0 (toy _), h2z, hsz, stp, partD]
              omega
            · simp [c1, c2, callW_0 (tox _), h2z, hsz, stp, partD]
              omega
          · simp [c1, callW_0 (tox _), h2z, hsz, stp, partD]
            omega
      · intro j i hi u hu
        have hj : j < (upTo n).length := (List.getElem?_eq_some_iff.mp hi).1
        subst hu
        have e6 := draw_ok ns (t := t + 4 + n.toNat + j) (m := w) (by omega) (by omega)
        simp [lcB, tgE, f0, callW_1 e6]
        omega
    · intro j i hi u hu
      have hj : j < (upTo n).length := (List.getElem?_eq_some_iff.mp hi).1
      subst hu
      have e5 := draw_ok ns (t := t + 4 + j) (m := w) (by omega) (by omega)
      simp [lcB, tgE, f0, callW_1 e5]
      omega
  · split
    · rw [← hS0] at hsl
      simp at hsl ⊢
    · omega
  · split
    · simp at hsl ⊢
      omega
    · omega
  · intro p hp
    split at hp
    · rcases List.mem_append.mp hp with hp | hp
      · have := fl3 p (by rw [hS0]; simp [hp])
        exact ⟨this.1, this.2.1, by omega⟩
      · simp at hp
        rw [hp]
        exact ⟨hq.1, by simp only; omega, by simp only; omega⟩
    · have := fl3 p hp
      exact ⟨this.1, this.2.1, by omega⟩
  · split <;> omega
end Nv

set_option linter.all false
set_option maxRecDepth 100000
namespace Nv
open PySem
/-! ### rows raised: which step raised each last; a round -/
abbrev It_ := Tr × D
def srcI (x : It_) : Nat := x.1.1.toNat
def dstI (x : It_) : Nat := x.1.2.1.toNat
def wtI (x : It_) : Int := x.1.2.2
section
variable (p : Nat → Option It_)
def prP (v : Nat) : Nat := match p v with
  | some x => srcI x
  | none => v
def wtP (v : Nat) : Int := match p v with
  | some x => wtI x
  | none => 0
def itP : Nat → Nat → Nat
  | v, 0 => v
  | v, k + 1 => itP (prP p v) k
def smP : Nat → Nat → Int
  | _, 0 => 0
  | v, k + 1 => wtP p v + smP (prP p v) k
def dfP : Nat → Nat → Prop
  | _, 0 => True
  | v, k + 1 => (∃ x, p v = some x) ∧ dfP (prP p v) k
end
theorem prP_some {p : Nat → Option It_} {v : Nat} {x : It_} (h : p v = some x) : prP p v = srcI x := by simp only [prP, h]
theorem wtP_some {p : Nat → Option It_} {v : Nat} {x : It_} (h : p v = some x) : wtP p v = wtI x := by simp only [wtP, h]
theorem itP_add {p : Nat → Option It_} : ∀ (a : Nat) (v b : Nat), itP p v (a + b) = itP p (itP p v a) b
  | 0, v, b => by rw [Nat.zero_add]; rfl
  | a + 1, v, b => by
    rw [show a + 1 + b = (a + b) + 1 by omega]
    exact itP_add a (prP p v) b
theorem dfP_add {p : Nat → Option It_} : ∀ (a : Nat) (v b : Nat), dfP p v (a + b) ↔ dfP p v a ∧ dfP p (itP p v a) b
  | 0, v, b => by rw [Nat.zero_add]; simp [dfP, itP]
  | a + 1, v, b => by
    rw [show a + 1 + b = (a + b) + 1 by omega]
    simp only [dfP, itP, dfP_add a (prP p v) b, and_assoc]
theorem dfP_le {p : Nat → Option It_} {v a b : Nat} (h : dfP p v b) (l : a ≤ b) : dfP p v a := by
  have : b = a + (b - a) := by omega
  rw [this, dfP_add] at h
  exact h.1
theorem itP_succ' {p : Nat → Option It_} (v k : Nat) : itP p v (k + 1) = prP p (itP p v k) := by
  rw [itP_add]
  rfl
/-- sums along -/
theorem tele {p : Nat → Option It_} {f : Nat → Int} (h : ∀ a x, p a = some x → f a ≤ f (srcI x) + wtI x) : ∀ (k v : Nat), dfP p v k → f v ≤ f (itP p v k) + smP p v k
  | 0, v, _ => by simp [itP, smP]
  | k + 1, v, ⟨⟨x, hx⟩, hd⟩ => by
    have h1 := h v x hx
    have h2 := tele h k (prP p v) hd
    simp only [itP, smP]
    rw [wtP_some hx]
    rw [prP_some hx] at h2 ⊢
    omega
theorem tele_lt {p : Nat → Option It_} {f : Nat → Int} (h : ∀ a x, p a = some x → f a ≤ f (srcI x) + wtI x) {v0 : Nat} {x0 : It_} (hp : p v0 = some x0) (h0 : f v0 < f (srcI x0) + wtI x0) :
    ∀ (k v i : Nat), dfP p v k → i < k → itP p v i = v0 → f v < f (itP p v k) + smP p v k
  | 0, v, i, _, hi, _ => by omega
  | k + 1, v, 0, ⟨⟨x, hx⟩, hd⟩, _, e => by
    have e : v = v0 := e
    subst e
    rw [hp] at hx
    cases hx
    have h2 := tele h k (prP p v) hd
    simp only [itP, smP]
    rw [wtP_some hp]
    rw [prP_some hp] at h2 ⊢
    omega
  | k + 1, v, i + 1, ⟨⟨x, hx⟩, hd⟩, hi, e => by
    have h1 := h v x hx
    have h2 := tele_lt h hp h0 k (prP p v) i hd (by omega) e
    simp only [itP, smP]
    rw [wtP_some hx]
    rw [prP_some hx] at h2 ⊢
    omega
def updP {α : Type} (p : Nat → α) (v : Nat) (x : α) : Nat → α := fun a => if a = v then x else p a
@[simp] theorem updP_same {α : Type} {p : Nat → α} {v : Nat} {x : α} : updP p v x v = x := if_pos rfl
theorem updP_ne {α : Type} {p : Nat → α} {v a : Nat} {x : α} (h : a ≠ v) : updP p v x a = p a := if_neg h
/-- a walk that does not meet v is as it was -/
theorem walk_upd {p : Nat → Option It_} {v0 : Nat} {x0 : Option It_} : ∀ (k v : Nat), (∀ i, i < k → itP (updP p v0 x0) v i ≠ v0) → itP (updP p v0 x0) v k = itP p v k ∧ smP (updP p v0 x0) v k = smP p v k ∧ (dfP (updP p v0 x0) v k ↔ dfP p v k)
  | 0, v, _ => ⟨rfl, rfl, Iff.rfl⟩
  | k + 1, v, h => by
    have hv : v ≠ v0 := h 0 (by omega)
    have e1 : prP (updP p v0 x0) v = prP p v := by simp only [prP, updP_ne hv]
    have e2 : wtP (updP p v0 x0) v = wtP p v := by simp only [wtP, updP_ne hv]
    have ih := walk_upd (p := p) (v0 := v0) (x0 := x0) k (prP p v) fun i hi => by
      have := h (i + 1) (by omega)
      simp only [itP] at this
      rw [e1] at this
      exact this
    simp only [itP, smP, dfP]
    rw [e1, e2]
    refine ⟨ih.1, by rw [ih.2.1], ?_⟩
    rw [updP_ne hv, ih.2.2]
/-- rounds sum up to more than nothing -/
def CycPos (p : Nat → Option It_) : Prop := ∀ v k, 0 < k → dfP p v k → itP p v k = v → 0 < smP p v k
theorem cyc_upd {p : Nat → Option It_} {f : Nat → Int} (h : ∀ a x, p a = some x → f a ≤ f (srcI x) + wtI x) (c : CycPos p) {x0 : It_} (h0 : f (dstI x0) < f (srcI x0) + wtI x0) : CycPos (updP p (dstI x0) (some x0)) := by
  intro v k hk hd he
  have h' : ∀ a x, updP p (dstI x0) (some x0) a = some x → f a ≤ f (srcI x) + wtI x := by
    intro a x hx
    by_cases e : a = dstI x0
    · subst e
      rw [updP_same] at hx
      cases hx
      omega
    · rw [updP_ne e] at hx
      exact h a x hx
  by_cases hm : ∃ i, i < k ∧ itP (updP p (dstI x0) (some x0)) v i = dstI x0
  · obtain ⟨i, hi, e⟩ := hm
    have := tele_lt h' (updP_same (p := p) (v := dstI x0) (x := some x0)) h0 k v i hd hi e
    rw [he] at this
    omega
  · have w := walk_upd (p := p) (v0 := dstI x0) (x0 := some x0) k v fun i hi e => hm ⟨i, hi, e⟩
    rw [w.2.1]
    exact c v k hk (w.2.2.mp hd) (by rw [← w.1]; exact he)
/-! the run, with what is known of it -/
structure Ps where
  s : Bs
  p : Nat → Option It_
  lp : Nat → Nat
def upQ (k : Nat) (q : Ps) (x : It_) : Ps :=
  if gx q.s.row (dstI x) < gx q.s.row (srcI x) + wtI x then ⟨upB q.s x, updP q.p (dstI x) (some x), updP q.lp (dstI x) k⟩ else q
theorem upQ_s (k : Nat) (q : Ps) (x : It_) : (upQ k q x).s = upB q.s x := by
  unfold upQ
  split
  · rfl
  · rename_i h
    unfold upB
    exact (if_neg h).symm
def clrQ (q : Ps) : Ps := ⟨{ q.s with ch := none }, q.p, q.lp⟩
def passQ (k : Nat) (xs : List It_) (q : Ps) : Ps := xs.foldl (upQ k) (clrQ q)
theorem foldQ_s (k : Nat) : ∀ (xs : List It_) (q : Ps), (xs.foldl (upQ k) q).s = xs.foldl upB q.s
  | [], _ => rfl
  | x :: xs, q => by rw [List.foldl_cons, List.foldl_cons, foldQ_s k xs, upQ_s]
theorem passQ_s (k : Nat) (xs : List It_) (q : Ps) : (passQ k xs q).s = passB xs q.s := foldQ_s k xs _
/-- the items are of things of so many, unlike ones -/
def Ok (n : Nat) (xs : List It_) : Prop := ∀ x ∈ xs, 0 ≤ x.1.1 ∧ 0 ≤ x.1.2.1 ∧ srcI x < n ∧ dstI x < n ∧ srcI x ≠ dstI x
structure Iq (n : Nat) (xs : List It_) (q : Ps) : Prop where
  len : q.s.row.length = n
  ed : ∀ v x, q.p v = some x → x ∈ xs ∧ dstI x = v
  le : ∀ v x, q.p v = some x → gx q.s.row v ≤ gx q.s.row (srcI x) + wtI x
  cyc : CycPos q.p
  lp0 : ∀ v, q.p v = none → q.lp v = 0
  lp1 : ∀ v x, q.p v = some x → q.lp v ≤ q.lp (srcI x) + 1
  dic : ∀ v : Nat, valD (.inl (v : Int)) q.s.by_ = (q.p v).map (·.2)
  key : KeyI q.s.by_
def Jq (k : Nat) (xs : List It_) (q : Ps) : Prop := ∀ x ∈ xs, gx q.s.row (srcI x) + wtI x ≤ gx q.s.row (dstI x) ∨ k ≤ q.lp (srcI x)
def Cq (n k : Nat) (q : Ps) : Prop := ∀ c, q.s.ch = some c → 0 ≤ c ∧ c.toNat < n ∧ q.lp c.toNat = k
theorem valD_put {es : List (D × D)} (h : KeyI es) (i : Int) (v : D) (j : Int) : valD (.inl j) (putD (.int i) v es) = if j = i then some v else valD (.inl j) es := by
  have ke : ∀ a : Int, keyOf (.int a) = some (.inl a) := fun _ => rfl
  have inj : ∀ a b : Int, ((some (Sum.inl a) : Option (Sum Int (List Int))) = some (Sum.inl b)) ↔ a = b := fun a b => by simp
  have mp : ∀ es : List (D × D), KeyI es → valD (.inl j) (es.map fun p => if keyOf p.1 = keyOf (.int i) then (p.1, v) else p) = if j = i then (if es.any (fun p => decide (keyOf p.1 = keyOf (.int i))) then some v else valD (.inl j) es) else valD (.inl j) es := by
    intro es
    induction es with
    | nil => intro _; simp [valD]
    | cons q es ih =>
      intro h
      obtain ⟨k, u⟩ := q
      obtain ⟨a, ha⟩ := h (k, u) List.mem_cons_self
      simp only at ha
      subst ha
      have ih := ih fun q hq => h q (List.mem_cons_of_mem _ hq)
      rw [List.map_cons]
      simp only [ke, inj] at ih ⊢
      by_cases e : a = i
      · subst e
        simp only [if_true, valD, ke, inj, List.any_cons, decide_true, Bool.true_or]
        by_cases e2 : j = a
        · subst e2
          simp
        · rw [if_neg (fun z => e2 z.symm), if_neg e2, ih, if_neg e2, if_neg (fun z => e2 z.symm)]
      · simp only [if_neg e, valD, ke, inj, List.any_cons, decide_eq_false e, Bool.false_or]
        by_cases e2 : a = j
        · subst e2
          simp [e]
        · rw [if_neg e2, if_neg e2, ih]
  unfold putD
  split
  · rename_i ha
    rw [mp es h, ha]
    simp
  · rename_i ha
    have ap : ∀ es : List (D × D), KeyI es → (es.any (fun p => decide (keyOf p.1 = keyOf (.int i)))) = false → valD (.inl j) (es ++ [(.int i, v)]) = if j = i then some v else valD (.inl j) es := by
      intro es
      induction es with
      | nil =>
        intro _ _
        simp only [List.nil_append, valD, ke, inj]
        by_cases e : j = i
        · subst e; simp
        · rw [if_neg (fun z => e z.symm), if_neg e]
      | cons q es ih =>
        intro h ha
        obtain ⟨k, u⟩ := q
        obtain ⟨a, hk⟩ := h (k, u) List.mem_cons_self
        simp only at hk
        subst hk
        simp only [List.any_cons, ke, inj, Bool.or_eq_false_iff, decide_eq_false_iff_not] at ha
        have ih := ih (fun q hq => h q (List.mem_cons_of_mem _ hq)) (by simp only [ke, inj]; exact ha.2)
        rw [List.cons_append]
        simp only [valD, ke, inj]
        by_cases e2 : a = j
        · subst e2
          rw [if_pos rfl, if_neg ha.1, if_pos rfl]
        · rw [if_neg e2, ih, if_neg e2]
    exact ap es h (by simpa using ha)
theorem up_inv {n k : Nat} {xs pre : List It_} {q : Ps} {x : It_} (ok : Ok n xs) (hx : x ∈ xs) (hpre : ∀ y ∈ pre, y ∈ xs) (I : Iq n xs q) (J : Jq k xs q) (Jp : Jq (k + 1) pre q) (C : Cq n (k + 1) q) (hl : ∀ v, q.lp v ≤ k + 1) :
    Iq n xs (upQ (k + 1) q x) ∧ Jq k xs (upQ (k + 1) q x) ∧ Jq (k + 1) (pre ++ [x]) (upQ (k + 1) q x) ∧ Cq n (k + 1) (upQ (k + 1) q x) ∧ ∀ v, (upQ (k + 1) q x).lp v ≤ k + 1 := by
  obtain ⟨o1, o2, o3, o4, o5⟩ := ok x hx
  unfold upQ
  split
  · rename_i hc
    have eb : upB q.s x = ⟨q.s.row.set (dstI x) (gx q.s.row (srcI x) + wtI x), putD (.int x.1.2.1) x.2 q.s.by_, some x.1.2.1⟩ := by
      unfold upB
      exact if_pos hc
    have hg : ∀ i, gx (q.s.row.set (dstI x) (gx q.s.row (srcI x) + wtI x)) i = if i = dstI x then gx q.s.row (srcI x) + wtI x else gx q.s.row i := fun i => by
      rw [gx_set, I.len]
      by_cases e : i = dstI x
      · rw [if_pos ⟨e, o4⟩, if_pos e]
      · rw [if_neg (fun z => e z.1), if_neg e]
    have hup : ∀ i, gx q.s.row i ≤ gx (q.s.row.set (dstI x) (gx q.s.row (srcI x) + wtI x)) i := fun i => by
      rw [hg]
      split
      · rename_i e
        rw [e]
        omega
      · omega
    have hlp : ∀ v, q.lp v ≤ updP q.lp (dstI x) (k + 1) v := fun v => by
      unfold updP
      split
      · exact hl v
      · omega
    have hks : k ≤ q.lp (srcI x) := by
      rcases J x hx with z | z
      · omega
      · exact z
    have keep : ∀ (m : Nat) (y : It_), m ≤ k + 1 → (gx q.s.row (srcI y) + wtI y ≤ gx q.s.row (dstI y) ∨ m ≤ q.lp (srcI y)) →
        (gx (upB q.s x).row (srcI y) + wtI y ≤ gx (upB q.s x).row (dstI y) ∨ m ≤ updP q.lp (dstI x) (k + 1) (srcI y)) := fun m y hm h => by
      by_cases e : srcI y = dstI x
      · right
        rw [e, updP_same]
        exact hm
      · rcases h with h | h
        · left
          rw [eb]
          have h2 := hup (dstI y)
          have h3 := hg (srcI y)
          rw [if_neg e] at h3
          rw [h3]
          exact Int.le_trans h h2
        · right
          rw [updP_ne e]
          exact h
    refine ⟨⟨?_, ?_, ?_, ?_, ?_, ?_, ?_, ?_⟩, ?_, ?_, ?_, ?_⟩
    · rw [eb]
      simp [I.len]
    · intro v y hy
      by_cases e : v = dstI x
      · subst e
        simp only [updP_same] at hy
        cases hy
        exact ⟨hx, rfl⟩
      · simp only [updP_ne e] at hy
        exact I.ed v y hy
    · intro v y hy
      rw [eb]
      by_cases e : v = dstI x
      · subst e
        simp only [updP_same] at hy
        cases hy
        simp only
        rw [hg, hg, if_pos rfl, if_neg o5]
        omega
      · simp only [updP_ne e] at hy
        have h1 := I.le v y hy
        have h2 := hup (srcI y)
        simp only
        rw [hg v, if_neg e]
        omega
    · exact cyc_upd I.le I.cyc hc
    · intro v hv
      by_cases e : v = dstI x
      · subst e
        simp only [updP_same] at hv
        cases hv
      · simp only [updP_ne e] at hv ⊢
        exact I.lp0 v hv
    · intro v y hy
      by_cases e : v = dstI x
      · subst e
        simp only [updP_same] at hy
        cases hy
        simp only [updP_same]
        rw [updP_ne o5]
        omega
      · simp only [updP_ne e] at hy ⊢
        have := I.lp1 v y hy
        have := hlp (srcI y)
        omega
    · intro v
      rw [eb]
      simp only
      rw [valD_put I.key]
      by_cases e : v = dstI x
      · subst e
        rw [if_pos (by unfold dstI; omega), updP_same]
        rfl
      · rw [if_neg (by unfold dstI at e; omega), updP_ne e]
        exact I.dic v
    · rw [eb]
      exact putD_key I.key
    · exact fun y hy => keep k y (by omega) (J y hy)
    · intro y hy
      rcases List.mem_append.mp hy with hy | hy
      · exact keep (k + 1) y (by omega) (Jp y hy)
      · simp at hy
        subst hy
        left
        rw [eb]
        simp only
        rw [hg, hg, if_pos rfl, if_neg o5]
        omega
    · intro c hc2
      rw [eb] at hc2
      simp only [Option.some.injEq] at hc2
      subst hc2
      refine ⟨o2, o4, ?_⟩
      show updP q.lp (dstI x) (k + 1) (dstI x) = k + 1
      rw [updP_same]
    · intro v
      simp only
      unfold updP
      split
      · omega
      · exact hl v
  · rename_i hc
    refine ⟨I, J, ?_, C, hl⟩
    intro y hy
    rcases List.mem_append.mp hy with hy | hy
    · exact Jp y hy
    · simp at hy
      subst hy
      left
      omega
theorem fold_inv {n k : Nat} {xs : List It_} (ok : Ok n xs) : ∀ (ys pre : List It_) (q : Ps), pre ++ ys = xs → Iq n xs q → Jq k xs q → Jq (k + 1) pre q → Cq n (k + 1) q → (∀ v, q.lp v ≤ k + 1) →
    Iq n xs (ys.foldl (upQ (k + 1)) q) ∧ Jq (k + 1) xs (ys.foldl (upQ (k + 1)) q) ∧ Cq n (k + 1) (ys.foldl (upQ (k + 1)) q) ∧ ∀ v, (ys.foldl (upQ (k + 1)) q).lp v ≤ k + 1
  | [], pre, q, e, I, J, Jp, C, hl => by
    rw [List.append_nil] at e
    subst e
    exact ⟨I, Jp, C, hl⟩
  | y :: ys, pre, q, e, I, J, Jp, C, hl => by
    have hy : y ∈ xs := by rw [← e]; simp
    have hpre : ∀ z ∈ pre, z ∈ xs := fun z hz => by rw [← e]; simp [hz]
    obtain ⟨a1, a2, a3, a4, a5⟩ := up_inv ok hy hpre I J Jp C hl
    rw [List.foldl_cons]
    exact fold_inv ok ys (pre ++ [y]) _ (by rw [← e]; simp) a1 a2 a3 a4 a5
theorem pass_inv {n k : Nat} {xs : List It_} {q : Ps} (ok : Ok n xs) (I : Iq n xs q) (J : Jq k xs q) (hl : ∀ v, q.lp v ≤ k) :
    Iq n xs (passQ (k + 1) xs q) ∧ Jq (k + 1) xs (passQ (k + 1) xs q) ∧ Cq n (k + 1) (passQ (k + 1) xs q) ∧ ∀ v, (passQ (k + 1) xs q).lp v ≤ k + 1 := by
  refine fold_inv ok xs [] (clrQ q) rfl ⟨I.len, I.ed, I.le, I.cyc, I.lp0, I.lp1, I.dic, I.key⟩ J (fun y hy => by cases hy) (fun c hc => by cases hc) fun v => ?_
  have := hl v
  show q.lp v ≤ k + 1
  omega
def runQ (xs : List It_) : Nat → Nat → Ps → Ps
  | 0, _, q => q
  | m + 1, k, q => runQ xs m (k + 1) (passQ (k + 1) xs q)
theorem runQ_inv {n : Nat} {xs : List It_} (ok : Ok n xs) : ∀ (m k : Nat) (q : Ps), Iq n xs q → Jq k xs q → Cq n k q → (∀ v, q.lp v ≤ k) →
    Iq n xs (runQ xs m k q) ∧ Cq n (k + m) (runQ xs m k q)
  | 0, k, q, I, J, C, hl => ⟨I, C⟩
  | m + 1, k, q, I, J, C, hl => by
    obtain ⟨a1, a2, a3, a4⟩ := pass_inv ok I J hl
    have := runQ_inv ok m (k + 1) _ a1 a2 a3 a4
    rw [show k + (m + 1) = k + 1 + m by omega]
    exact this
theorem runS_none {xs : List It_} : ∀ (m k : Nat) (q : Ps), (runS xs m q.s).1 = none → (runS xs m q.s).2 = (runQ xs m k q).s ∧ (0 < m → (runQ xs m k q).s.ch ≠ none)
  | 0, k, q, _ => ⟨rfl, fun z => by omega⟩
  | m + 1, k, q, h => by
    unfold runS at h ⊢
    split at h
    · cases h
    · rename_i hc
      rw [if_neg hc]
      rw [← passQ_s (k + 1)] at h hc ⊢
      obtain ⟨e1, e2⟩ := runS_none m (k + 1) (passQ (k + 1) xs q) h
      refine ⟨e1, fun _ => ?_⟩
      by_cases hm : 0 < m
      · exact e2 hm
      · have : m = 0 := by omega
        subst this
        exact hc
def startQ (n : Nat) : Ps := ⟨⟨zeros n, [], none⟩, fun _ => none, fun _ => 0⟩
theorem start_inv (n : Nat) (xs : List It_) : Iq n xs (startQ n) ∧ Jq 0 xs (startQ n) ∧ Cq n 0 (startQ n) ∧ ∀ v, (startQ n).lp v ≤ 0 := by
  refine ⟨⟨by simp [startQ, zeros], fun v x h => (by cases h), fun v x h => (by cases h), ?_, fun _ _ => rfl, fun v x h => (by cases h), fun _ => rfl, fun p hp => (by cases hp)⟩, fun x _ => .inr (Nat.zero_le _), fun c h => (by cases h), fun v => Nat.le_refl _⟩
  intro v k hk hd _
  cases k with
  | zero => omega
  | succ k =>
    obtain ⟨⟨x, hx⟩, _⟩ := hd
    cases hx
/-- where something is raised in the last turn, the steps lead back so many times -/
theorem def_of_lp {n : Nat} {xs : List It_} {q : Ps} (I : Iq n xs q) : ∀ (m v : Nat), m ≤ q.lp v → dfP q.p v m
  | 0, _, _ => trivial
  | m + 1, v, h => by
    cases e : q.p v with
    | none =>
      have := I.lp0 v e
      omega
    | some x =>
      refine ⟨⟨x, e⟩, ?_⟩
      rw [prP_some e]
      have := I.lp1 v x e
      exact def_of_lp I m (srcI x) (by omega)
theorem it_lt {n : Nat} {xs : List It_} {q : Ps} (ok : Ok n xs) (I : Iq n xs q) : ∀ (m v : Nat), v < n → dfP q.p v m → itP q.p v m < n
  | 0, v, h, _ => h
  | m + 1, v, h, ⟨⟨x, hx⟩, hd⟩ => by
    simp only [itP]
    refine it_lt ok I m _ ?_ hd
    rw [prP_some hx]
    exact (ok x (I.ed v x hx).1).2.2.1
theorem nodup_len : ∀ (n : Nat) (l : List Nat), l.Nodup → (∀ x ∈ l, x < n) → l.length ≤ n
  | 0, [], _, _ => Nat.le_refl _
  | 0, x :: l, _, h => absurd (h x List.mem_cons_self) (Nat.not_lt_zero _)
  | n + 1, l, nd, h => by
    by_cases hn : n ∈ l
    · have h1 := nodup_len n (l.erase n) (nd.erase n) fun x hx => by
        have h2 := (List.Nodup.mem_erase_iff nd).mp hx
        have := h x h2.2
        omega
      rw [List.length_erase_of_mem hn] at h1
      omega
    · have h1 := nodup_len n l nd fun x hx => by
        have := h x hx
        by_cases e : x = n
        · rw [e] at hx
          exact absurd hx hn
        · omega
      omega
/-- of more than n numbers below n two are alike -/
theorem pigeon {n : Nat} (f : Nat → Nat) (h : ∀ i, i ≤ n → f i < n) : ∃ i j, i < j ∧ j ≤ n ∧ f i = f j := by
  apply Classical.byContradiction
  intro hn
  have inj : ∀ i j, i < j → j ≤ n → f i ≠ f j := fun i j h1 h2 e => hn ⟨i, j, h1, h2, e⟩
  have nd : ((List.range (n + 1)).map f).Nodup := by
    rw [List.nodup_iff_pairwise_ne, List.pairwise_map]
    refine List.Pairwise.imp_of_mem ?_ (List.pairwise_lt_range)
    intro a b ha hb hab
    rw [List.mem_range] at ha hb
    exact inj a b hab (by omega)
  have sub : ∀ x ∈ (List.range (n + 1)).map f, x ∈ List.range n := fun x hx => by
    obtain ⟨i, hi, rfl⟩ := List.mem_map.mp hx
    rw [List.mem_range] at hi ⊢
    exact h i (by omega)
  have := nodup_len n _ nd fun x hx => List.mem_range.mp (sub x hx)
  simp at this
  omega
/-- a round within what raised each last -/
structure Cyc (p : Nat → Option It_) (n v : Nat) (m : Nat) : Prop where
  pos : 0 < m
  le : m ≤ n
  df : dfP p v m
  it : itP p v m = v
  nd : ∀ i, 0 < i → i < m → itP p v i ≠ v
theorem cyc_of {n : Nat} {xs : List It_} {q : Ps} (ok : Ok n xs) (I : Iq n xs q) {v : Nat} (hv : v < n) (hl : q.lp v = n + 1) : dfP q.p v n ∧ itP q.p v n < n ∧ ∃ m, Cyc q.p n (itP q.p v n) m := by
  have hd := def_of_lp I (n + 1) v (by omega)
  obtain ⟨i, j, hij, hj, e⟩ := pigeon (fun i => itP q.p v i) fun i hi => it_lt ok I i v hv (dfP_le hd (by omega))
  have e : itP q.p v i = itP q.p v j := e
  have hdn : dfP q.p v n := dfP_le hd (by omega)
  have hc : itP q.p (itP q.p v n) (j - i) = itP q.p v n := by
    rw [← itP_add, show n + (j - i) = j + (n - i) by omega, itP_add, ← e, ← itP_add]
    congr 1
    omega
  have hdc : dfP q.p (itP q.p v n) (j - i) := by
    -- all on the way from i on is told
    have per : ∀ t, dfP q.p (itP q.p v i) t := by
      intro t
      induction t using Nat.strongRecOn with
      | _ t ih =>
        by_cases ht : t ≤ j - i
        · refine dfP_le (b := j - i) ?_ ht
          have := (dfP_add i v (j - i)).mp (dfP_le hd (by omega))
          exact this.2
        · have h1 : t = (j - i) + (t - (j - i)) := by omega
          rw [h1, dfP_add]
          refine ⟨?_, ?_⟩
          · have := (dfP_add i v (j - i)).mp (dfP_le hd (by omega))
            exact this.2
          · rw [← itP_add, show i + (j - i) = j by omega, ← e]
            exact ih (t - (j - i)) (by omega)
    have := per ((n - i) + (j - i))
    rw [dfP_add, ← itP_add, show i + (n - i) = n by omega] at this
    exact this.2
  refine ⟨hdn, it_lt ok I n v hv hdn, ?_⟩
  -- the least one
  have hex : ∃ m, 0 < m ∧ itP q.p (itP q.p v n) m = itP q.p v n := ⟨j - i, by omega, hc⟩
  have hmin : ∀ k, (∃ m, m ≤ k ∧ 0 < m ∧ itP q.p (itP q.p v n) m = itP q.p v n) → ∃ m, m ≤ k ∧ 0 < m ∧ itP q.p (itP q.p v n) m = itP q.p v n ∧ ∀ i, 0 < i → i < m → itP q.p (itP q.p v n) i ≠ itP q.p v n := by
    intro k
    induction k with
    | zero => rintro ⟨m, h1, h2, _⟩; omega
    | succ k ih =>
      rintro ⟨m, h1, h2, h3⟩
      by_cases hh : ∃ m, m ≤ k ∧ 0 < m ∧ itP q.p (itP q.p v n) m = itP q.p v n
      · obtain ⟨m', a, b, c, d⟩ := ih hh
        exact ⟨m', by omega, b, c, d⟩
      · exact ⟨m, h1, h2, h3, fun i hi him z => hh ⟨i, by omega, hi, z⟩⟩
  obtain ⟨m, m1, m2, m3, m4⟩ := hmin (j - i) ⟨j - i, Nat.le_refl _, by omega, hc⟩
  exact ⟨m, m2, by omega, dfP_le hdc m1, m3, m4⟩
/-- where no numbers do: a round -/
theorem run_cyc {n : Nat} {xs : List It_} (ok : Ok n xs) (h : (runS xs (n + 1) ⟨zeros n, [], none⟩).1 = none) :
    ∃ (p : Nat → Option It_) (c : Nat), (runS xs (n + 1) ⟨zeros n, [], none⟩).2.ch = some (c : Int) ∧ c < n ∧ (∀ v : Nat, valD (.inl (v : Int)) (runS xs (n + 1) ⟨zeros n, [], none⟩).2.by_ = (p v).map (·.2)) ∧ KeyI (runS xs (n + 1) ⟨zeros n, [], none⟩).2.by_ ∧
      (∀ v x, p v = some x → x ∈ xs ∧ dstI x = v) ∧ CycPos p ∧ dfP p c n ∧ itP p c n < n ∧ ∃ m, Cyc p n (itP p c n) m := by
  obtain ⟨e1, e2⟩ := runS_none (n + 1) 0 (startQ n) h
  obtain ⟨s1, s2, s3, s4⟩ := start_inv n xs
  obtain ⟨I, C⟩ := runQ_inv ok (n + 1) 0 (startQ n) s1 s2 s3 s4
  have e2 := e2 (by omega)
  cases hc : (runQ xs (n + 1) 0 (startQ n)).s.ch with
  | none => exact absurd hc e2
  | some c =>
    obtain ⟨c0, c1, c2⟩ := C c hc
    have e1' : (runS xs (n + 1) ⟨zeros n, [], none⟩).2 = (runQ xs (n + 1) 0 (startQ n)).s := e1
    rw [e1']
    obtain ⟨d1, d2, d3⟩ := cyc_of ok I c1 (by omega)
    exact ⟨_, c.toNat, by rw [hc]; congr 1; omega, c1, I.dic, I.key, I.ed, I.cyc, d1, d2, d3⟩
end Nv

set_option linter.all false
set_option maxRecDepth 100000
namespace Nv
open PySem
/-! ### what nothing bars numbers tell -/
structure Semi (n : Nat) (P : Nat → Nat → Prop) : Prop where
  irr : ∀ a, ¬ P a a
  rg : ∀ a b, P a b → a < n ∧ b < n
  two : ∀ a b c d, P a b → P c d → P a d ∨ P c b
  three : ∀ a b c d, P a b → P b c → d < n → P a d ∨ P d c
section
variable {n : Nat} {P : Nat → Nat → Prop}
/-- so many steps one after the other -/
def Pd (P : Nat → Nat → Prop) : Nat → Nat → Nat → Prop
  | 0, u, v => u = v
  | d + 1, u, v => ∃ z, Pd P d u z ∧ P z v
def Tr_ (P : Nat → Nat → Prop) (u v : Nat) : Prop := (∃ z, P z v ∧ ¬ P z u) ∨ ∃ z, P u z ∧ ¬ P v z
theorem Pd_front : ∀ {d u v : Nat}, Pd P (d + 1) u v ↔ ∃ z, P u z ∧ Pd P d z v
  | 0, u, v => ⟨fun ⟨z, h1, h2⟩ => by cases h1; exact ⟨v, h2, rfl⟩, fun ⟨z, h1, h2⟩ => by cases h2; exact ⟨u, rfl, h1⟩⟩
  | d + 1, u, v => by
    constructor
    · rintro ⟨z, h1, h2⟩
      obtain ⟨y, h3, h4⟩ := Pd_front.mp h1
      exact ⟨y, h3, z, h4, h2⟩
    · rintro ⟨z, h1, y, h2, h3⟩
      exact ⟨y, Pd_front.mpr ⟨z, h1, h2⟩, h3⟩
theorem Semi.trans (S : Semi n P) {a b c : Nat} (h1 : P a b) (h2 : P b c) : P a c := by
  rcases S.two a b b c h1 h2 with z | z
  · exact z
  · exact absurd z (S.irr b)
theorem Semi.pd (S : Semi n P) : ∀ {d u v : Nat}, Pd P (d + 1) u v → P u v
  | 0, u, v, ⟨z, h1, h2⟩ => by cases h1; exact h2
  | d + 1, u, v, ⟨z, h1, h2⟩ => S.trans (S.pd h1) h2
/-- a walk, its last step first: true: less; false: not more -/
def Wk (n : Nat) (P : Nat → Nat → Prop) : List Bool → Nat → Nat → Prop
  | [], u, v => u = v
  | true :: w, u, v => ∃ z, P z v ∧ z < n ∧ Wk n P w u z
  | false :: w, u, v => ∃ z, ¬ P v z ∧ z < n ∧ Wk n P w u z
def exc : List Bool → Int
  | [] => 0
  | true :: w => exc w + 1
  | false :: w => exc w - 1
def Cl (P : Nat → Nat → Prop) (d : Int) (e : Bool) (u v : Nat) : Prop :=
  (0 < d → Pd P d.toNat u v) ∧ (d = 0 → if e then u = v else Tr_ P u v) ∧ (d < 0 → ¬ Pd P (-d).toNat v u)
theorem pd1 {u v : Nat} : Pd P 1 u v ↔ P u v := ⟨fun ⟨z, h1, h2⟩ => by cases h1; exact h2, fun h => ⟨u, rfl, h⟩⟩
theorem walk_cl (S : Semi n P) : ∀ (w : List Bool) (u v : Nat), v < n → u < n → Wk n P w u v → Cl P (exc w) w.isEmpty u v := by
  intro w
  induction w with
  | nil =>
    intro u v hv hu h
    have h : u = v := h
    exact ⟨fun z => by simp [exc] at z, fun _ => h, fun z => by simp [exc] at z⟩
  | cons k w ih =>
    intro u v hv hu h
    cases k with
    | true =>
      obtain ⟨z, hz, zn, hw⟩ := h
      obtain ⟨c1, c2, c3⟩ := ih u z zn hu hw
      refine ⟨fun hd => ?_, fun hd => ?_, fun hd => ?_⟩
      · simp only [exc] at hd ⊢
        by_cases e : exc w = 0
        · have := c2 e
          rw [e]
          show Pd P 1 u v
          rw [pd1]
          split at this
          · rw [this]; exact hz
          · rcases this with ⟨y, y1, y2⟩ | ⟨y, y1, y2⟩
            · rcases S.three y z v u y1 hz hu with q | q
              · exact absurd q y2
              · exact q
            · rcases S.two u y z v y1 hz with q | q
              · exact q
              · exact absurd q y2
        · have := c1 (by omega)
          rw [show (exc w + 1).toNat = (exc w).toNat + 1 by omega]
          exact ⟨z, this, hz⟩
      · simp only [exc] at hd
        have := c3 (by omega)
        rw [show (-exc w).toNat = 1 by omega, pd1] at this
        exact .inl ⟨z, hz, this⟩
      · simp only [exc] at hd ⊢
        intro hp
        apply c3 (by omega)
        rw [show (-exc w).toNat = (-(exc w + 1)).toNat + 1 by omega, Pd_front]
        exact ⟨v, hz, hp⟩
    | false =>
      obtain ⟨z, hz, zn, hw⟩ := h
      obtain ⟨c1, c2, c3⟩ := ih u z zn hu hw
      refine ⟨fun hd => ?_, fun hd => ?_, fun hd => ?_⟩
      · simp only [exc] at hd ⊢
        have := c1 (by omega)
        obtain ⟨e, he⟩ : ∃ e, (exc w).toNat = e + 1 + 1 := ⟨(exc w).toNat - 2, by omega⟩
        rw [he] at this
        rw [show (exc w - 1).toNat = e + 1 by omega]
        obtain ⟨y', ⟨y, y1, y2⟩, y3⟩ := this
        refine ⟨y, y1, ?_⟩
        rcases S.three y y' z v y2 y3 hv with q | q
        · exact q
        · exact absurd q hz
      · simp only [exc] at hd
        have := c1 (by omega)
        rw [show (exc w).toNat = 1 by omega, pd1] at this
        exact .inr ⟨z, this, hz⟩
      · simp only [exc] at hd ⊢
        intro hp
        by_cases e : exc w = 0
        · have := c2 e
          rw [show (-(exc w - 1)).toNat = 1 by omega, pd1] at hp
          split at this
          · rw [this] at hp
            exact hz hp
          · rcases this with ⟨y, y1, y2⟩ | ⟨y, y1, y2⟩
            · rcases S.two y z v u y1 hp with q | q
              · exact y2 q
              · exact hz q
            · rcases S.three v u y z hp y1 zn with q | q
              · exact hz q
              · exact y2 q
        · apply c3 (by omega)
          obtain ⟨m, hm⟩ : ∃ m, (-exc w).toNat = m + 1 := ⟨(-exc w).toNat - 1, by omega⟩
          rw [show (-(exc w - 1)).toNat = m + 1 + 1 by omega, Pd_front] at hp
          obtain ⟨y, y1, hp⟩ := hp
          obtain ⟨y', y2, hp⟩ := Pd_front.mp hp
          rw [hm, Pd_front]
          refine ⟨y', ?_, hp⟩
          rcases S.three v y y' z y1 y2 zn with q | q
          · exact absurd q hz
          · exact q
/-- a walk back to where it began has more steps of the other kind -/
theorem walk_back (S : Semi n P) {w : List Bool} {v : Nat} (hv : v < n) (h : Wk n P w v v) (hw : w ≠ []) : exc w < 0 := by
  obtain ⟨c1, c2, _⟩ := walk_cl S w v v hv hv h
  apply Classical.byContradiction
  intro hn
  by_cases e : exc w = 0
  · have := c2 e
    rw [if_neg (by simpa using hw)] at this
    rcases this with ⟨z, z1, z2⟩ | ⟨z, z1, z2⟩ <;> exact z2 z1
  · have := c1 (by omega)
    obtain ⟨m, hm⟩ : ∃ m, (exc w).toNat = m + 1 := ⟨(exc w).toNat - 1, by omega⟩
    rw [hm] at this
    exact S.irr v (S.pd this)
end
/-! of an order that nothing bars -/
theorem semi_of {n : Int} {ps : List (Int × Int)} (o : IsOrd n ps) (hb : NoBar n ps) : Semi n.toNat fun a b => ((a : Int), (b : Int)) ∈ ps where
  irr := fun a h => (o.ok _ h).2.2 rfl
  rg := fun a b h => by have := o.ok _ h; simp only at this; omega
  two := fun a b c d h1 h2 => by
    have := hb.1 _ h1 _ h2
    apply Classical.byContradiction
    intro hn
    rw [not_or] at hn
    rw [twoB_iff.mpr ⟨h1, h2, hn.1, hn.2⟩] at this
    cases this
  three := fun a b c d h1 h2 hd => by
    have := hb.2 _ h1 _ h2 rfl d (by omega) (by omega)
    apply Classical.byContradiction
    intro hn
    rw [not_or] at hn
    rw [threeB_iff.mpr ⟨h1, h2, hn.1, hn.2⟩] at this
    cases this
def ctB (w : List Bool) : Nat := w.countP id
def cfB (w : List Bool) : Nat := w.countP not
theorem exc_ct : ∀ w : List Bool, exc w = (ctB w : Int) - cfB w ∧ ctB w + cfB w = w.length
  | [] => ⟨rfl, rfl⟩
  | true :: w => by
    have := exc_ct w
    simp only [exc, ctB, cfB, List.countP_cons, List.length_cons] at this ⊢
    simp only [id, Bool.not_true, if_true, Bool.false_eq_true, if_false]
    omega
  | false :: w => by
    have := exc_ct w
    simp only [exc, ctB, cfB, List.countP_cons, List.length_cons] at this ⊢
    simp only [id, Bool.not_false, if_true, Bool.false_eq_true, if_false]
    omega
/-- what raised each last, as a walk -/
theorem walk_of {n st : Int} {ps : List (Int × Int)} {p : Nat → Option It_} {xs : List It_} (h0 : 0 ≤ n) (hp : ∀ v x, p v = some x → x ∈ xs ∧ dstI x = v) (hx : ∀ x ∈ xs, x.1 ∈ stepsL n ps st) : ∀ (k v : Nat), dfP p v k →
    ∃ w : List Bool, w.length = k ∧ Wk n.toNat (fun a b => ((a : Int), (b : Int)) ∈ ps) w (itP p v k) v ∧ smP p v k = ctB w * st + cfB w * (1 - st)
  | 0, v, _ => ⟨[], rfl, rfl, by simp [smP, ctB, cfB]⟩
  | k + 1, v, ⟨⟨x, e⟩, hd⟩ => by
    obtain ⟨w, w1, w2, w3⟩ := walk_of h0 hp hx k _ hd
    obtain ⟨a1, a2⟩ := hp v x e
    obtain ⟨i, j, hi, hj, h⟩ := mem_steps.mp (hx x a1)
    rw [prP_some e] at w2 w3
    have e1 : itP p v (k + 1) = itP p (srcI x) k := by
      simp only [itP]
      rw [prP_some e]
    have e2 : smP p v (k + 1) = wtI x + smP p (srcI x) k := by
      simp only [smP]
      rw [wtP_some e, prP_some e]
    rw [e1, e2, w3]
    rcases h with ⟨h1, h2⟩ | ⟨h1, _, h2⟩
    · refine ⟨true :: w, by simp [w1], ⟨srcI x, ?_, ?_, w2⟩, ?_⟩
      · show ((srcI x : Int), (v : Int)) ∈ ps
        rw [← a2]
        unfold srcI dstI
        rw [h2]
        simp only
        rwa [Int.toNat_of_nonneg hi.1, Int.toNat_of_nonneg hj.1]
      · unfold srcI
        rw [h2]
        simp only
        omega
      · have : wtI x = st := by unfold wtI; rw [h2]
        rw [this]
        simp only [ctB, cfB, List.countP_cons, id, Bool.not_true, if_true, Bool.false_eq_true, if_false, Nat.add_zero]
        generalize List.countP id w = a
        generalize List.countP not w = b
        rw [Int.natCast_add, Int.add_mul]
        generalize (a : Int) * st = c
        simp
        omega
    · refine ⟨false :: w, by simp [w1], ⟨srcI x, ?_, ?_, w2⟩, ?_⟩
      · show ¬ ((v : Int), (srcI x : Int)) ∈ ps
        rw [← a2]
        unfold srcI dstI
        rw [h2]
        simp only
        rwa [Int.toNat_of_nonneg hi.1, Int.toNat_of_nonneg hj.1]
      · unfold srcI
        rw [h2]
        simp only
        omega
      · have : wtI x = 1 - st := by unfold wtI; rw [h2]
        rw [this]
        simp only [ctB, cfB, List.countP_cons, id, Bool.not_false, if_true, Bool.false_eq_true, if_false, Nat.add_zero]
        generalize List.countP id w = a
        generalize List.countP not w = b
        rw [Int.natCast_add, Int.add_mul]
        generalize (b : Int) * (1 - st) = c
        simp
        omega
theorem steps_okI {n st : Int} {ps : List (Int × Int)} (o : IsOrd n ps) {xs : List It_} (hx : ∀ x ∈ xs, x.1 ∈ stepsL n ps st) : Ok n.toNat xs := by
  intro x h
  obtain ⟨i, j, hi, hj, e⟩ := mem_steps.mp (hx x h)
  unfold srcI dstI
  rcases e with ⟨e1, e2⟩ | ⟨_, e1, e2⟩
  · have := (o.ok _ e1).2.2
    rw [e2]
    simp only at this ⊢
    omega
  · rw [e2]
    simp only
    omega
/-- by a threshold no less than there are things -/
theorem semi_some {n st : Int} {ps : List (Int × Int)} (o : IsOrd n ps) (hb : NoBar n ps) (hs : n ≤ st) : ∃ L, leastB n.toNat (edg n ps st) = some L := by
  cases e : leastB n.toNat (edg n ps st) with
  | some L => exact ⟨L, rfl⟩
  | none =>
    exfalso
    have hlo := o.lo
    have hE : ∀ x ∈ (stepsL n ps st).map fun t => ((t, PyData.none) : It_), x.1 ∈ stepsL n ps st := fun x hx => by
      obtain ⟨t, ht, rfl⟩ := List.mem_map.mp hx
      exact ht
    have ok := steps_okI o hE
    have er := runS_B (n := n.toNat) (xs := (stepsL n ps st).map fun t => ((t, PyData.none) : It_)) (fun x hx => (ok x hx).2.2.2.1) (n.toNat + 1) ⟨zeros n.toNat, [], none⟩ (by simp [zeros])
    rw [List.map_map] at er
    have e' : (runS ((stepsL n ps st).map fun t => ((t, PyData.none) : It_)) (n.toNat + 1) ⟨zeros n.toNat, [], none⟩).1 = none := by
      rw [er]
      exact e
    obtain ⟨p, c, _, hc, _, _, hp, hcyc, hd, hlt, m, C⟩ := run_cyc ok e'
    obtain ⟨w, w1, w2, w3⟩ := walk_of (by omega) hp hE m (itP p c n.toNat) C.df
    rw [C.it] at w2
    have hneg := walk_back (semi_of o hb) hlt w2 (fun z => by
      rw [z] at w1
      have := C.pos
      simp at w1
      omega)
    have hpos := hcyc _ m C.pos C.df C.it
    obtain ⟨x1, x2⟩ := exc_ct w
    rw [w3] at hpos
    have hle := C.le
    obtain ⟨r, hr⟩ : ∃ r : Nat, cfB w = ctB w + 1 + r := ⟨cfB w - ctB w - 1, by omega⟩
    rw [hr] at hpos
    have h1 : ((ctB w + 1 + r : Nat) : Int) * (1 - st) = (ctB w : Int) + 1 + r - ctB w * st - st - r * st := by
      rw [Int.natCast_add, Int.natCast_add, Int.mul_sub, Int.mul_one, Int.add_mul, Int.add_mul]
      simp only [Int.one_mul, Int.natCast_one]
      omega
    rw [h1] at hpos
    have h2 : 0 ≤ (r : Int) * st := Int.mul_nonneg (by omega) (by omega)
    omega
end Nv

set_option linter.all false
set_option maxRecDepth 100000
namespace Nv
open PySem
/-- tells_all -/
def d_tells_all : Def where
  n := 4
  ps := [false, false]
  body := [
    .drop (.call 0 [.imm (.var 0)]),
    .ite (.or (.not (.call 1 [.imm (.var 1)])) (.op .ne [.imm (.op .len [.imm (.var 1)]), .imm (.op .idx [.imm (.op .idx [.imm (.op .idx [.imm (.var 0), .imm (.cst (.int 0))]), .imm (.cst (.int 0))]), .imm (.cst (.int 0))])]))
    [.raise 4]
    [],
    .ret (.op .allB [.imm (.lc (.op .eq [.imm (.call 2 [.imm (.var 3), .imm (.var 1)]), .imm (.var 2)]) [2, 3] false (.seq (.imm (.var 0))) none)])]
def t_tells_all : Tb where
  N := ["several", "numbers", "order", "step"]
  fns := [("need_several", [false], f_need_several), ("are_numbers", [false], f_are_numbers), ("order_by", [false, false], f_order_by)]
  gls := []
  exs := [(4, "NoNumbers")]
def f_tells_all : Fn := evDef t_tells_all.G d_tells_all

/-- is_bar_for -/
def d_is_bar_for : Def where
  n := 8
  ps := [false, false]
  body := [
    .drop (.call 0 [.imm (.var 0)]),
    .asg 2 (.op .idx [.imm (.op .idx [.imm (.op .idx [.imm (.var 0), .imm (.cst (.int 0))]), .imm (.cst (.int 0))]), .imm (.cst (.int 0))]),
    .ite (.or (.not (.op .isList [.imm (.var 1)])) (.not (.leLe (.cst (.int 2)) (.op .len [.imm (.var 1)]) (.var 2))))
    [.ret (.cst (.bool false))]
    [],
    .for_ [3] true (.seq (.imm (.var 1))) []
    [.ite (.or (.not (.op .isTup [.imm (.var 3)])) (.or (.op .ne [.imm (.op .len [.imm (.var 3)]), .imm (.cst (.int 2))]) (.not (.call 1 [.imm (.op .idx [.imm (.var 3), .imm (.cst (.int 0))]), .imm (.cst (.int 0)), .imm (.op .sub [.imm (.var 2), .imm (.cst (.int 1))])]))))
    [.ret (.cst (.bool false))]
    [],
    .ite (.not (.call 1 [.imm (.op .idx [.imm (.var 3), .imm (.cst (.int 1))]), .imm (.cst (.int 0)), .imm (.op .sub [.imm (.op .len [.imm (.var 0)]), .imm (.cst (.int 1))])]))
    [.ret (.cst (.bool false))]
    []],
    .ite (.op .ne [.imm (.op .lenSet [.imm (.lc (.op .idx [.imm (.var 3), .imm (.cst (.int 0))]) [3] true (.seq (.imm (.var 1))) none)]), .imm (.op .len [.imm (.var 1)])])
    [.ret (.cst (.bool false))]
    [],
    .asg 4 (.cst (.int 0)),
    .for_ [3, 5] false (.zip (.imm (.var 1)) (.imm (.op .add [.imm (.op .slT [.imm (.var 1), .imm (.cst (.int 1))]), .imm (.op .slH [.imm (.var 1), .imm (.cst (.int 1))])]))) [3, 5, 6, 7]
    [.unp [6, 7] (.op .idx [.imm (.var 0), .imm (.op .idx [.imm (.var 3), .imm (.cst (.int 1))])]),
    .ite (.op .inn [.imm (.tup [.imm (.op .idx [.imm (.var 3), .imm (.cst (.int 0))]), .imm (.op .idx [.imm (.var 5), .imm (.cst (.int 0))])]), .imm (.op .idx [.imm (.var 6), .imm (.cst (.int 1))])])
    [.asg 4 (.op .add [.imm (.var 4), .imm (.var 7)])]
    [.ite (.op .inn [.imm (.tup [.imm (.op .idx [.imm (.var 5), .imm (.cst (.int 0))]), .imm (.op .idx [.imm (.var 3), .imm (.cst (.int 0))])]), .imm (.op .idx [.imm (.var 6), .imm (.cst (.int 1))])])
    [.ret (.cst (.bool false))]
    [.asg 4 (.op .sub [.imm (.op .add [.imm (.var 4), .imm (.cst (.int 1))]), .imm (.var 7)])]]],
    .ret (.op .gt [.imm (.var 4), .imm (.cst (.int 0))])]
def t_is_bar_for : Tb where
  N := ["several", "thing", "many", "part", "total", "later", "order", "step"]
  fns := [("need_several", [false], f_need_several), ("is_whole", [false, false, false], f_is_whole)]
  gls := []
  exs := []
def f_is_bar_for : Fn := evDef t_is_bar_for.G d_is_bar_for

/-- is_round -/
def d_is_round : Def where
  n := 6
  ps := [false, false, false]
  body := [
    .drop (.call 0 [.imm (.var 0)]),
    .drop (.call 1 [.imm (.var 1)]),
    .ite (.or (.not (.op .isList [.imm (.var 2)])) (.not (.leLe (.cst (.int 2)) (.op .len [.imm (.var 2)]) (.glob 0))))
    [.ret (.cst (.bool false))]
    [],
    .ite (.or (.not (.op .allB [.imm (.lc (.call 2 [.imm (.var 4), .imm (.cst (.int 0)), .imm (.op .sub [.imm (.op .idx [.imm (.var 0), .imm (.cst (.int 0))]), .imm (.cst (.int 1))])]) [4] true (.seq (.imm (.var 2))) none)])) (.op .ne [.imm (.op .lenSet [.imm (.var 2)]), .imm (.op .len [.imm (.var 2)])]))
    [.ret (.cst (.bool false))]
    [],
    .asg 3 (.cst (.int 0)),
    .for_ [4, 5] false (.zip (.imm (.var 2)) (.imm (.op .add [.imm (.op .slT [.imm (.var 2), .imm (.cst (.int 1))]), .imm (.op .slH [.imm (.var 2), .imm (.cst (.int 1))])]))) [4, 5]
    [.ite (.op .inn [.imm (.tup [.imm (.var 4), .imm (.var 5)]), .imm (.op .idx [.imm (.var 0), .imm (.cst (.int 1))])])
    [.asg 3 (.op .add [.imm (.var 3), .imm (.var 1)])]
    [.ite (.op .inn [.imm (.tup [.imm (.var 5), .imm (.var 4)]), .imm (.op .idx [.imm (.var 0), .imm (.cst (.int 1))])])
    [.ret (.cst (.bool false))]
    [.asg 3 (.op .sub [.imm (.op .add [.imm (.var 3), .imm (.cst (.int 1))]), .imm (.var 1)])]]],
    .ret (.op .gt [.imm (.var 3), .imm (.cst (.int 0))])]
def t_is_round : Tb where
  N := ["order", "step", "thing", "total", "one", "other"]
  fns := [("need_order", [false], f_need_order), ("need_step", [false], f_need_step), ("is_whole", [false, false, false], f_is_whole)]
  gls := [("MANY", .int 8)]
  exs := []
def f_is_round : Fn := evDef t_is_round.G d_is_round

/-- _law_is_round -/
def d_law_is_round : Def where
  n := 10
  ps := [false, false]
  body := [
    .asg 2 (.op .idx [.imm (.op .idx [.imm (.op .idx [.imm (.var 0), .imm (.cst (.int 0))]), .imm (.cst (.int 0))]), .imm (.cst (.int 0))]),
    .ite (.or (.not (.op .isList [.imm (.var 1)])) (.op .lt [.imm (.op .len [.imm (.var 1)]), .imm (.cst (.int 2))]))
    [.ret (.cst (.bool false))]
    [],
    .for_ [3] true (.seq (.imm (.var 1))) []
    [.ite (.or (.not (.op .isTup [.imm (.var 3)])) (.op .ne [.imm (.op .len [.imm (.var 3)]), .imm (.cst (.int 2))]))
    [.ret (.cst (.bool false))]
    [],
    .ite (.op .ne [.imm (.lc (.var 5) [5] true (.seq (.imm (.var 3))) (some (.or (.not (.op .isInt [.imm (.var 5)])) (.or (.op .isBool [.imm (.var 5)]) (.op .lt [.imm (.var 5), .imm (.cst (.int 0))]))))), .imm (.lst [])])
    [.ret (.cst (.bool false))]
    [],
    .ite (.or (.op .ge [.imm (.op .idx [.imm (.var 3), .imm (.cst (.int 0))]), .imm (.var 2)]) (.op .ge [.imm (.op .idx [.imm (.var 3), .imm (.cst (.int 1))]), .imm (.op .len [.imm (.var 0)])]))
    [.ret (.cst (.bool false))]
    []],
    .ite (.op .lt [.imm (.op .lenSet [.imm (.lc (.op .idx [.imm (.var 3), .imm (.cst (.int 0))]) [3] true (.seq (.imm (.var 1))) none)]), .imm (.op .len [.imm (.var 1)])])
    [.ret (.cst (.bool false))]
    [],
    .asg 4 (.cst (.int 0)),
    .for_ [5] true (.rng (.imm (.op .len [.imm (.var 1)]))) [5, 6, 7, 8, 9]
    [.par 6 7 (.op .idx [.imm (.op .idx [.imm (.var 1), .imm (.var 5)]), .imm (.cst (.int 0))]) (.op .idx [.imm (.op .idx [.imm (.var 1), .imm (.op .mod [.imm (.op .add [.imm (.var 5), .imm (.cst (.int 1))]), .imm (.op .len [.imm (.var 1)])])]), .imm (.cst (.int 0))]),
    .unp [8, 9] (.op .idx [.imm (.var 0), .imm (.op .idx [.imm (.op .idx [.imm (.var 1), .imm (.var 5)]), .imm (.cst (.int 1))])]),
    .ite (.and (.op .inn [.imm (.tup [.imm (.var 7), .imm (.var 6)]), .imm (.op .idx [.imm (.var 8), .imm (.cst (.int 1))])]) (.op .nin [.imm (.tup [.imm (.var 6), .imm (.var 7)]), .imm (.op .idx [.imm (.var 8), .imm (.cst (.int 1))])]))
    [.ret (.cst (.bool false))]
    [],
    .asg 4 (.op .add [.imm (.var 4), .imm (.ite (.op .inn [.imm (.tup [.imm (.var 6), .imm (.var 7)]), .imm (.op .idx [.imm (.var 8), .imm (.cst (.int 1))])]) (.var 9) (.op .sub [.imm (.cst (.int 1)), .imm (.var 9)]))])],
    .ret (.op .gt [.imm (.var 4), .imm (.cst (.int 0))])]
def t_law_is_round : Tb where
  N := ["_law_several_here", "_law_thing", "_law_many", "_law_part", "_law_total", "_law_at", "_law_one", "_law_other", "_law_order", "_law_step"]
  fns := []
  gls := []
  exs := []
def f_law_is_round : Fn := evDef t_law_is_round.G d_law_is_round

end Nv

set_option linter.all false
set_option maxRecDepth 100000
namespace Nv
open PySem
/-! ### mending: how far two orders are -/
def rng2L (i j : Int) : List Int := (List.range (j - i).toNat).map fun (k : Nat) => i + k
theorem rng2_L {i j : Int} (h : -1000000 ≤ i ∧ i ≤ 1000000 ∧ -1000000 ≤ j ∧ j ≤ 1000000) : itRng2 [.int i, .int j] = some ((rng2L i j).map .int) := by
  show (if _ then _ else _) = _
  rw [if_pos h, rng2L, List.map_map]
  rfl
theorem mem_rng2 {i j x : Int} : x ∈ rng2L i j ↔ i ≤ x ∧ x < j := by
  unfold rng2L
  rw [List.mem_map]
  constructor
  · rintro ⟨k, hk, rfl⟩
    rw [List.mem_range] at hk
    omega
  · intro h
    exact ⟨(x - i).toNat, List.mem_range.mpr (by omega), by omega⟩
theorem rng2_pw (i j : Int) : (rng2L i j).Pairwise (· < ·) := by
  unfold rng2L
  rw [List.pairwise_map]
  exact List.pairwise_lt_range.imp fun {a b} h => by omega
theorem rng2_len (i j : Int) : (rng2L i j).length = (j - i).toNat := by simp [rng2L]
def twosL (n : Int) : List (Int × Int) := (upTo n).flatMap fun i => (rng2L (i + 1) n).map fun j => (i, j)
theorem mem_twos {n : Int} {p : Int × Int} : p ∈ twosL n ↔ 0 ≤ p.1 ∧ p.1 < p.2 ∧ p.2 < n := by
  unfold twosL
  simp only [List.mem_flatMap, List.mem_map, mem_upTo, mem_rng2]
  constructor
  · rintro ⟨i, hi, j, hj, rfl⟩
    simp only
    omega
  · intro h
    exact ⟨p.1, by omega, p.2, by omega, rfl⟩
theorem twos_pw (n : Int) : (twosL n).Pairwise lexLt := by
  have key : ∀ l : List Int, l.Pairwise (· < ·) → (l.flatMap fun i => (rng2L (i + 1) n).map fun j => (i, j)).Pairwise lexLt := by
    intro l
    induction l with
    | nil => intro _; exact List.Pairwise.nil
    | cons x xs ih =>
      intro h
      rw [List.pairwise_cons] at h
      rw [List.flatMap_cons, List.pairwise_append]
      refine ⟨?_, ih h.2, fun a ha b hb => ?_⟩
      · rw [List.pairwise_map]
        exact (rng2_pw _ _).imp fun {a b} hab => .inr ⟨rfl, hab⟩
      · obtain ⟨j, _, rfl⟩ := List.mem_map.mp ha
        obtain ⟨i, hi, hb⟩ := List.mem_flatMap.mp hb
        obtain ⟨k, _, rfl⟩ := List.mem_map.mp hb
        exact .inl (h.1 i hi)
  exact key _ (upTo_pw n)
theorem twos_nodup (n : Int) : (twosL n).Nodup := pw_nodup (twos_pw n)
theorem twos_len {n : Int} (h8 : n ≤ 8) : (twosL n).length ≤ 64 := by
  unfold twosL
  have h1 := flat_len (k := 8) (xs := upTo n) (g := fun i => (rng2L (i + 1) n).map fun j => (i, j)) fun i hi => by
    have := mem_upTo.mp hi
    rw [List.length_map, rng2_len]
    omega
  have := upTo_len h8
  omega
theorem twos_ok {n : Int} (h0 : 0 ≤ n) (h8 : n ≤ 8) : f_twos [.int n] = .ok (.list ((twosL n).map pairD)) [] := by
  have hz := sizeLine_eq
  have h2z := two_le
  simp [f_twos, evDef_eq, d_twos, rng_upTo (show n ≤ 1000000 by omega) (by omega)]
  rw [forL_rwE PyData.int (fun s : List (Int × Int) => [.im (.int n), .mu (.list (s.map pairD)), .no, .no]) (fun s i => s ++ (rng2L (i + 1) n).map fun j => (i, j)) (fun i s => s.length ≤ 8 * i) [] (by simp) ?_ ?_]
  · rw [foldl_app, List.nil_append]
    simp
    rfl
  · rfl
  · intro j i hi s hs
    have hj : j < (upTo n).length := (List.getElem?_eq_some_iff.mp hi).1
    have him := mem_upTo.mp (List.mem_of_getElem? hi)
    have hul := upTo_len h8
    have hr := rng2_L (i := i + 1) (j := n) (by omega)
    have hrl := rng2_len (i + 1) n
    simp [bodyR, tgE, hr]
    rw [lcR_map PyData.int (fun j => pairD (i, j)) ?_ rfl]
    · have hsz : s.length + (rng2L (i + 1) n).length ≤ sizeLine := by omega
      simp [hsz]
      omega
    · intro k hk
      simp [lcB, tgE, h2z, pairD]
def saidB (ps : List (Int × Int)) (p : Int × Int) : Bool × Bool := (decide (p ∈ ps), decide ((p.2, p.1) ∈ ps))
def saidD (s : Bool × Bool) : D := .tuple [.bool s.1, .bool s.2]
theorem said_ok {n : Int} {ps : List (Int × Int)} (p : Int × Int) : f_said_of [ordD n ps, pairD p] = .ok (saidD (saidB ps p)) [] := by
  have h2z := two_le
  have e1 := inP ps p.1 p.2
  have e2 := inP ps p.2 p.1
  simp [f_said_of, evDef_eq, d_said_of, ordD, pairD, h2z, e1, e2, saidD, saidB]
theorem neSaid (s t : Bool × Bool) : pNe [saidD s, saidD t] = some (.bool (decide (s ≠ t))) := by
  obtain ⟨a, b⟩ := s
  obtain ⟨c, d⟩ := t
  cases a <;> cases b <;> cases c <;> cases d <;> rfl
def difB (ps qs : List (Int × Int)) (p : Int × Int) : Bool := decide (saidB ps p ≠ saidB qs p)
def farN (n : Int) (ps qs : List (Int × Int)) : Nat := (twosL n).countP (difB ps qs)
theorem far_ok {n m : Int} {ps qs : List (Int × Int)} (h0 : 0 ≤ n) (h8 : n ≤ 8) : f_far [ordD n ps, ordD m qs] = .ok (.int (farN n ps qs)) [] := by
  have f1 : t_far.G.fn 1 = some ([false, false], f_said_of) := rfl
  have f0 : t_far.G.fn 0 = some ([false], f_twos) := rfl
  simp [f_far, evDef_eq, d_far, f0, ord0, callW_0 (twos_ok h0 h8)]
  rw [lcR_filter pairD (difB ps qs) pairD ?_ rfl]
  · simp [farN, List.countP_eq_length_filter]
  · intro p hp
    simp [lcB, tgE, f1, callW_0 (said_ok p), neSaid, difB]
    by_cases e : saidB ps p = saidB qs p <;> simp [e]
theorem unlike_ok {n : Int} {ps qs : List (Int × Int)} (h : IsOrd n ps) (g : IsOrd n qs) : f_unlike [ordD n ps, ordD n qs] = .ok (.int (farN n ps qs)) [] := by
  have := h.lo
  simp [f_unlike, evDef_eq, d_unlike, Tb.G, t_unlike, callW_0 (need_order_ok h), callW_0 (need_order_ok g), ord0, callW_0 (far_ok (n := n) (m := n) (ps := ps) (qs := qs) (by omega) h.hi)]
theorem unlike_bad {n m : Int} {ps qs : List (Int × Int)} (h : IsOrd n ps) (g : IsOrd m qs) (hn : n ≠ m) : f_unlike [ordD n ps, ordD m qs] = .exc 5 [] := by
  simp [f_unlike, evDef_eq, d_unlike, Tb.G, t_unlike, callW_0 (need_order_ok h), callW_0 (need_order_ok g), ord0, hn]
theorem difB_comm (ps qs : List (Int × Int)) : difB ps qs = difB qs ps := by
  funext p
  unfold difB
  rw [decide_eq_decide]
  exact ⟨Ne.symm, Ne.symm⟩
theorem farN_comm (n : Int) (ps qs : List (Int × Int)) : farN n ps qs = farN n qs ps := by
  unfold farN
  rw [difB_comm]
theorem farN_self (n : Int) (ps : List (Int × Int)) : farN n ps ps = 0 := by
  unfold farN
  rw [List.countP_eq_zero]
  intro p _
  simp [difB]
theorem countP_tri {α : Type} {f g h : α → Bool} (w : ∀ x, f x = true → g x = true ∨ h x = true) : ∀ l : List α, l.countP f ≤ l.countP g + l.countP h
  | [] => by simp
  | x :: xs => by
    have ih := countP_tri w xs
    rw [List.countP_cons, List.countP_cons, List.countP_cons]
    have := w x
    cases e1 : f x <;> cases e2 : g x <;> cases e3 : h x <;> simp_all <;> omega
theorem farN_tri (n : Int) (ps qs rs : List (Int × Int)) : farN n ps qs ≤ farN n ps rs + farN n rs qs := by
  refine countP_tri (fun p h => ?_) _
  simp only [difB, decide_eq_true_eq] at *
  by_cases e : saidB ps p = saidB rs p
  · right
    rw [← e]
    exact h
  · exact .inl e
end Nv

set_option linter.all false
set_option maxRecDepth 100000
namespace Nv
open PySem
/-! ### mending: all orders that nothing bars, the nearest -/
def rowD (r : List (Int × Int)) : D := .tuple (r.map pairD)
def rowsStep (rows : List (List (Int × Int))) (p : Int × Int) : List (List (Int × Int)) := (rows ++ rows.map (· ++ [p])) ++ rows.map (· ++ [swp p])
def rowsOf (l : List (Int × Int)) : List (List (Int × Int)) := l.foldl rowsStep [[]]
theorem rowsOf_snoc (l : List (Int × Int)) (p : Int × Int) : rowsOf (l ++ [p]) = rowsStep (rowsOf l) p := by
  unfold rowsOf
  rw [List.foldl_append]
  rfl
theorem mem_step {rows : List (List (Int × Int))} {p : Int × Int} {r : List (Int × Int)} : r ∈ rowsStep rows p ↔ r ∈ rows ∨ (∃ q ∈ rows, r = q ++ [p]) ∨ ∃ q ∈ rows, r = q ++ [swp p] := by
  unfold rowsStep
  rw [List.mem_append, List.mem_append, List.mem_map, List.mem_map]
  constructor
  · rintro ((h | ⟨q, h, rfl⟩) | ⟨q, h, rfl⟩)
    · exact .inl h
    · exact .inr (.inl ⟨q, h, rfl⟩)
    · exact .inr (.inr ⟨q, h, rfl⟩)
  · rintro (h | ⟨q, h, rfl⟩ | ⟨q, h, rfl⟩)
    · exact .inl (.inl h)
    · exact .inl (.inr ⟨q, h, rfl⟩)
    · exact .inr ⟨q, h, rfl⟩
theorem snocInd {α : Type} {P : List α → Prop} (h0 : P []) (h1 : ∀ l x, P l → P (l ++ [x])) : ∀ l, P l := fun l => by
  have key : ∀ l : List α, P l.reverse := fun l => by
    induction l with
    | nil => exact h0
    | cons x xs ih =>
      rw [List.reverse_cons]
      exact h1 _ _ ih
  have := key l.reverse
  rwa [List.reverse_reverse] at this
theorem nodup_snoc {α : Type} {l : List α} {x : α} : (l ++ [x]).Nodup ↔ l.Nodup ∧ x ∉ l := by
  rw [List.nodup_append]
  constructor
  · rintro ⟨h1, _, h3⟩
    exact ⟨h1, fun hm => h3 x hm x List.mem_cons_self rfl⟩
  · rintro ⟨h1, h2⟩
    refine ⟨h1, by simp, fun a ha b hb e => ?_⟩
    simp at hb
    rw [hb] at e
    rw [e] at ha
    exact h2 ha
theorem swp_swp (p : Int × Int) : swp (swp p) = p := rfl
/-- what a row holds -/
theorem rows_ok {n : Int} : ∀ (l : List (Int × Int)), l.Nodup → (∀ p ∈ l, p.1 < p.2) → ∀ r ∈ rowsOf l, r.Nodup ∧ r.length ≤ l.length ∧ ∀ p ∈ r, p ∈ l ∨ swp p ∈ l := by
  refine snocInd ?_ ?_
  · intro _ _ r hr
    simp [rowsOf] at hr
    subst hr
    exact ⟨List.nodup_nil, Nat.le_refl _, fun p hp => by cases hp⟩
  · intro l p ih hn ho r hr
    obtain ⟨hn1, hn2⟩ := nodup_snoc.mp hn
    have ih := ih hn1 fun q hq => ho q (List.mem_append_left _ hq)
    have hp := ho p (by simp)
    rw [rowsOf_snoc, mem_step] at hr
    have up : ∀ q : Int × Int, q ∈ l ∨ swp q ∈ l → q ∈ l ++ [p] ∨ swp q ∈ l ++ [p] := fun q h => h.imp (List.mem_append_left _) (List.mem_append_left _)
    rcases hr with hr | ⟨q, hq, rfl⟩ | ⟨q, hq, rfl⟩
    · obtain ⟨h1, h2, h3⟩ := ih r hr
      exact ⟨h1, by rw [List.length_append]; omega, fun x hx => up x (h3 x hx)⟩
    · obtain ⟨h1, h2, h3⟩ := ih q hq
      refine ⟨nodup_snoc.mpr ⟨h1, fun hm => ?_⟩, by rw [List.length_append, List.length_append]; simp; omega, fun x hx => ?_⟩
      · rcases h3 p hm with z | z
        · exact hn2 z
        · have := ho (swp p) (List.mem_append_left _ z)
          unfold swp at this
          simp only at this
          omega
      · rcases List.mem_append.mp hx with hx | hx
        · exact up x (h3 x hx)
        · simp at hx
          rw [hx]
          exact .inl (by simp)
    · obtain ⟨h1, h2, h3⟩ := ih q hq
      refine ⟨nodup_snoc.mpr ⟨h1, fun hm => ?_⟩, by rw [List.length_append, List.length_append]; simp; omega, fun x hx => ?_⟩
      · rcases h3 _ hm with z | z
        · have := ho (swp p) (List.mem_append_left _ z)
          unfold swp at this
          simp only at this
          omega
        · rw [swp_swp] at z
          exact hn2 z
      · rcases List.mem_append.mp hx with hx | hx
        · exact up x (h3 x hx)
        · simp at hx
          rw [hx]
          exact .inr (by rw [swp_swp]; simp)
/-- any choice is a row -/
theorem rows_all {ps : List (Int × Int)} (asym : ∀ a b, (a, b) ∈ ps → (b, a) ∉ ps) : ∀ (l : List (Int × Int)), ∃ r ∈ rowsOf l, ∀ p, p ∈ r ↔ p ∈ ps ∧ (p ∈ l ∨ swp p ∈ l) := by
  refine snocInd ?_ ?_
  · exact ⟨[], by simp [rowsOf], fun p => by simp⟩
  · rintro l p ⟨r, hr, h⟩
    rw [rowsOf_snoc]
    have e : ∀ q : Int × Int, (q ∈ l ++ [p] ∨ swp q ∈ l ++ [p]) ↔ (q ∈ l ∨ swp q ∈ l) ∨ q = p ∨ q = swp p := fun q => by
      simp only [List.mem_append, List.mem_cons, List.not_mem_nil, or_false]
      constructor
      · rintro ((z | z) | (z | z))
        · exact .inl (.inl z)
        · exact .inr (.inl z)
        · exact .inl (.inr z)
        · exact .inr (.inr (by rw [← z, swp_swp]))
      · rintro ((z | z) | z | z)
        · exact .inl (.inl z)
        · exact .inr (.inl z)
        · exact .inl (.inr z)
        · exact .inr (.inr (by rw [z, swp_swp]))
    by_cases h1 : p ∈ ps
    · have h2 : swp p ∉ ps := asym p.1 p.2 h1
      refine ⟨r ++ [p], mem_step.mpr (.inr (.inl ⟨r, hr, rfl⟩)), fun q => ?_⟩
      rw [e, List.mem_append, h]
      simp only [List.mem_cons, List.not_mem_nil, or_false]
      constructor
      · rintro (⟨z1, z2⟩ | z)
        · exact ⟨z1, .inl z2⟩
        · exact ⟨by rw [z]; exact h1, .inr (.inl z)⟩
      · rintro ⟨z1, z2 | z2 | z2⟩
        · exact .inl ⟨z1, z2⟩
        · exact .inr z2
        · rw [z2] at z1
          exact absurd z1 h2
    · by_cases h2 : swp p ∈ ps
      · refine ⟨r ++ [swp p], mem_step.mpr (.inr (.inr ⟨r, hr, rfl⟩)), fun q => ?_⟩
        rw [e, List.mem_append, h]
        simp only [List.mem_cons, List.not_mem_nil, or_false]
        constructor
        · rintro (⟨z1, z2⟩ | z)
          · exact ⟨z1, .inl z2⟩
          · exact ⟨by rw [z]; exact h2, .inr (.inr z)⟩
        · rintro ⟨z1, z2 | z2 | z2⟩
          · exact .inl ⟨z1, z2⟩
          · rw [z2] at z1
            exact absurd z1 h1
          · exact .inr z2
      · refine ⟨r, mem_step.mpr (.inl hr), fun q => ?_⟩
        rw [e, h]
        constructor
        · rintro ⟨z1, z2⟩
          exact ⟨z1, .inl z2⟩
        · rintro ⟨z1, z2 | z2 | z2⟩
          · exact ⟨z1, z2⟩
          · rw [z2] at z1
            exact absurd z1 h1
          · rw [z2] at z1
            exact absurd z1 h2
theorem rows_len : ∀ l : List (Int × Int), (rowsOf l).length = 3 ^ l.length := by
  refine snocInd rfl fun l p ih => ?_
  rw [rowsOf_snoc, rowsStep]
  simp only [List.length_append, List.length_map, ih, List.length_cons, List.length_nil, Nat.pow_succ]
  omega
theorem row_ord {n : Int} (h1 : 1 ≤ n) (h8 : n ≤ 8) {r : List (Int × Int)} (hr : r ∈ rowsOf (twosL n)) : IsOrd n (srtQ r) := by
  obtain ⟨k1, k2, k3⟩ := rows_ok (n := n) (twosL n) (twos_nodup n) (fun p hp => (mem_twos.mp hp).2.1) r hr
  refine srt_ord h1 h8 k1 fun p hp => ?_
  rcases k3 p hp with z | z
  · have := mem_twos.mp z
    omega
  · have := mem_twos.mp z
    unfold swp at this
    simp only at this
    omega
theorem noBar_asym {n : Int} {ps : List (Int × Int)} (h : IsOrd n ps) (hb : NoBar n ps) (a b : Int) (hab : (a, b) ∈ ps) : (b, a) ∉ ps := fun hba => by
  have := hb.1 _ hab _ hba
  rw [Bool.eq_false_iff, ne_eq, twoB_iff] at this
  exact this ⟨hab, hba, fun z => (h.ok _ z).2.2 rfl, fun z => (h.ok _ z).2.2 rfl⟩
theorem row_of {n : Int} {ps : List (Int × Int)} (h : IsOrd n ps) (hb : NoBar n ps) : ∃ r ∈ rowsOf (twosL n), srtQ r = ps := by
  obtain ⟨r, hr, hm⟩ := rows_all (fun a b => noBar_asym h hb a b) (twosL n)
  refine ⟨r, hr, pw_ext (row_ord h.lo h.hi hr).pw h.pw fun p => ?_⟩
  rw [(srtQ_perm _).mem_iff, hm]
  constructor
  · exact fun z => z.1
  · intro z
    have := h.ok p z
    refine ⟨z, ?_⟩
    rcases Int.lt_or_gt_of_ne this.2.2 with k | k
    · exact .inl (mem_twos.mpr (by omega))
    · exact .inr (mem_twos.mpr (by unfold swp; simp only; omega))
theorem pl_five {w : Str} (hw : PyData.strOk w = true) (p q : Int × Int) : plN 1 (five w p q) = true := by simp [five, plN, hw]
theorem pl_bars (n : Int) (ps : List (Int × Int)) : ∀ x ∈ barsAll n ps, plN 1 x = true := by
  intro d hd
  unfold barsAll at hd
  rw [List.mem_append, (srtD_perm _).mem_iff, (srtD_perm _).mem_iff] at hd
  rcases hd with hd | hd
  · obtain ⟨p, _, hp⟩ := List.mem_flatMap.mp hd
    obtain ⟨q, _, rfl⟩ := List.mem_map.mp hp
    exact pl_five ok2 p q
  · obtain ⟨p, _, hp⟩ := List.mem_flatMap.mp hd
    obtain ⟨q, _, hq⟩ := List.mem_flatMap.mp hp
    unfold threesIn at hq
    split at hq
    · obtain ⟨d', _, rfl⟩ := List.mem_map.mp hq
      exact pl_five ok3 p _
    · cases hq
def freeB (n : Int) (ps : List (Int × Int)) : Bool := (barsAll n ps).isEmpty
theorem freeB_iff {n : Int} {ps : List (Int × Int)} : freeB n ps = true ↔ NoBar n ps := by
  unfold freeB
  rw [List.isEmpty_iff, barsAll_nil]
theorem eqBars (n : Int) (ps : List (Int × Int)) : pEq [.list (barsAll n ps), .list []] = some (.bool (freeB n ps)) :=
  pEq_pl (n := 2) (m := 2) (pl_list (pl_bars n ps)) (pl_list (fun x hx => by cases hx)) (by decide) (by decide) (by unfold freeB; rw [List.isEmpty_iff]; simp)
theorem neBars (n : Int) (ps : List (Int × Int)) : pNe [.list (barsAll n ps), .list []] = some (.bool (!freeB n ps)) :=
  pNe_pl (n := 2) (m := 2) (pl_list (pl_bars n ps)) (pl_list (fun x hx => by cases hx)) (by decide) (by decide) (by unfold freeB; rw [List.isEmpty_iff]; simp)
theorem pl_ord (n : Int) (ps : List (Int × Int)) : plN 3 (ordD n ps) = true := pl_tuple (n := 2) fun x hx => by
  simp only [List.mem_cons, List.not_mem_nil, or_false] at hx
  rcases hx with rfl | rfl
  · rfl
  · exact pl_tuple (pl_pairs ps)
theorem alike_pairs : ∀ ps qs : List (Int × Int), PySem.W.alikeAll (ps.map pairD) (qs.map pairD) = true
  | [], _ => by simp [PySem.W.alikeAll]
  | _ :: _, [] => by simp [PySem.W.alikeAll]
  | p :: ps, q :: qs => by
    simp only [List.map_cons, PySem.W.alikeAll, Bool.and_eq_true]
    exact ⟨alike_pair p q, alike_pairs ps qs⟩
theorem alike_ord (n m : Int) (ps qs : List (Int × Int)) : PySem.W.alike (ordD n ps) (ordD m qs) = true := by
  simp [ordD, PySem.W.alike, PySem.W.alikeAll, alike_pairs]
/-- a row of tuples that begin, sorted -/
theorem srtOk_tups {k : Nat} {ds : List D} (hk : k ≤ 32) (h1 : ∀ d ∈ ds, plN k d = true) (h2 : ∀ d ∈ ds, ∃ x xs, d = .tuple (x :: xs)) (h3 : ∀ d ∈ ds, ∀ e ∈ ds, PySem.W.alike d e = true) : srtOk ds = true := by
  unfold srtOk
  rw [Bool.and_eq_true, Bool.or_eq_true]
  refine ⟨List.all_eq_true.mpr fun x hx => ?_, .inl (List.all_eq_true.mpr fun x hx => ?_)⟩
  · rw [Bool.and_eq_true, Bool.and_eq_true]
    refine ⟨⟨pl_shaped (h1 x hx) (by omega), ?_⟩, List.all_eq_true.mpr fun y hy => h3 x hx y hy⟩
    have := (pl_lay (h1 x hx)).2
    exact decide_eq_true (by omega)
  · obtain ⟨y, ys, rfl⟩ := h2 x hx
    rfl
/-- all orders that nothing bars, as they are told -/
def freeD (n : Int) : List D := srtD ((((rowsOf (twosL n)).map srtQ).filter (freeB n)).map (ordD n))
theorem mem_freeD {n : Int} (h1 : 1 ≤ n) (h8 : n ≤ 8) {d : D} : d ∈ freeD n ↔ ∃ ps, d = ordD n ps ∧ IsOrd n ps ∧ NoBar n ps := by
  unfold freeD
  rw [(srtD_perm _).mem_iff, List.mem_map]
  constructor
  · rintro ⟨ps, hp, rfl⟩
    rw [List.mem_filter, List.mem_map] at hp
    obtain ⟨⟨r, hr, rfl⟩, hb⟩ := hp
    exact ⟨_, rfl, row_ord h1 h8 hr, freeB_iff.mp hb⟩
  · rintro ⟨ps, rfl, ho, hb⟩
    refine ⟨ps, ?_, rfl⟩
    obtain ⟨r, hr, e⟩ := row_of ho hb
    rw [List.mem_filter, List.mem_map]
    exact ⟨⟨r, hr, e⟩, freeB_iff.mpr hb⟩
theorem twos_len4 {n : Int} (h0 : 0 ≤ n) (h4 : n ≤ 4) : (twosL n).length ≤ 6 := by
  have : n = 0 ∨ n = 1 ∨ n = 2 ∨ n = 3 ∨ n = 4 := by omega
  rcases this with rfl | rfl | rfl | rfl | rfl <;> decide
theorem pow3_le {k : Nat} (h : k ≤ 6) : 3 ^ k ≤ 729 := by
  have : (3 : Nat) ^ k ≤ 3 ^ 6 := Nat.pow_le_pow_right (by decide) h
  simpa using this
theorem free_orders_ok {n : Int} (h1 : 1 ≤ n) (h4 : n ≤ 4) : f_free_orders [.int n] = .ok (.list (freeD n)) [] := by
  have hz := sizeLine_eq
  have h2z := two_le
  have h1z : (1 : Nat) ≤ sizeLine := by omega
  have h0z : (0 : Nat) ≤ sizeLine := Nat.zero_le _
  have hl := twos_len4 (show 0 ≤ n by omega) h4
  have f0 : t_free_orders.G.fn 0 = some ([false], f_twos) := rfl
  have f1 : t_free_orders.G.fn 1 = some ([false], f_all_bars) := rfl
  simp only [f_free_orders, evDef_eq, d_free_orders]
  simp [f0, callW_0 (twos_ok (n := n) (by omega) (by omega)), h0z, h1z]
  rw [forL_rwE pairD (fun rows : List (List (Int × Int)) => [.im (.int n), .im (.list (rows.map rowD)), .no, .no, .no, .no, .no]) rowsStep (fun i rows => rows.length = 3 ^ i ∧ i ≤ 6 ∧ ∀ r ∈ rows, r.length ≤ i) [[]] ⟨rfl, by omega, fun r hr => by simp at hr; simp [hr]⟩ (by simp [rowD]) ?_]
  · rw [show (twosL n).foldl rowsStep [[]] = rowsOf (twosL n) from rfl]
    simp
    rw [lcR_map rowD (fun r => ordD n (srtQ r)) ?_ rfl]
    · have e : (rowsOf (twosL n)).map (fun r => ordD n (srtQ r)) = ((rowsOf (twosL n)).map srtQ).map (ordD n) := by
        rw [List.map_map]
        rfl
      rw [e]
      simp only [R.bind_ok, flOf_ok, Fl.seq_nx, exs_cons, exs_nil, ex_ret, ev_op, evAs_cons, evA_imm, ev_lc, evIt_seq, ev_var, setE_s, setE_0, getE_s, getE_0, R.of_some, resolve_inl, resolve_nil, Option.map_some, Option.bind_some, itSeq_list, evAs_nil]
      rw [lcR_filter (ordD n) (freeB n) (ordD n) ?_ rfl]
      · have hs : pSrt [.list ((((rowsOf (twosL n)).map srtQ).filter (freeB n)).map (ordD n))] = some (.list (freeD n)) := by
          unfold pSrt
          have ho : srtOk ((((rowsOf (twosL n)).map srtQ).filter (freeB n)).map (ordD n)) = true := by
            refine srtOk_tups (k := 3) (by omega) (fun d hd => ?_) (fun d hd => ?_) (fun d hd e he => ?_)
            · obtain ⟨ps, _, rfl⟩ := List.mem_map.mp hd
              exact pl_ord n ps
            · obtain ⟨ps, _, rfl⟩ := List.mem_map.mp hd
              exact ⟨_, _, rfl⟩
            · obtain ⟨ps, _, rfl⟩ := List.mem_map.mp hd
              obtain ⟨qs, _, rfl⟩ := List.mem_map.mp he
              exact alike_ord n n ps qs
          simp only [ho, if_true]
          rfl
        simp [hs]
      · intro ps hp
        obtain ⟨r, hr, rfl⟩ := List.mem_map.mp hp
        simp [lcB, tgE, f1, callW_0 (all_bars_ok (row_ord h1 (by omega) hr)), h0z, eqBars]
        by_cases e : freeB n (srtQ r) = true <;> simp [e]
    · intro r hr
      simp [lcB, tgE, rowD, pSrt_pairsT, h2z, ordD]
  · intro j p hp rows hI
    obtain ⟨i1, i2, i3⟩ := hI
    have hj : j < (twosL n).length := (List.getElem?_eq_some_iff.mp hp).1
    have hpow := pow3_le i2
    have hsz : ∀ r ∈ rows, (r.map pairD).length + [pairD p].length ≤ sizeLine := fun r hr => by
      have := i3 r hr
      simp
      omega
    have a1 : ∀ r ∈ rows, ∀ q : Int × Int, pAdd [rowD r, .tuple [.tuple [.int q.1, .int q.2]]] = some (rowD (r ++ [q])) := fun r hr q => by
      have := i3 r hr
      unfold rowD
      rw [pAdd_tuple (by simp; omega), List.map_append]
      rfl
    simp [bodyR, tgE, pairD]
    rw [lcR_map rowD (fun r => rowD (r ++ [p])) ?_ rfl]
    · have s1 : (rows.map rowD).length + (rows.map fun r => rowD (r ++ [p])).length ≤ sizeLine := by
        simp only [List.length_map]
        omega
      simp only [R.bind_ok, evAs_cons, evA_imm, ev_lc, evIt_seq, ev_var, getE_s, getE_0, R.of_some, resolve_inl, resolve_nil, Option.map_some, Option.bind_some, itSeq_list, evAs_nil, prim_add, pAdd_list s1]
      rw [lcR_map rowD (fun r => rowD (r ++ [swp p])) ?_ rfl]
      · have s2 : (rows.map rowD ++ rows.map fun r => rowD (r ++ [p])).length + (rows.map fun r => rowD (r ++ [swp p])).length ≤ sizeLine := by
          simp only [List.length_append, List.length_map]
          omega
        simp [pAdd_list s2]
        refine ⟨by simp [rowsStep]; rfl, by simp [rowsStep, i1, Nat.pow_succ]; omega, by omega, fun r hr => ?_⟩
        rcases mem_step.mp hr with z | ⟨q, z, rfl⟩ | ⟨q, z, rfl⟩
        · have := i3 r z; omega
        · have := i3 q z; simp; omega
        · have := i3 q z; simp; omega
      · intro r hr
        have := a1 r hr (swp p)
        unfold swp at this
        simp [lcB, tgE, h2z, h1z, this, swp]
    · intro r hr
      simp [lcB, tgE, h2z, h1z, a1 r hr p]
/-! ### the nearest -/
def itemD (n : Int) (q : Nat × List (Int × Int)) : D := .tuple [.int (q.1 : Int), ordD n q.2]
theorem pl_item (n : Int) (q : Nat × List (Int × Int)) : plN 4 (itemD n q) = true := pl_tuple (n := 3) fun x hx => by
  simp only [List.mem_cons, List.not_mem_nil, or_false] at hx
  rcases hx with rfl | rfl
  · rfl
  · exact pl_ord _ _
theorem alike_item (n : Int) (q r : Nat × List (Int × Int)) : PySem.W.alike (itemD n q) (itemD n r) = true := by
  have := alike_ord n n q.2 r.2
  simp [itemD, PySem.W.alike, PySem.W.alikeAll, this]
theorem lt_item {n : Int} {q r : Nat × List (Int × Int)} : (PySem.W.dataLt (itemD n q) (itemD n r) = true → q.1 ≤ r.1) ∧ (PySem.W.dataLt (itemD n q) (itemD n r) = false → r.1 ≤ q.1) := by
  unfold itemD
  rw [PySem.W.dataLt_pair (by simp [PySem.W.alike]) (alike_ord _ _ _ _)]
  by_cases e : q.1 = r.1
  · omega
  · have h1 : PyData.eqv (.int (q.1 : Int)) (.int (r.1 : Int)) = false := by
      simp [PyData.eqv]
      omega
    rw [h1, PySem.W.dataLt_int]
    simp
    omega
def minI (n : Int) (x : Nat × List (Int × Int)) (xs : List (Nat × List (Int × Int))) : Nat × List (Int × Int) := xs.foldl (fun a y => if PySem.W.dataLt (itemD n y) (itemD n a) then y else a) x
theorem minI_D (n : Int) : ∀ (xs : List (Nat × List (Int × Int))) (x : Nat × List (Int × Int)), PySem.W.minD (itemD n x) (xs.map (itemD n)) = itemD n (minI n x xs)
  | [], x => rfl
  | y :: ys, x => by
    unfold PySem.W.minD minI
    simp only [List.map_cons, List.foldl_cons]
    have ih := minI_D n ys (if PySem.W.dataLt (itemD n y) (itemD n x) then y else x)
    unfold PySem.W.minD minI at ih
    rw [← ih]
    congr 1
    split <;> rfl
theorem minI_le (n : Int) : ∀ (xs : List (Nat × List (Int × Int))) (x : Nat × List (Int × Int)), minI n x xs ∈ x :: xs ∧ ∀ y ∈ x :: xs, (minI n x xs).1 ≤ y.1
  | [], x => ⟨List.mem_cons_self, fun y hy => by simp at hy; rw [hy]; exact Nat.le_refl _⟩
  | z :: zs, x => by
    have hl := @lt_item n z x
    have e : minI n x (z :: zs) = minI n (if PySem.W.dataLt (itemD n z) (itemD n x) = true then z else x) zs := rfl
    rw [e]
    cases hc : PySem.W.dataLt (itemD n z) (itemD n x) with
    | true =>
      simp only [if_true]
      obtain ⟨m1, m2⟩ := minI_le n zs z
      have h1 := hl.1 hc
      refine ⟨List.mem_cons_of_mem _ m1, fun y hy => ?_⟩
      rcases List.mem_cons.mp hy with w | w
      · have := m2 z List.mem_cons_self
        rw [w]
        omega
      · exact m2 y w
    | false =>
      rw [if_neg (by decide)]
      obtain ⟨m1, m2⟩ := minI_le n zs x
      have h1 := hl.2 hc
      refine ⟨?_, fun y hy => ?_⟩
      · rcases List.mem_cons.mp m1 with w | w
        · rw [w]; exact List.mem_cons_self
        · exact List.mem_cons_of_mem _ (List.mem_cons_of_mem _ w)
      · rcases List.mem_cons.mp hy with w | w
        · rw [w]; exact m2 x List.mem_cons_self
        · rcases List.mem_cons.mp w with w | w
          · have := m2 x List.mem_cons_self
            rw [w]
            omega
          · exact m2 y (List.mem_cons_of_mem _ w)
/-- all orders are near at last the one without pairs -/
theorem noBar_nil (n : Int) : NoBar n [] := ⟨fun p hp => (by cases hp), fun p hp => (by cases hp)⟩
theorem closest_ok {n : Int} {ps : List (Int × Int)} (h : IsOrd n ps) (h4 : n ≤ 4) : ∃ k qs, f_closest [ordD n ps] = .ok (.tuple [.int ((k : Nat) : Int), ordD n qs]) [] ∧ IsOrd n qs ∧ NoBar n qs ∧ k = farN n ps qs ∧ (∀ rs, IsOrd n rs → NoBar n rs → k ≤ farN n ps rs) ∧ (NoBar n ps → qs = ps) := by
  have h2z := two_le
  have h0z : (0 : Nat) ≤ sizeLine := Nat.zero_le _
  have h1 := h.lo
  have h8 := h.hi
  have hn : ¬ 4 < n := by omega
  have f0 : t_closest.G.fn 0 = some ([false], f_need_order) := rfl
  have f1 : t_closest.G.fn 1 = some ([false], f_all_bars) := rfl
  have f2 : t_closest.G.fn 2 = some ([false], f_free_orders) := rfl
  have f3 : t_closest.G.fn 3 = some ([false, false], f_far) := rfl
  have g0 : t_closest.G.gl 0 = some (.int 4) := rfl
  cases hb : freeB n ps with
  | true =>
    refine ⟨0, ps, ?_, h, freeB_iff.mp hb, (farN_self n ps).symm, fun _ _ _ => Nat.zero_le _, fun _ => rfl⟩
    simp only [f_closest, evDef_eq, d_closest]
    simp [f0, f1, g0, ord0, callW_0 (need_order_ok h), callW_0 (all_bars_ok h), hn, eqBars, hb, h0z, h2z]
  | false =>
    have hnb : ¬ NoBar n ps := fun z => by rw [freeB_iff.mpr z] at hb; cases hb
    -- the list of all with how far they are
    obtain ⟨L, hL⟩ : ∃ L : List (List (Int × Int)), freeD n = L.map (ordD n) ∧ ∀ qs ∈ L, IsOrd n qs ∧ NoBar n qs := by
      have key : ∀ l : List D, (∀ d ∈ l, ∃ ps, d = ordD n ps ∧ IsOrd n ps ∧ NoBar n ps) → ∃ L : List (List (Int × Int)), l = L.map (ordD n) ∧ ∀ qs ∈ L, IsOrd n qs ∧ NoBar n qs := by
        intro l
        induction l with
        | nil => intro _; exact ⟨[], rfl, fun q hq => by cases hq⟩
        | cons x xs ih =>
          intro hx
          obtain ⟨p, e, h1, h2⟩ := hx x List.mem_cons_self
          obtain ⟨L, e2, h3⟩ := ih fun y hy => hx y (List.mem_cons_of_mem _ hy)
          refine ⟨p :: L, by rw [e, e2]; rfl, fun q hq => ?_⟩
          rcases List.mem_cons.mp hq with z | z
          · rw [z]; exact ⟨h1, h2⟩
          · exact h3 q z
      exact key _ fun d hd => (mem_freeD h1 h8).mp hd
    obtain ⟨eL, hL⟩ := hL
    have memL : ∀ qs, IsOrd n qs → NoBar n qs → qs ∈ L := fun qs ho hq => by
      have : ordD n qs ∈ freeD n := (mem_freeD h1 h8).mpr ⟨qs, rfl, ho, hq⟩
      rw [eL] at this
      obtain ⟨rs, hr, e⟩ := List.mem_map.mp this
      have e2 : rs = qs := by
        unfold ordD at e
        simp at e
        exact pairs_inj.mp e
      rw [← e2]
      exact hr
    have hne : L ≠ [] := fun z => by
      have := memL [] ⟨h1, h8, List.Pairwise.nil, fun p hp => by cases hp⟩ (noBar_nil n)
      rw [z] at this
      cases this
    obtain ⟨q0, L', rfl⟩ : ∃ q0 L', L = q0 :: L' := by
      cases L with
      | nil => exact absurd rfl hne
      | cons a b => exact ⟨a, b, rfl⟩
    obtain ⟨m1, m2⟩ := minI_le n (L'.map fun qs => (farN n ps qs, qs)) (farN n ps q0, q0)
    generalize hm : minI n (farN n ps q0, q0) (L'.map fun qs => (farN n ps qs, qs)) = m at m1 m2
    have m1' : ∃ qs ∈ q0 :: L', m = (farN n ps qs, qs) := by
      rcases List.mem_cons.mp m1 with z | z
      · exact ⟨q0, List.mem_cons_self, z⟩
      · obtain ⟨qs, hq, e⟩ := List.mem_map.mp z
        exact ⟨qs, List.mem_cons_of_mem _ hq, e.symm⟩
    obtain ⟨qs, hq, rfl⟩ := m1'
    have mm : pMM PySem.W.minD [.list ((q0 :: L').map fun qs => itemD n (farN n ps qs, qs))] = some (itemD n (farN n ps qs, qs)) := by
      have e : ((q0 :: L').map fun qs => itemD n (farN n ps qs, qs)) = itemD n (farN n ps q0, q0) :: (L'.map fun qs => (farN n ps qs, qs)).map (itemD n) := by
        rw [List.map_map]
        rfl
      unfold pMM
      have ok : mmOk ((q0 :: L').map fun qs => itemD n (farN n ps qs, qs)) = true := by
        unfold mmOk
        refine List.all_eq_true.mpr fun x hx => ?_
        obtain ⟨q, _, rfl⟩ := List.mem_map.mp hx
        rw [Bool.and_eq_true, Bool.and_eq_true, Bool.and_eq_true]
        refine ⟨⟨⟨pl_shaped (pl_item n _) (by decide), ?_⟩, rfl⟩, List.all_eq_true.mpr fun y hy => ?_⟩
        · have := (pl_lay (pl_item n (farN n ps q, q))).2
          exact decide_eq_true (by omega)
        · obtain ⟨r, _, rfl⟩ := List.mem_map.mp hy
          exact alike_item _ _ _
      rw [e] at ok ⊢
      simp only [ok, if_true]
      rw [minI_D, hm]
    refine ⟨farN n ps qs, qs, ?_, (hL qs hq).1, (hL qs hq).2, rfl, fun rs ho hr => ?_, fun z => absurd z hnb⟩
    · simp only [f_closest, evDef_eq, d_closest]
      simp [f0, f1, f2, g0, ord0, callW_0 (need_order_ok h), callW_0 (all_bars_ok h), hn, eqBars, hb, h0z, h2z, callW_0 (free_orders_ok h1 h4)]
      rw [eL, lcR_map (ordD n) (fun qs => itemD n (farN n ps qs, qs)) ?_ rfl]
      · simp [show prim .minL = pMM PySem.W.minD from rfl]
        rw [show PyData.list (itemD n (farN n ps q0, q0) :: L'.map fun qs => itemD n (farN n ps qs, qs)) = .list ((q0 :: L').map fun qs => itemD n (farN n ps qs, qs)) from rfl, mm]
        rfl
      · intro r hr
        simp [lcB, tgE, f3, callW_0 (far_ok (n := n) (m := n) (ps := ps) (qs := r) (by omega) h8), h2z, itemD]
    · have := memL rs ho hr
      rcases List.mem_cons.mp this with z | z
      · rw [z]; exact m2 _ List.mem_cons_self
      · exact m2 (farN n ps rs, rs) (List.mem_cons_of_mem _ (List.mem_map.mpr ⟨rs, z, rfl⟩))
theorem near_ok {n : Int} {ps : List (Int × Int)} (h : IsOrd n ps) (h4 : n ≤ 4) : ∃ qs, f_nearest [ordD n ps] = .ok (ordD n qs) [] ∧ f_how_far [ordD n ps] = .ok (.int ((farN n ps qs : Nat) : Int)) [] ∧ IsOrd n qs ∧ NoBar n qs ∧ (∀ rs, IsOrd n rs → NoBar n rs → farN n ps qs ≤ farN n ps rs) ∧ (NoBar n ps → qs = ps) := by
  obtain ⟨k, qs, e, h1, h2, rfl, h3, h5⟩ := closest_ok h h4
  refine ⟨qs, ?_, ?_, h1, h2, h3, h5⟩
  · simp [f_nearest, evDef_eq, d_nearest, Tb.G, t_nearest, callW_0 e]
  · simp [f_how_far, evDef_eq, d_how_far, Tb.G, t_how_far, callW_0 e]
theorem closest_full {n : Int} {ps : List (Int × Int)} (h : IsOrd n ps) (h4 : 4 < n) : f_closest [ordD n ps] = .exc 8 [] := by
  simp [f_closest, evDef_eq, d_closest, Tb.G, t_closest, callW_0 (need_order_ok h), ord0, h4]
theorem near_full {n : Int} {ps : List (Int × Int)} (h : IsOrd n ps) (h4 : 4 < n) : f_nearest [ordD n ps] = .exc 8 [] ∧ f_how_far [ordD n ps] = .exc 8 [] := by
  constructor
  · simp [f_nearest, evDef_eq, d_nearest, Tb.G, t_nearest, callW_x (closest_full h h4)]
  · simp [f_how_far, evDef_eq, d_how_far, Tb.G, t_how_far, callW_x (closest_full h h4)]
end Nv

set_option linter.all false
set_option maxRecDepth 100000
namespace Nv
open PySem
/-! ### a thing less; things called otherwise -/
def wo (t x : Int) : Int := x - (if t < x then 1 else 0)
def up (t x : Int) : Int := if x < t then x else x + 1
theorem up_wo {t x : Int} (h : x ≠ t) : up t (wo t x) = x := by
  unfold up wo
  split <;> split <;> omega
theorem wo_up {t x : Int} : wo t (up t x) = x := by
  unfold up wo
  split <;> split <;> omega
theorem up_ne {t x : Int} : up t x ≠ t := by
  unfold up
  split <;> omega
theorem up_rng {n t x : Int} (h0 : 0 ≤ t) (h1 : t < n) (hx : 0 ≤ x ∧ x < n - 1) : 0 ≤ up t x ∧ up t x < n := by
  unfold up
  split <;> omega
theorem wo_rng {n t x : Int} (h0 : 0 ≤ t) (h1 : t < n) (hx : 0 ≤ x ∧ x < n) (hn : x ≠ t) : 0 ≤ wo t x ∧ wo t x < n - 1 := by
  unfold wo
  split <;> omega
theorem up_lt {t x y : Int} (h : x < y) : up t x < up t y := by
  unfold up
  split <;> split <;> omega
def keepB (t : Int) (p : Int × Int) : Bool := !decide (t = p.1 ∨ t = p.2)
def woP (t : Int) (ps : List (Int × Int)) : List (Int × Int) := (ps.filter (keepB t)).map fun p => (wo t p.1, wo t p.2)
theorem ninT (t a b : Int) : pNin [.int t, .tuple [.int a, .int b]] = some (.bool (!decide (t = a ∨ t = b))) :=
  (pNin_pl (n := 0) (m := 0) (a := .int t) rfl (xs := [.int a, .int b]) (by intro x hx; simp at hx; rcases hx with rfl | rfl <;> rfl) (by decide) (by decide) (by simp)).1
theorem mem_woP {t : Int} {ps : List (Int × Int)} {a b : Int} : (a, b) ∈ woP t ps ↔ (up t a, up t b) ∈ ps := by
  unfold woP
  rw [List.mem_map]
  constructor
  · rintro ⟨p, hp, e⟩
    rw [List.mem_filter] at hp
    simp [keepB] at hp
    cases e
    rw [up_wo (by omega), up_wo (by omega)]
    exact hp.1
  · intro h
    refine ⟨_, List.mem_filter.mpr ⟨h, ?_⟩, by rw [wo_up, wo_up]⟩
    have h1 : up t a ≠ t := up_ne
    have h2 : up t b ≠ t := up_ne
    simp [keepB]
    omega
theorem woP_nodup {t : Int} {ps : List (Int × Int)} (h : ps.Nodup) : (woP t ps).Nodup := by
  unfold woP List.Nodup
  rw [List.pairwise_map]
  refine List.Pairwise.imp_of_mem ?_ (h.filter (keepB t))
  intro p q hp hq hpq e
  rw [List.mem_filter] at hp hq
  simp [keepB] at hp hq
  simp at e
  apply hpq
  have e1 := congrArg (up t) e.1
  have e2 := congrArg (up t) e.2
  rw [up_wo (by omega), up_wo (by omega)] at e1 e2
  exact Prod.ext e1 e2
theorem woP_ord {n t : Int} {ps : List (Int × Int)} (h : IsOrd n ps) (h0 : 0 ≤ t) (h1 : t < n) (hn : 2 ≤ n) : IsOrd (n - 1) (srtQ (woP t ps)) := by
  refine ⟨by omega, by have := h.hi; omega, srtQ_pw (woP_nodup (pw_nodup h.pw)), fun p hp => ?_⟩
  rw [(srtQ_perm _).mem_iff] at hp
  obtain ⟨a, b⟩ := p
  have hm := mem_woP.mp hp
  have h2 := h.ok _ hm
  simp only at h2
  have k1 : 0 ≤ a ∧ a < n - 1 := by
    have := wo_rng h0 h1 h2.1 up_ne
    rwa [wo_up] at this
  have k2 : 0 ≤ b ∧ b < n - 1 := by
    have := wo_rng h0 h1 h2.2.1 up_ne
    rwa [wo_up] at this
  exact ⟨k1, k2, fun e => h2.2.2 (by simp only at e; rw [e])⟩
theorem without_ok {n t : Int} {ps : List (Int × Int)} (h : IsOrd n ps) (h0 : 0 ≤ t) (h1 : t < n) (hn : 2 ≤ n) : f_without [ordD n ps, .int t] = .ok (ordD (n - 1) (srtQ (woP t ps))) [] := by
  have h2z := two_le
  have hhi := h.hi
  have hn1 : ¬ n = 1 := by omega
  simp [f_without, evDef_eq, d_without, Tb.G, t_without, callW_0 (need_order_ok h), callW_0 (need_thing_ok (ps := ps) h0 h1)]
  simp [ordD, hn1, rng_upTo (show n ≤ 1000000 by omega) (by omega)]
  rw [lcR_map PyData.int (fun x => .int (wo t x)) ?_ rfl]
  · simp
    rw [lcR_filter pairD (keepB t) (fun p => pairD (wo t p.1, wo t p.2)) ?_ rfl]
    · have hs := pSrt_pairs (woP t ps)
      have e : ((ps.filter (keepB t)).map fun p => pairD (wo t p.1, wo t p.2)) = (woP t ps).map pairD := by
        unfold woP
        rw [List.map_map]
        rfl
      rw [e]
      simp [hs, h2z]
    · intro p hp
      have hp2 := h.ok p hp
      have a1 := atI_upTo (n := n) (fun x => PyData.int (wo t x)) hp2.1.1 hp2.1.2
      have a2 := atI_upTo (n := n) (fun x => PyData.int (wo t x)) hp2.2.1.1 hp2.2.1.2
      simp [lcB, tgE, pairD, h2z, ninT, a1, a2, keepB]
      by_cases e1 : t = p.1 <;> by_cases e2 : t = p.2 <;> simp [e1, e2, h2z, a1, a2]
  · intro x hx
    simp [lcB, tgE, wo]
theorem noBar_wo {n t : Int} {ps : List (Int × Int)} (h : IsOrd n ps) (h0 : 0 ≤ t) (h1 : t < n) (hb : NoBar n ps) : NoBar (n - 1) (srtQ (woP t ps)) := by
  have J : ∀ a b : Int, (a, b) ∈ srtQ (woP t ps) ↔ (up t a, up t b) ∈ ps := fun a b => by rw [(srtQ_perm _).mem_iff, mem_woP]
  obtain ⟨b2, b3⟩ := hb
  refine ⟨fun p hp q hq => ?_, fun p hp q hq e d d0 d1 => ?_⟩
  · have := b2 _ ((J _ _).mp hp) _ ((J _ _).mp hq)
    rw [Bool.eq_false_iff, ne_eq, twoB_iff] at *
    rintro ⟨k1, k2, k3, k4⟩
    exact this ⟨(J _ _).mp hp, (J _ _).mp hq, fun z => k3 ((J _ _).mpr z), fun z => k4 ((J _ _).mpr z)⟩
  · have hr := up_rng h0 h1 ⟨d0, d1⟩
    have := b3 _ ((J _ _).mp hp) _ ((J _ _).mp hq) (by simp only; rw [e]) _ hr.1 hr.2
    rw [Bool.eq_false_iff, ne_eq, threeB_iff] at *
    rintro ⟨k1, k2, k3, k4⟩
    exact this ⟨(J _ _).mp hp, (J _ _).mp k2, fun z => k3 ((J _ _).mpr z), fun z => k4 ((J _ _).mpr z)⟩

theorem whileL_t {G : Gam} {c : E} {kill : List Nat} {body : List S} {f : Nat} {env env1 env2 : En} (h1 : ev G c env = .ok (.bool true) env1) (h2 : exs G body env1 = .nx env2) : whileL G c kill body (f + 1) env = whileL G c kill body f (killE env2 kill) := by
  unfold whileL
  simp only [whileR, h1, h2]
theorem whileL_f {G : Gam} {c : E} {kill : List Nat} {body : List S} {f : Nat} {env env1 : En} (h1 : ev G c env = .ok (.bool false) env1) : whileL G c kill body (f + 1) env = .nx (killE env1 kill) := by
  unfold whileL
  simp only [whileR, h1]
/-- a thing less is no farther -/
def up2 (t : Int) (p : Int × Int) : Int × Int := (up t p.1, up t p.2)
theorem twos_up {n t : Int} (h0 : 0 ≤ t) (h1 : t < n) : (twosL n).filter (keepB t) = (twosL (n - 1)).map (up2 t) := by
  refine pw_ext ((twos_pw n).filter _) ?_ fun p => ?_
  · rw [List.pairwise_map]
    refine (twos_pw (n - 1)).imp fun {a b} h => ?_
    unfold up2 lexLt at *
    simp only
    rcases h with h | ⟨h, h2⟩
    · exact .inl (up_lt h)
    · exact .inr ⟨by rw [h], up_lt h2⟩
  · rw [List.mem_filter, mem_twos, List.mem_map]
    constructor
    · rintro ⟨h2, h3⟩
      simp [keepB] at h3
      have r1 := wo_rng (n := n) (t := t) (x := p.1) h0 h1 (by omega) (by omega)
      have r2 := wo_rng (n := n) (t := t) (x := p.2) h0 h1 (by omega) (by omega)
      refine ⟨(wo t p.1, wo t p.2), mem_twos.mpr ⟨r1.1, ?_, r2.2⟩, ?_⟩
      · simp only [wo]
        split <;> split <;> omega
      · unfold up2
        rw [up_wo (by omega), up_wo (by omega)]
    · rintro ⟨q, hq, rfl⟩
      have hq := mem_twos.mp hq
      have r1 := up_rng (n := n) (t := t) (x := q.1) h0 h1 (by omega)
      have r2 := up_rng (n := n) (t := t) (x := q.2) h0 h1 (by omega)
      have h3 := up_lt (t := t) hq.2.1
      have e1 : up t q.1 ≠ t := up_ne
      have e2 : up t q.2 ≠ t := up_ne
      refine ⟨⟨r1.1, h3, r2.2⟩, ?_⟩
      show (!decide (t = up t q.1 ∨ t = up t q.2)) = true
      rw [Bool.not_eq_true', decide_eq_false_iff_not]
      rintro (z | z)
      · exact e1 z.symm
      · exact e2 z.symm
theorem countP_filter_le {α : Type} (f k : α → Bool) : ∀ l : List α, (l.filter k).countP f ≤ l.countP f := fun l => List.Sublist.countP_le (List.filter_sublist)
theorem difB_iff {ps qs : List (Int × Int)} {p : Int × Int} : difB ps qs p = true ↔ ¬ ((p ∈ ps ↔ p ∈ qs) ∧ ((p.2, p.1) ∈ ps ↔ (p.2, p.1) ∈ qs)) := by
  simp only [difB, saidB, ne_eq, Prod.mk.injEq, decide_eq_decide, decide_eq_true_eq]
theorem far_wo {n t : Int} (h0 : 0 ≤ t) (h1 : t < n) (ps qs : List (Int × Int)) : farN (n - 1) (srtQ (woP t ps)) (srtQ (woP t qs)) ≤ farN n ps qs := by
  have e : farN (n - 1) (srtQ (woP t ps)) (srtQ (woP t qs)) = ((twosL n).filter (keepB t)).countP (difB ps qs) := by
    rw [twos_up h0 h1, List.countP_map]
    unfold farN
    refine List.countP_congr fun p _ => ?_
    obtain ⟨a, b⟩ := p
    have J : ∀ (ps : List (Int × Int)) (a b : Int), (a, b) ∈ srtQ (woP t ps) ↔ (up t a, up t b) ∈ ps := fun ps a b => by rw [(srtQ_perm _).mem_iff, mem_woP]
    rw [Function.comp, difB_iff, difB_iff]
    simp only [J, up2]
  rw [e]
  exact countP_filter_le _ _ _
theorem far_trn (n : Int) (ps qs : List (Int × Int)) : farN n (trn ps) (trn qs) = farN n ps qs := by
  unfold farN
  refine List.countP_congr fun p _ => ?_
  obtain ⟨a, b⟩ := p
  simp only [difB, saidB, mem_trn, swp, ne_eq, Prod.mk.injEq, decide_eq_true_eq]
  constructor <;> exact fun h z => h ⟨z.2, z.1⟩
/-- things called otherwise, and back -/
structure Iso (n : Int) (f g : Int → Int) : Prop where
  fr : ∀ x, 0 ≤ x → x < n → 0 ≤ f x ∧ f x < n
  gr : ∀ x, 0 ≤ x → x < n → 0 ≤ g x ∧ g x < n
  gf : ∀ x, 0 ≤ x → x < n → g (f x) = x
  fg : ∀ x, 0 ≤ x → x < n → f (g x) = x
theorem Iso.symm {n : Int} {f g : Int → Int} (h : Iso n f g) : Iso n g f := ⟨h.gr, h.fr, h.fg, h.gf⟩
theorem Iso.inj {n : Int} {f g : Int → Int} (h : Iso n f g) {x y : Int} (hx : 0 ≤ x ∧ x < n) (hy : 0 ≤ y ∧ y < n) (e : f x = f y) : x = y := by
  rw [← h.gf x hx.1 hx.2, e, h.gf y hy.1 hy.2]
def img (f : Int → Int) (ps : List (Int × Int)) : List (Int × Int) := srtQ (ps.map fun p => (f p.1, f p.2))
section
variable {n : Int} {f g : Int → Int} {ps qs : List (Int × Int)}
theorem mem_img (h : Iso n f g) (v : Val n ps) {a b : Int} : (a, b) ∈ img f ps ↔ (0 ≤ a ∧ a < n) ∧ (0 ≤ b ∧ b < n) ∧ (g a, g b) ∈ ps := by
  unfold img
  rw [(srtQ_perm _).mem_iff, List.mem_map]
  constructor
  · rintro ⟨p, hp, e⟩
    have k := v p hp
    cases e
    refine ⟨h.fr _ k.1.1 k.1.2, h.fr _ k.2.1.1 k.2.1.2, ?_⟩
    rw [h.gf _ k.1.1 k.1.2, h.gf _ k.2.1.1 k.2.1.2]
    exact hp
  · rintro ⟨ha, hb, hp⟩
    exact ⟨_, hp, by simp only [h.fg _ ha.1 ha.2, h.fg _ hb.1 hb.2]⟩
theorem IsOrd.val (h : IsOrd n ps) : Val n ps := h.ok
theorem img_ord (h : Iso n f g) (o : IsOrd n ps) : IsOrd n (img f ps) := by
  refine ⟨o.lo, o.hi, srtQ_pw ?_, fun p hp => ?_⟩
  · unfold List.Nodup
    rw [List.pairwise_map]
    refine List.Pairwise.imp_of_mem ?_ (pw_nodup o.pw)
    intro p q hp hq hpq e
    simp at e
    have k1 := o.ok p hp
    have k2 := o.ok q hq
    exact hpq (Prod.ext (h.inj k1.1 k2.1 e.1) (h.inj k1.2.1 k2.2.1 e.2))
  · obtain ⟨a, b⟩ := p
    obtain ⟨h1, h2, h3⟩ := (mem_img h o.val).mp hp
    exact ⟨h1, h2, fun e => (o.ok _ h3).2.2 (by simp only at e; rw [e])⟩
theorem img_img (h : Iso n f g) (o : IsOrd n ps) : img g (img f ps) = ps := by
  refine pw_ext (img_ord h.symm (img_ord h o)).pw o.pw fun p => ?_
  obtain ⟨a, b⟩ := p
  rw [mem_img h.symm (img_ord h o).val, mem_img h o.val]
  constructor
  · rintro ⟨h1, h2, h3, h4, h5⟩
    rw [h.gf _ h1.1 h1.2, h.gf _ h2.1 h2.2] at h5
    exact h5
  · intro hp
    have k := o.ok _ hp
    refine ⟨k.1, k.2.1, h.fr _ k.1.1 k.1.2, h.fr _ k.2.1.1 k.2.1.2, ?_⟩
    rw [h.gf _ k.1.1 k.1.2, h.gf _ k.2.1.1 k.2.1.2]
    exact hp
theorem noBar_img (h : Iso n f g) (o : IsOrd n ps) (hb : NoBar n ps) : NoBar n (img f ps) := by
  have J : ∀ a b : Int, (0 ≤ a ∧ a < n) → (0 ≤ b ∧ b < n) → ((a, b) ∈ img f ps ↔ (g a, g b) ∈ ps) := fun a b ha hb => by
    rw [mem_img h o.val]
    exact ⟨fun z => z.2.2, fun z => ⟨ha, hb, z⟩⟩
  obtain ⟨b2, b3⟩ := hb
  have O := (img_ord h o).ok
  refine ⟨fun p hp q hq => ?_, fun p hp q hq e d d0 d1 => ?_⟩
  · have kp := O p hp
    have kq := O q hq
    have := b2 _ ((J _ _ kp.1 kp.2.1).mp hp) _ ((J _ _ kq.1 kq.2.1).mp hq)
    rw [Bool.eq_false_iff, ne_eq, twoB_iff] at *
    rintro ⟨k1, k2, k3, k4⟩
    exact this ⟨(J _ _ kp.1 kp.2.1).mp hp, (J _ _ kq.1 kq.2.1).mp hq, fun z => k3 ((J _ _ kp.1 kq.2.1).mpr z), fun z => k4 ((J _ _ kq.1 kp.2.1).mpr z)⟩
  · have kp := O p hp
    have kq := O q hq
    have hr := h.gr d d0 d1
    have := b3 _ ((J _ _ kp.1 kp.2.1).mp hp) _ ((J _ _ kq.1 kq.2.1).mp hq) (by simp only; rw [e]) _ hr.1 hr.2
    rw [Bool.eq_false_iff, ne_eq, threeB_iff] at *
    rintro ⟨k1, k2, k3, k4⟩
    exact this ⟨(J _ _ kp.1 kp.2.1).mp hp, (J _ _ kp.2.1 kq.2.1).mp k2, fun z => k3 ((J _ _ kp.1 ⟨d0, d1⟩).mpr z), fun z => k4 ((J _ _ ⟨d0, d1⟩ kq.2.1).mpr z)⟩
def ordP (p : Int × Int) : Int × Int := if p.1 < p.2 then p else (p.2, p.1)
theorem difB_swp' (ps qs : List (Int × Int)) (a b : Int) : difB ps qs (a, b) = difB ps qs (b, a) := by
  unfold difB saidB
  rw [decide_eq_decide]
  simp only [ne_eq, Prod.mk.injEq]
  constructor <;> exact fun h z => h ⟨z.2, z.1⟩
theorem difB_ord (ps qs : List (Int × Int)) (p : Int × Int) : difB ps qs (ordP p) = difB ps qs p := by
  unfold ordP
  split
  · rfl
  · exact difB_swp' ps qs p.2 p.1
theorem twos_img (h : Iso n f g) : ((twosL n).map fun p => ordP (f p.1, f p.2)).Perm (twosL n) := by
  have oc : ∀ p : Int × Int, ordP p = p ∨ ordP p = (p.2, p.1) := fun p => by
    unfold ordP
    split
    · exact .inl rfl
    · exact .inr rfl
  refine (List.perm_ext_iff_of_nodup ?_ (twos_nodup n)).mpr fun q => ?_
  · unfold List.Nodup
    rw [List.pairwise_map]
    refine List.Pairwise.imp_of_mem ?_ (twos_nodup n)
    intro p q hp hq hpq e
    have k1 := mem_twos.mp hp
    have k2 := mem_twos.mp hq
    rcases oc (f p.1, f p.2) with e1 | e1 <;> rcases oc (f q.1, f q.2) with e2 | e2 <;> rw [e1, e2] at e <;> simp at e
    · exact hpq (Prod.ext (h.inj (by omega) (by omega) e.1) (h.inj (by omega) (by omega) e.2))
    · have z1 := h.inj (by omega) (by omega) e.1
      have z2 := h.inj (by omega) (by omega) e.2
      omega
    · have z1 := h.inj (by omega) (by omega) e.1
      have z2 := h.inj (by omega) (by omega) e.2
      omega
    · exact hpq (Prod.ext (h.inj (by omega) (by omega) e.2) (h.inj (by omega) (by omega) e.1))
  · rw [List.mem_map, mem_twos]
    constructor
    · rintro ⟨p, hp, rfl⟩
      have k := mem_twos.mp hp
      have r1 := h.fr p.1 (by omega) (by omega)
      have r2 := h.fr p.2 (by omega) (by omega)
      have hne : f p.1 ≠ f p.2 := fun e => by
        have := h.inj (x := p.1) (y := p.2) (by omega) (by omega) e
        omega
      unfold ordP
      split <;> simp only at * <;> omega
    · intro hq
      have r1 := h.gr q.1 (by omega) (by omega)
      have r2 := h.gr q.2 (by omega) (by omega)
      have hne : g q.1 ≠ g q.2 := fun e => by
        have := h.symm.inj (x := q.1) (y := q.2) (by omega) (by omega) e
        omega
      have f1 := h.fg q.1 (by omega) (by omega)
      have f2 := h.fg q.2 (by omega) (by omega)
      refine ⟨ordP (g q.1, g q.2), ?_, ?_⟩
      · rw [mem_twos]
        unfold ordP
        split <;> simp only at * <;> omega
      · by_cases c : g q.1 < g q.2
        · have : ordP (g q.1, g q.2) = (g q.1, g q.2) := if_pos c
          rw [this]
          simp only [f1, f2]
          exact if_pos hq.2.1
        · have : ordP (g q.1, g q.2) = (g q.2, g q.1) := if_neg c
          rw [this]
          simp only [f1, f2]
          exact if_neg (by simp only; omega)
theorem far_img (h : Iso n f g) (o : IsOrd n ps) (o' : IsOrd n qs) : farN n (img f ps) (img f qs) = farN n ps qs := by
  unfold farN
  rw [← (twos_img h).countP_eq, List.countP_map]
  refine List.countP_congr fun p hp => ?_
  have k := mem_twos.mp hp
  have r1 := h.fr p.1 (by omega) (by omega)
  have r2 := h.fr p.2 (by omega) (by omega)
  have f1 := h.gf p.1 (by omega) (by omega)
  have f2 := h.gf p.2 (by omega) (by omega)
  show difB (img f ps) (img f qs) (ordP (f p.1, f p.2)) = true ↔ _
  rw [difB_ord]
  rw [difB_iff, difB_iff]
  simp only [mem_img h o.val, mem_img h o'.val, r1, r2, f1, f2, true_and, and_self]
end
end Nv

set_option linter.all false
set_option maxRecDepth 100000
namespace Nv
open PySem
/-! ### names -/
theorem pl_ints (xs : List Int) : ∀ x ∈ xs.map PyData.int, plN 0 x = true := fun x hx => by
  obtain ⟨i, _, rfl⟩ := List.mem_map.mp hx
  rfl
theorem neNil (xs : List Int) : pNe [.list (xs.map .int), .list []] = some (.bool (!xs.isEmpty)) :=
  pNe_pl (n := 1) (m := 1) (pl_list (pl_ints xs)) (pl_list (fun x hx => by cases hx)) (by decide) (by decide) (by rw [List.isEmpty_iff]; simp)
theorem map_erase {α β : Type} (f : α → β) : ∀ (l : List α) (i : Nat), (l.map f).eraseIdx i = (l.eraseIdx i).map f
  | [], i => by simp
  | x :: xs, 0 => by simp
  | x :: xs, i + 1 => by simp [map_erase f xs i]
theorem erase_perm {α : Type} : ∀ (l : List α) (i : Nat) (h : i < l.length), (l[i] :: l.eraseIdx i).Perm l
  | x :: xs, 0, _ => by simp
  | x :: xs, i + 1, h => by
    simp only [List.getElem_cons_succ, List.eraseIdx_cons_succ]
    exact (List.Perm.swap _ _ _).trans (List.Perm.cons x (erase_perm xs i (by simpa using h)))
def nmE (ns : List Int) (n : Int) (t : Nat) (things made : List Int) : En := [.im (scr ns), .mu (town t), .im (.int n), .mu (.list (things.map .int)), .mu (.list (made.map .int))]
theorem names_loop (ns : List Int) (n : Int) : ∀ (k : Nat) (things made : List Int) (t fuel : Nat), things.length = k → k < fuel → t + k < 1000000 → made.length + k ≤ 64 →
    ∃ made', whileL t_law_names.G (.op .ne [.own 3, .imm (.lst [])]) [] [.app 4 (.pop 3 (.call 0 [.imm (.var 0), .own 1, .imm (.op .len [.own 3])]))] fuel (nmE ns n t things made) = .nx (nmE ns n (t + k) [] made') ∧ made'.Perm (made ++ things) := by
  intro k
  have h0z : (0 : Nat) ≤ sizeLine := Nat.zero_le _
  have hz := sizeLine_eq
  induction k with
  | zero =>
    intro things made t fuel hl hf ht hm
    obtain ⟨f, rfl⟩ : ∃ f, fuel = f + 1 := ⟨fuel - 1, by omega⟩
    have e : things = [] := List.length_eq_zero_iff.mp hl
    subst e
    refine ⟨made, whileL_f ?_, by simp⟩
    have := neNil []
    simp at this
    simp [nmE, h0z, this]
  | succ k ih =>
    intro things made t fuel hl hf ht hm
    obtain ⟨f, rfl⟩ : ∃ f, fuel = f + 1 := ⟨fuel - 1, by omega⟩
    have hd := draw_ok ns (t := t) (m := (things.length : Int)) (by omega) (by omega)
    have hr := drw_rng ns t (m := (things.length : Int)) (by omega)
    generalize hj : drw ns t (things.length : Int) = j at hd hr
    have hjl : j.toNat < things.length := by omega
    have hx : things[j.toNat]? = some things[j.toNat] := List.getElem?_eq_getElem hjl
    obtain ⟨made', h1, h2⟩ := ih (things.eraseIdx j.toNat) (made ++ [things[j.toNat]]) (t + 1) f (by rw [List.length_eraseIdx_of_lt hjl]; omega) (by omega) (by omega) (by simp; omega)
    refine ⟨made', ?_, h2.trans ?_⟩
    · rw [show t + (k + 1) = t + 1 + k by omega, ← h1]
      refine whileL_t (env1 := nmE ns n t things made) (env2 := nmE ns n (t + 1) (things.eraseIdx j.toNat) (made ++ [things[j.toNat]])) ?_ ?_
      · have hne := neNil things
        have he : things.isEmpty = false := by
          cases things with
          | nil => simp at hl
          | cons _ _ => rfl
        rw [he] at hne
        simp [nmE, h0z, hne]
      · have f0 : t_law_names.G.fn 0 = some ([false, true, false], f_law_draw) := rfl
        have hp : popR [.im (scr ns), .mu (town (t + 1)), .im (.int n), .mu (.list (things.map .int)), .mu (.list (made.map .int))] 3 (.int j) = .ok (.int things[j.toNat]) [.im (scr ns), .mu (town (t + 1)), .im (.int n), .mu (.list ((things.eraseIdx j.toNat).map .int)), .mu (.list (made.map .int))] := by
          rw [popR_ok (xs := things.map .int) (y := .int things[j.toNat]) rfl hr.1 (by simp; omega) (by rw [List.getElem?_map, hx]; rfl), map_erase]
          rfl
        have hs : made.length < sizeLine := by omega
        simp [nmE, f0, callW_1 hd, hp, hs]
    · rw [List.append_assoc]
      refine List.Perm.append_left _ ?_
      exact erase_perm things j.toNat hjl
theorem lrg_upTo {n : Int} (h0 : -1000000 ≤ n) (h : n ≤ 1000000) : prim .lrg [PyData.int n] = some (PyData.list ((upTo n).map PyData.int)) := by
  show (if -1000000 ≤ n ∧ n ≤ 1000000 then some (PyData.list (rgD 0 n)) else none) = _
  rw [if_pos ⟨h0, h⟩]
  congr 2
  unfold rgD upTo
  rw [List.map_map, Int.sub_zero]
  refine List.map_congr_left fun k _ => ?_
  show PyData.int (0 + (k : Int)) = .int (Int.ofNat k)
  rw [Int.zero_add]
  rfl
theorem names_ok (ns : List Int) {n : Int} {t : Nat} (h0 : 0 ≤ n) (h8 : n ≤ 8) (ht : t < 900000) : ∃ L : List Int, f_law_names [scr ns, town t, .int n] = .ok (.tuple (L.map .int)) [town (t + n.toNat)] ∧ L.Perm (upTo n) := by
  have h0z : (0 : Nat) ≤ sizeLine := Nat.zero_le _
  have hu : (upTo n).length = n.toNat := by have := upTo_lenI h0; omega
  obtain ⟨L, h1, h2⟩ := names_loop ns n n.toNat (upTo n) [] t 1000000 hu (by omega) (by omega) (by simp; omega)
  refine ⟨L, ?_, by simpa using h2⟩
  simp only [f_law_names, evDef_eq, d_law_names]
  simp [lrg_upTo (show -1000000 ≤ n by omega) (by omega), h0z]
  rw [show [Sl.im (scr ns), Sl.mu (town t), Sl.im (PyData.int n), Sl.mu (PyData.list ((upTo n).map PyData.int)), Sl.mu (PyData.list [])] = nmE ns n t (upTo n) [] from rfl, h1]
  simp [nmE]
/-! ### renamed -/
theorem pSrt_ints (xs : List Int) : pSrt [.tuple (xs.map .int)] = some (.list ((xs.mergeSort fun a b => decide (a ≤ b)).map .int)) := by
  unfold pSrt
  have ho : srtOk (xs.map PyData.int) = true := by
    unfold srtOk
    rw [Bool.and_eq_true, Bool.or_eq_true]
    refine ⟨List.all_eq_true.mpr fun x hx => ?_, .inr (List.all_eq_true.mpr fun x hx => ?_)⟩
    · obtain ⟨i, _, rfl⟩ := List.mem_map.mp hx
      rw [Bool.and_eq_true, Bool.and_eq_true]
      refine ⟨⟨pl_shaped (n := 0) rfl (by decide), by simp [PyData.depth]⟩, List.all_eq_true.mpr fun y hy => ?_⟩
      obtain ⟨j, _, rfl⟩ := List.mem_map.mp hy
      simp [PySem.W.alike]
    · obtain ⟨i, _, rfl⟩ := List.mem_map.mp hx
      rfl
  simp only [ho, if_true]
  unfold srtD
  rw [List.map_mergeSort fun a _ b _ => ?_]
  show decide (a ≤ b) = (!PySem.W.dataLt (.int b) (.int a))
  rw [PySem.W.dataLt_int]
  by_cases h : b < a
  · simp [h]
  · simp [h]; omega
theorem srt_perm_upTo {L : List Int} {n : Int} (h : L.Perm (upTo n)) : (L.mergeSort fun a b => decide (a ≤ b)) = upTo n := by
  refine ints_ext ?_ (upTo_pw n) fun x => by rw [(List.mergeSort_perm _ _).mem_iff, h.mem_iff]
  have h1 := List.pairwise_mergeSort (le := fun a b : Int => decide (a ≤ b)) (fun a b c h1 h2 => by simp at *; omega) (fun a b => by simp; omega) L
  have h2 : (L.mergeSort fun a b => decide (a ≤ b)).Nodup := (List.mergeSort_perm _ _).nodup_iff.mpr (h.nodup_iff.mpr ((upTo_pw n).imp fun h => by omega))
  refine (List.Pairwise.and h1 h2).imp fun {a b} hab => ?_
  have := hab.1
  have := hab.2
  simp at *
  omega
def nmF (L : List Int) (x : Int) : Int := L.getD x.toNat 0
def nmG (L : List Int) (y : Int) : Int := (L.idxOf y : Nat)
theorem nm_iso {L : List Int} {n : Int} (h0 : 0 ≤ n) (h : L.Perm (upTo n)) : Iso n (nmF L) (nmG L) := by
  have hl : L.length = n.toNat := by
    rw [h.length_eq]
    have := upTo_lenI h0
    omega
  have hn : L.Nodup := h.nodup_iff.mpr ((upTo_pw n).imp fun h => by omega)
  have hm : ∀ x, x ∈ L ↔ 0 ≤ x ∧ x < n := fun x => by rw [h.mem_iff, mem_upTo]
  have at_ : ∀ x : Int, 0 ≤ x → x < n → ∃ h : x.toNat < L.length, nmF L x = L[x.toNat] := fun x h1 h2 => by
    have hx : x.toNat < L.length := by omega
    refine ⟨hx, ?_⟩
    unfold nmF
    rw [List.getD_eq_getElem?_getD, List.getElem?_eq_getElem hx]
    rfl
  have ix : ∀ y : Int, 0 ≤ y → y < n → L.idxOf y < L.length := fun y h1 h2 => List.idxOf_lt_length_iff.mpr ((hm y).mpr ⟨h1, h2⟩)
  refine ⟨fun x h1 h2 => ?_, fun x h1 h2 => ?_, fun x h1 h2 => ?_, fun y h1 h2 => ?_⟩
  · obtain ⟨hx, e⟩ := at_ x h1 h2
    rw [e]
    exact (hm _).mp (List.getElem_mem hx)
  · have := ix x h1 h2
    unfold nmG
    omega
  · obtain ⟨hx, e⟩ := at_ x h1 h2
    unfold nmG
    rw [e, hn.idxOf_getElem]
    omega
  · have hi := ix y h1 h2
    obtain ⟨hx, e⟩ := at_ (nmG L y) (by unfold nmG; omega) (by unfold nmG; omega)
    rw [e]
    have e2 : (nmG L y).toNat = L.idxOf y := by unfold nmG; omega
    simp only [e2]
    exact List.getElem_idxOf hi
theorem atI_L {L : List Int} {n x : Int} (h0 : 0 ≤ n) (h : L.Perm (upTo n)) (h1 : 0 ≤ x) (h2 : x < n) : L2.atI (L.map PyData.int) x = some (.int (nmF L x)) := by
  have hl : L.length = n.toNat := by
    rw [h.length_eq]
    have := upTo_lenI h0
    omega
  exact atI_ints' (by omega) (by omega)
theorem called_ok {n : Int} {ps : List (Int × Int)} {L : List Int} (o : IsOrd n ps) (h : L.Perm (upTo n)) : f_called [ordD n ps, .tuple (L.map .int)] = .ok (ordD n (img (nmF L) ps)) [] := by
  have h2z := two_le
  have hlo := o.lo
  simp only [f_called, evDef_eq, d_called]
  simp [ord0, ord1]
  rw [lcR_map pairD (fun p => pairD (nmF L p.1, nmF L p.2)) ?_ rfl]
  · have hs := pSrt_pairs (ps.map fun p => (nmF L p.1, nmF L p.2))
    rw [List.map_map] at hs
    simp [show (ps.map fun p => pairD (nmF L p.1, nmF L p.2)) = ps.map (pairD ∘ fun p => (nmF L p.1, nmF L p.2)) from rfl, hs, h2z]
    rfl
  · intro p hp
    have k := o.ok p hp
    have a1 := atI_L (by omega) h k.1.1 k.1.2
    have a2 := atI_L (by omega) h k.2.1.1 k.2.1.2
    simp [lcB, tgE, pairD, a1, a2, h2z]
theorem renamed_ok {n : Int} {ps : List (Int × Int)} {L : List Int} (o : IsOrd n ps) (h : L.Perm (upTo n)) : f_renamed [ordD n ps, .tuple (L.map .int)] = .ok (ordD n (img (nmF L) ps)) [] := by
  have hlo := o.lo
  have hhi := o.hi
  have f1 : t_renamed.G.fn 1 = some ([false, false, false], f_is_whole) := rfl
  have ne : pNe [.list ((upTo n).map .int), .list ((upTo n).map .int)] = some (.bool false) := neInts rfl
  have f0 : t_renamed.G.fn 0 = some ([false], f_need_order) := rfl
  have f2 : t_renamed.G.fn 2 = some ([false, false], f_called) := rfl
  have hb : boolsD (L.map fun x => PyData.bool true) = some (L.map fun _ => true) := boolsD_map_bool (fun _ => true) L
  simp only [f_renamed, evDef_eq, d_renamed]
  simp [f0, callW_0 (need_order_ok o)]
  rw [lcR_map PyData.int (fun _ => .bool true) ?_ rfl]
  · simp [hb, pSrt_ints, srt_perm_upTo h, lrg_upTo (show -1000000 ≤ n by omega) (by omega), ne, ord0, f2, callW_0 (called_ok o h)]
  · intro x hx
    have := mem_upTo.mp (h.mem_iff.mp hx)
    have hw : x ≤ n - 1 := by omega
    simp [lcB, tgE, f1, ord0, callW_0 (whole_int _ _ _), this.1, hw]
end Nv

set_option linter.all false
set_option maxRecDepth 100000
namespace Nv
open PySem
/-! ### the least numbers of several orders -/
def edgS (n : Int) (S : Sev) : List Ed := (stepsS n S).map toEd
theorem edgS_rg {n : Int} {S : Sev} (h : IsSev n S) : Rg n.toNat (edgS n S) := by
  intro e he
  obtain ⟨t, ht, rfl⟩ := List.mem_map.mp he
  have := stepsS_rg h t ht
  unfold toEd
  simp only
  omega
theorem mem_edgS {n : Int} {S : Sev} {e : Ed} : e ∈ edgS n S ↔ ∃ q ∈ S, e ∈ edg n q.1 q.2 := by
  unfold edgS stepsS edg
  simp only [List.mem_map, List.mem_flatMap]
  constructor
  · rintro ⟨t, ⟨q, hq, ht⟩, rfl⟩
    exact ⟨q, hq, t, ht, rfl⟩
  · rintro ⟨q, hq, t, ht, rfl⟩
    exact ⟨t, ⟨q, hq, ht⟩, rfl⟩
theorem solS_iff {n : Int} {S : Sev} {x : List Int} : Sol (edgS n S) x ↔ ∀ q ∈ S, Sol (edg n q.1 q.2) x := by
  constructor
  · intro h q hq e he
    exact h e (mem_edgS.mpr ⟨q, hq, he⟩)
  · intro h e he
    obtain ⟨q, hq, he⟩ := mem_edgS.mp he
    exact h q hq e he
theorem sol_free {n st : Int} {ps : List (Int × Int)} {x : List Int} (o : IsOrd n ps) (hs : 1 ≤ st) : Sol (edg n ps st) x ↔ freeAll x n st = ps := by
  rw [sol_tells hs fun p hp => (o.ok p hp).2.2, tells_free o.rg o.pw]
theorem numbers_for_ok {n : Int} {S : Sev} (h : IsSev n S) : f_numbers_for [sevD n S] = .ok (rowO (leastB n.toNat (edgS n S))) [] := by
  have hn := h.n
  have f0 : t_numbers_for.G.fn 0 = some ([false], f_need_several) := rfl
  have f1 : t_numbers_for.G.fn 1 = some ([false], f_least_for) := rfl
  have e := least_for_ok h
  have em : ((stepsQ n S).map payQ).map (fun x => toEd x.1) = edgS n S := by
    rw [List.map_map]
    unfold edgS
    rw [← stepsQ_fst, List.map_map]
    rfl
  have er : (runS ((stepsQ n S).map payQ) (n.toNat + 1) (startB n)).1 = leastB n.toNat (edgS n S) := by
    rw [runS_B (n := n.toNat) (fun x hx => by
      obtain ⟨y, hy, rfl⟩ := List.mem_map.mp hx
      have := stepsQ_rg h y hy
      show y.1.2.1.toNat < _
      omega) _ _ (by simp [startB, zeros])]
    unfold leastB startB
    rw [em]
  simp only [f_numbers_for, evDef_eq, d_numbers_for]
  simp [f0, f1, callW_0 (need_sev_ok h), callW_0 e, resB, er]
theorem are_len {x : List Int} (h : Nums x) : f_are_numbers [.tuple (x.map .int)] = .ok (.bool true) [] := are_ok h
/-- whether numbers tell all -/
def tellsB (n : Int) (S : Sev) (x : List Int) : Bool := S.all fun q => decide (freeAll x n q.2 = q.1)
theorem tells_all_ok {n : Int} {S : Sev} {x : List Int} (h : IsSev n S) (hx : Nums x) (hl : (x.length : Int) = n) : f_tells_all [sevD n S, .tuple (x.map .int)] = .ok (.bool (tellsB n S x)) [] := by
  have f0 : t_tells_all.G.fn 0 = some ([false], f_need_several) := rfl
  have f1 : t_tells_all.G.fn 1 = some ([false], f_are_numbers) := rfl
  have f2 : t_tells_all.G.fn 2 = some ([false, false], f_order_by) := rfl
  obtain ⟨q0, S', rfl⟩ := sev_0 h
  have hsd : ∀ S, sevD n S = .list (S.map (partD n)) := fun _ => rfl
  have i0 : prim .idx [partD n q0, .int 0] = some (ordD n q0.1) := partI0 n q0
  simp only [f_tells_all, evDef_eq, d_tells_all]
  simp [f0, f1, callW_0 (need_sev_ok h), callW_0 (are_ok hx)]
  simp [hsd, ord0, hl, - List.map_cons]
  rw [show L2.atI (List.map (partD n) (q0 :: S')) 0 = some (partD n q0) from by simp]
  simp [ord0, - List.map_cons]
  rw [lcR_map (partD n) (fun q => .bool (decide (freeAll x n q.2 = q.1))) ?_ rfl]
  · simp only [R.bind_ok, resolve_inl, resolve_nil, Option.map_some, Option.bind_some, prim_all]
    rw [boolsD_map_bool]
    simp [tellsB]
  · intro q hq
    have := h.ok q hq
    have e := order_by_ok (st := q.2) (x := x) hx.hi
    rw [hl] at e
    simp [lcB, tgE, partD, f2, callW_0 e, eqOrd2]
theorem tellsB_iff {n : Int} {S : Sev} {x : List Int} (h : IsSev n S) : tellsB n S x = true ↔ Sol (edgS n S) x := by
  unfold tellsB
  rw [List.all_eq_true, solS_iff]
  constructor
  · intro g q hq
    have := h.ok q hq
    exact (sol_free this.1 this.2.1).mpr (of_decide_eq_true (g q hq))
  · intro g q hq
    have := h.ok q hq
    exact decide_eq_true ((sol_free this.1 this.2.1).mp (g q hq))
theorem leastS_nums {n : Int} {S : Sev} {L : List Int} (h : IsSev n S) (e : leastB n.toNat (edgS n S) = some L) : Nums L ∧ (L.length : Int) = n ∧ tellsB n S L = true ∧ Mini n.toNat (edgS n S) L := by
  have hn := h.n
  have m := least_mini (edgS_rg h) e
  have hb := mini_bound m (edgS_rg h) (W := 999) (by omega) fun e he => by
    obtain ⟨q, hq, he⟩ := mem_edgS.mp he
    have := h.ok q hq
    obtain ⟨t, ht, rfl⟩ := List.mem_map.mp he
    obtain ⟨i, j, hi, hj, ⟨_, rfl⟩ | ⟨_, _, rfl⟩⟩ := mem_steps.mp ht
    · exact this.2.2
    · unfold toEd
      simp only
      omega
  have hl : (L.length : Int) = n := by rw [m.len]; omega
  refine ⟨⟨by omega, by omega, fun a ha => ?_⟩, hl, (tellsB_iff h).mpr m.sol, m⟩
  obtain ⟨i, hi, rfl⟩ := mem_gx ha
  refine ⟨m.pos i, Int.le_trans (hb i) ?_⟩
  have a1 : ((n.toNat - 1 : Nat) : Int) * 999 ≤ 7 * 999 := Int.mul_le_mul_of_nonneg_right (by omega) (by omega)
  omega
theorem nums_of {x : List Int} {n : Int} (h1 : 1 ≤ n) (h8 : n ≤ 8) (hl : (x.length : Int) = n) (hr : ∀ a ∈ x, 0 ≤ a ∧ a < 20) : Nums x := ⟨by omega, by omega, fun a ha => by have := hr a ha; omega⟩
theorem rowO_pl (o : Option (List Int)) : plN 1 (rowO o) = true := by
  cases o with
  | none => rfl
  | some L => exact pl_tuple (pl_ints L)
theorem rowO_inj {a b : Option (List Int)} : rowO a = rowO b ↔ a = b := by
  cases a <;> cases b <;> simp [rowO]
  rename_i x y
  constructor
  · intro h
    have inj : ∀ (x y : List Int), x.map PyData.int = y.map PyData.int → x = y := fun x y h => (List.map_inj_right fun _ _ e => by injection e).mp h
    exact inj x y h
  · intro h; rw [h]
theorem neRow (a b : Option (List Int)) : pNe [rowO a, rowO b] = some (.bool (!decide (a = b))) := pNe_pl (rowO_pl a) (rowO_pl b) (by decide) (by decide) (by rw [decide_eq_true_eq, rowO_inj])
theorem eqRow (a b : Option (List Int)) : pEq [rowO a, rowO b] = some (.bool (decide (a = b))) := pEq_pl (rowO_pl a) (rowO_pl b) (by decide) (by decide) (by rw [decide_eq_true_eq, rowO_inj])
@[simp] theorem isNone_row (o : Option (List Int)) : isNone (rowO o) = o.isNone := by cases o <;> rfl
end Nv

set_option linter.all false
set_option maxRecDepth 100000
namespace Nv
open PySem
/-! ### statement by statement -/
theorem fin_nx {ps : List Bool} {G : Gam} {s : S} {ss : List S} {env env' : En} {r : Fr} (h : ex G s env = .nx env') (k : finR ps (exs G ss env') = r) : finR ps (exs G (s :: ss) env) = r := by
  rw [exs_cons, h]
  exact k
theorem fin_ret {ps : List Bool} {G : Gam} {s : S} {ss : List S} {env env' : En} {d : D} {r : Fr} (h : ex G s env = .ret d env') (k : finR ps (.ret d env') = r) : finR ps (exs G (s :: ss) env) = r := by
  rw [exs_cons, h]
  exact k
theorem fin_exc {ps : List Bool} {G : Gam} {s : S} {ss : List S} {env env' : En} {c : Nat} {r : Fr} (h : ex G s env = .exc c env') (k : finR ps (.exc c env') = r) : finR ps (exs G (s :: ss) env) = r := by
  rw [exs_cons, h]
  exact k
theorem ev_def {G : Gam} {f : Def} {ds : List D} {r : Fr} (hl : ds.length = f.ps.length) (k : finR f.ps (exs G f.body (slots f.ps ds ++ List.replicate (f.n - ds.length) .no)) = r) : evDef G f ds = r := by
  rw [evDef_eq, if_pos hl]
  exact k
theorem exs_nx {G : Gam} {s : S} {ss : List S} {env env' : En} {r : Fl} (h : ex G s env = .nx env') (k : exs G ss env' = r) : exs G (s :: ss) env = r := by
  rw [exs_cons, h]
  exact k
theorem ev_op2 {G : Gam} {k : Op} {a b : E} {env env1 env2 : En} {x y z : D} (h1 : ev G a env = .ok x env1) (h2 : ev G b env1 = .ok y env2) (h3 : prim k [x, y] = some z) : ev G (.op k [.imm a, .imm b]) env = .ok z env2 := by
  rw [ev_op, evAs_cons, evA_imm, h1]
  simp only [R.bind_ok]
  rw [evAs_cons, evA_imm, h2]
  simp only [R.bind_ok, evAs_nil, resolve_inl, resolve_nil, Option.map_some, Option.bind_some, h3, R.of_some]
theorem ev_op2s {G : Gam} {k : Op} {a b : E} {env : En} {x y z : D} (h1 : ev G a env = .ok x env) (h2 : ev G b env = .ok y env) (h3 : prim k [x, y] = some z) : ev G (.op k [.imm a, .imm b]) env = .ok z env := ev_op2 h1 h2 h3
theorem ev_op1 {G : Gam} {k : Op} {a : E} {env env1 : En} {x z : D} (h1 : ev G a env = .ok x env1) (h3 : prim k [x] = some z) : ev G (.op k [.imm a]) env = .ok z env1 := by
  rw [ev_op, evAs_cons, evA_imm, h1]
  simp only [R.bind_ok, evAs_nil, resolve_inl, resolve_nil, Option.map_some, Option.bind_some, h3, R.of_some]
theorem ex_ret1 {G : Gam} {e : E} {env env1 : En} {x : D} (h : ev G e env = .ok x env1) : ex G (.ret e) env = .ret x env1 := by
  rw [ex_ret, h]
  rfl
theorem ex_asg1 {G : Gam} {i : Nat} {e : E} {env env1 : En} {x : D} (h : ev G e env = .ok x env1) : ex G (.asg i e) env = .nx (setE env1 i x) := by
  rw [ex_asg, h]
  rfl
theorem ev_and_t {G : Gam} {a b : E} {env env1 : En} (h : ev G a env = .ok (.bool true) env1) : ev G (.and a b) env = ev G b env1 := by
  rw [ev_and, h]
  simp
theorem ev_and_f {G : Gam} {a b : E} {env env1 : En} (h : ev G a env = .ok (.bool false) env1) : ev G (.and a b) env = .ok (.bool false) env1 := by
  rw [ev_and, h]
  simp
theorem ev_or_t {G : Gam} {a b : E} {env env1 : En} (h : ev G a env = .ok (.bool true) env1) : ev G (.or a b) env = .ok (.bool true) env1 := by
  rw [ev_or, h]
  simp
theorem ev_or_f {G : Gam} {a b : E} {env env1 : En} (h : ev G a env = .ok (.bool false) env1) : ev G (.or a b) env = ev G b env1 := by
  rw [ev_or, h]
  simp
theorem ex_if_f {G : Gam} {c : E} {a b : List S} {env env1 : En} (h : ev G c env = .ok (.bool false) env1) : ex G (.ite c a b) env = exs G b env1 := by
  rw [ex_ite, h]
  simp
theorem ex_if_t {G : Gam} {c : E} {a b : List S} {env env1 : En} (h : ev G c env = .ok (.bool true) env1) : ex G (.ite c a b) env = exs G a env1 := by
  rw [ex_ite, h]
  simp
end Nv

namespace Nv
open PySem
/-- law -/
def d_law : Def where
  n := 9
  ps := [false]
  body := [
    .asgM 1 (.lst []),
    .asg 2 (.call 0 [.imm (.var 0), .own 1, .imm (.cst (.int 3))]),
    .unpF 5 3 1 [.imm (.var 0), .own 1],
    .ite (.op .gt [.imm (.var 2), .imm (.cst (.int 0))])
    [.asg 6 (.call 0 [.imm (.var 0), .own 1, .imm (.op .len [.own 3])]),
    .setI 3 (.var 6) (.call 0 [.imm (.var 0), .own 1, .imm (.cst (.int 20))])]
    [],
    .asg 3 (.op .tuple [.own 3]),
    .asg 4 (.op .eq [.imm (.lc (.var 7) [7] true (.seq (.imm (.var 5))) (some (.op .ne [.imm (.call 2 [.imm (.op .idx [.imm (.var 7), .imm (.cst (.int 1))]), .imm (.move 3)]), .imm (.op .idx [.imm (.var 7), .imm (.cst (.int 0))])]))), .imm (.lst [])]),
    .ret (.and (.op .eq [.imm (.call 3 [.imm (.var 5), .imm (.move 3)]), .imm (.var 4)]) (.op .eq [.imm (.call 3 [.imm (.var 5), .imm (.op .tuple [.imm (.lc (.op .add [.imm (.var 8), .imm (.cst (.int 7))]) [8] true (.seq (.imm (.move 3))) none)])]), .imm (.var 4)]))]
def t_law : Tb where
  N := ["_law_script", "_law_town", "_law_way", "_law_values", "_law_due", "_law_several_here", "_law_at", "_law_part", "_law_one"]
  fns := [("_law_draw", [false, true, false], f_law_draw), ("_law_several", [false, true], f_law_several), ("_law_told", [false, false], f_law_told), ("tells_all", [false, false], f_tells_all)]
  gls := []
  exs := []
def f_law : Fn := evDef t_law.G d_law

end Nv
set_option linter.all false
set_option maxRecDepth 100000
namespace Nv
open PySem
/-! ### k29 -/
theorem ev_call2 {G : Gam} {f : Nat} {fn : Fn} {a b : E} {env env1 env2 : En} {x y z : D} (hf : G.fn f = some ([false, false], fn)) (h1 : ev G a env = .ok x env1) (h2 : ev G b env1 = .ok y env2) (h3 : fn [x, y] = .ok z []) : ev G (.call f [.imm a, .imm b]) env = .ok z env2 := by
  rw [ev_call, hf]
  simp only [evAs_cons, evA_imm, evAs_nil, h1, h2, R.bind_ok]
  simp [callW_0 h3]
theorem neOrd9 {n m : Int} {ps qs : List (Int × Int)} : pNe [ordD n ps, ordD m qs] = some (.bool (!decide (n = m ∧ ps = qs))) :=
  pNe_pl (n := 3) (m := 3) (pl_ord n ps) (pl_ord m qs) (by decide) (by decide) (by
    rw [decide_eq_true_eq]
    unfold ordD
    simp [pairs_inj])
theorem pl_partD (n : Int) (q : List (Int × Int) × Int) : plN 4 (partD n q) = true := pl_tuple (n := 3) fun x hx => by
  simp only [List.mem_cons, List.not_mem_nil, or_false] at hx
  rcases hx with rfl | rfl
  · exact pl_ord _ _
  · rfl
theorem noLs_ints : ∀ xs : List Int, noLs (xs.map .int) = true
  | [] => rfl
  | x :: xs => by
    show (true && noLs (xs.map .int)) = true
    rw [noLs_ints xs]
    rfl
theorem noLs_prs : ∀ ps : List (Int × Int), noLs (ps.map pairD) = true
  | [] => rfl
  | p :: ps => by
    show (true && noLs (ps.map pairD)) = true
    rw [noLs_prs ps]
    rfl
theorem noL_ordD (n : Int) (ps : List (Int × Int)) : noL (ordD n ps) = true := by
  show (true && (noLs (ps.map pairD) && true)) = true
  rw [noLs_prs]
  rfl
theorem noLs_parts (n : Int) : ∀ S : Sev, noLs (S.map (partD n)) = true
  | [] => rfl
  | q :: S => by
    show ((noL (ordD n q.1) && (true && true)) && noLs (S.map (partD n))) = true
    rw [noLs_parts n S, noL_ordD]
    rfl
theorem noLs_rep (t : Nat) : noLs (List.replicate t (PyData.int 0)) = true := by
  induction t with
  | zero => rfl
  | succ t ih =>
    rw [List.replicate_succ]
    show (true && noLs _) = true
    rw [ih]
    rfl
theorem getD_inc {x : List Int} {i : Nat} (h : i < x.length) : (x.map (· + 7)).getD i 0 = x.getD i 0 + 7 := by
  rw [List.getD_eq_getElem?_getD, List.getD_eq_getElem?_getD, List.getElem?_map, List.getElem?_eq_getElem h]
  rfl
theorem free_inc {x : List Int} {n : Int} (hl : (x.length : Int) = n) (st : Int) : freeAll (x.map (· + 7)) n st = freeAll x n st := by
  refine pw_ext (free_pw _ _ _) (free_pw _ _ _) fun p => ?_
  rw [mem_free, mem_free]
  constructor
  · rintro ⟨a, b, c⟩
    rw [getD_inc (by omega), getD_inc (by omega)] at c
    exact ⟨a, b, by omega⟩
  · rintro ⟨a, b, c⟩
    refine ⟨a, b, ?_⟩
    rw [getD_inc (by omega), getD_inc (by omega)]
    omega
theorem law_true : ∀ ns : List Int, ns.length ≤ 63 → f_law [scr ns] = .ok (.bool true) [] := by
  intro ns _
  have hz := sizeLine_eq
  have h0z : (0 : Nat) ≤ sizeLine := Nat.zero_le _
  have e0 := draw_ok ns (t := 0) (m := 3) (by omega) (by omega)
  have e0' : f_law_draw [scr ns, .list [], .int 3] = .ok (.int (drw ns 0 3)) [town 1] := e0
  obtain ⟨n, S, x, t', e1, hS, hn6, hxl, hxr, ht⟩ := several_ok ns (t := 1) (by omega)
  have hn := hS.n
  have f0 : t_law.G.fn 0 = some ([false, true, false], f_law_draw) := rfl
  have f1 : t_law.G.fn 1 = some ([false, true], f_law_several) := rfl
  have f2 : t_law.G.fn 2 = some ([false, false], f_law_told) := rfl
  have f3 : t_law.G.fn 3 = some ([false, false], f_tells_all) := rfl
  generalize hway : drw ns 0 3 = way at *
  obtain ⟨q0, S', hS0⟩ := sev_0 hS
  have hx0 : ∃ a x', x = a :: x' := by
    cases x with
    | nil => simp at hxl; omega
    | cons a x' => exact ⟨a, x', rfl⟩
  have hap : apart (sevD n S) (.list (x.map .int)) = true := by
    obtain ⟨a, x', rfl⟩ := hx0
    rw [hS0]
    simp [sevD, partD, apart, apartL, kindN]
  have hpf : pairF (.tuple [sevD n S, .list (x.map .int)]) = some (S.map (partD n), x.map .int) := by
    unfold sevD at hap ⊢
    unfold pairF
    simp [noLs_parts, noLs_ints, hap]
  have hout : ∀ t, outOk (town t) = true := fun t => noLs_rep t
  have harg : argsF [false, true] [scr ns, town 1] = true := by
    show (argF (scr ns) && (outOk (town 1) && true)) = true
    rw [hout]
    rfl
  obtain ⟨a, ha⟩ : ∃ a, a = drw ns t' x.length := ⟨_, rfl⟩
  obtain ⟨b, hb⟩ : ∃ b, b = drw ns (t' + 1) 20 := ⟨_, rfl⟩
  have ea := draw_ok ns (t := t') (m := x.length) (by omega) (by omega)
  have eb := draw_ok ns (t := t' + 1) (m := 20) (by omega) (by omega)
  have ra := drw_rng ns t' (m := x.length) (by omega)
  have rb := drw_rng ns (t' + 1) (m := 20) (by omega)
  rw [← ha] at ea ra
  rw [← hb] at eb rb
  obtain ⟨y, t2, hy, hyl, hyr⟩ : ∃ (y : List Int) (t2 : Nat), (∀ s6 : Sl, True) ∧ (y.length : Int) = n ∧ (∀ a ∈ y, 0 ≤ a ∧ a < 20) ∧ (∃ s6 : Sl, ex t_law.G (.ite (.op .gt [.imm (.var 2), .imm (.cst (.int 0))])
    [.asg 6 (.call 0 [.imm (.var 0), .own 1, .imm (.op .len [.own 3])]),
    .setI 3 (.var 6) (.call 0 [.imm (.var 0), .own 1, .imm (.cst (.int 20))])]
    []) [.im (scr ns), .mu (town t'), .im (.int way), .mu (.list (x.map .int)), .no, .im (sevD n S), .no, .no, .no] = .nx [.im (scr ns), .mu (town t2), .im (.int way), .mu (.list (y.map .int)), .no, .im (sevD n S), s6, .no, .no]) := by
    by_cases hw : 0 < way
    · refine ⟨x.set a.toNat b, t' + 2, fun _ => trivial, by rw [List.length_set]; exact hxl, fun c hc => ?_, .im (.int a), ?_⟩
      · rcases List.mem_or_eq_of_mem_set hc with z | z
        · exact hxr c z
        · rw [z]; exact rb
      · have hix : L2.ixN x.length a = some a.toNat := ixN_ok ra.1 ra.2
        have hset := set_map (xs := x) (k := a.toNat) (a := b)
        generalize sevD n S = sd at *
        have hxm : (x.map PyData.int).length = x.length := List.length_map _
        rw [← hset]
        rw [← hxm] at ea hix
        generalize x.map PyData.int = xd at *
        simp [hw, f0, callW_1 ea, callW_1 eb, isListM, hix]
    · refine ⟨x, t', fun _ => trivial, hxl, hxr, .no, ?_⟩
      generalize sevD n S = sd at *
      generalize x.map PyData.int = xd at *
      simp [hw]
  obtain ⟨hyr, s6, hif⟩ := hyr
  have hY := nums_of hn.1 hn.2 hyl hyr
  have hY7 : Nums (y.map (· + 7)) := ⟨by rw [List.length_map]; exact hY.lo, by rw [List.length_map]; exact hY.hi, fun c hc => by
    obtain ⟨d, hd, rfl⟩ := List.mem_map.mp hc
    have := hyr d hd
    omega⟩
  have ta := tells_all_ok hS hY hyl
  have ta7 := tells_all_ok hS hY7 (by rw [List.length_map]; exact hyl)
  have t7 : tellsB n S (y.map (· + 7)) = tellsB n S y := by
    unfold tellsB
    simp only [free_inc hyl]
  rw [t7] at ta7
  have hbb : pEq [.bool (tellsB n S y), .bool (tellsB n S y)] = some (.bool true) := by cases tellsB n S y <;> rfl
  have hnil : pEq [.list ((S.filter fun q => decide (freeAll y n q.2 ≠ q.1)).map (partD n)), .list []] = some (.bool (tellsB n S y)) :=
    pEq_pl (n := 5) (m := 5) (pl_list fun d hd => by
      obtain ⟨q, _, rfl⟩ := List.mem_map.mp hd
      exact pl_partD n q) (pl_list (xs := []) fun x hx => by cases hx) (by decide) (by decide) (by
      rw [PyData.list.injEq, List.map_eq_nil_iff, List.filter_eq_nil_iff]
      unfold tellsB
      rw [List.all_eq_true]
      simp)
  refine ev_def rfl ?_
  refine fin_nx (env' := [.im (scr ns), .mu (.list []), .no, .no, .no, .no, .no, .no, .no]) (by simp [d_law]) ?_
  refine fin_nx (env' := [.im (scr ns), .mu (town 1), .im (.int way), .no, .no, .no, .no, .no, .no]) (by simp [f0, callW_1 e0']) ?_
  refine fin_nx (env' := [.im (scr ns), .mu (town t'), .im (.int way), .mu (.list (x.map .int)), .no, .im (sevD n S), .no, .no, .no]) (by
    have hc := callPO_0 (ms := [false, true]) (owns := [1]) (env := [.im (scr ns), .mu (town 1), .im (.int way), .no, .no, .no, .no, .no, .no]) (env' := [.im (scr ns), .mu (town t'), .im (.int way), .no, .no, .no, .no, .no, .no]) e1 harg rfl hpf (by simp [hout]) rfl
    have hsd : sevD n S = .list (S.map (partD n)) := rfl
    rw [hsd]
    generalize x.map PyData.int = xd at *
    generalize S.map (partD n) = sd at *
    simp [f1, hc]) ?_
  refine fin_nx hif ?_
  refine fin_nx (env' := [.im (scr ns), .mu (town t2), .im (.int way), .im (.tuple (y.map .int)), .no, .im (sevD n S), s6, .no, .no]) (by
    generalize y.map PyData.int = yd at *
    generalize sevD n S = sd at *
    simp) ?_
  refine fin_nx (env' := [.im (scr ns), .mu (town t2), .im (.int way), .im (.tuple (y.map .int)), .im (.bool (tellsB n S y)), .im (sevD n S), s6, .no, .no]) (by
    have hsd : sevD n S = .list (S.map (partD n)) := rfl
    have hlc : ev t_law.G (.lc (.var 7) [7] true (.seq (.imm (.var 5))) (some (.op .ne [.imm (.call 2 [.imm (.op .idx [.imm (.var 7), .imm (.cst (.int 1))]), .imm (.move 3)]), .imm (.op .idx [.imm (.var 7), .imm (.cst (.int 0))])]))) [.im (scr ns), .mu (town t2), .im (.int way), .im (.tuple (y.map .int)), .no, .im (sevD n S), s6, .no, .no]
        = .ok (.list ((S.filter fun q => decide (freeAll y n q.2 ≠ q.1)).map (partD n))) [.im (scr ns), .mu (town t2), .im (.int way), .im (.tuple (y.map .int)), .no, .im (sevD n S), s6, .no, .no] := by
      rw [ev_lc]
      have hit : evIt t_law.G (.seq (.imm (.var 5))) [.im (scr ns), .mu (town t2), .im (.int way), .im (.tuple (y.map .int)), .no, .im (sevD n S), s6, .no, .no] = .ok (S.map (partD n)) [.im (scr ns), .mu (town t2), .im (.int way), .im (.tuple (y.map .int)), .no, .im (sevD n S), s6, .no, .no] := by
        rw [hsd]
        generalize S.map (partD n) = sd at *
        generalize y.map PyData.int = yd at *
        simp
      rw [hit]
      simp only [R.bind_ok]
      rw [lcR_filter (partD n) (fun q => decide (freeAll y n q.2 ≠ q.1)) (partD n) ?_ rfl]
      intro q hq
      have e := told_ok (st := q.2) (x := y) hY.hi (.tuple (y.map .int)) (.inr rfl)
      rw [hyl] at e
      have i0 : prim .idx [partD n q, .int 0] = some (ordD n q.1) := partI0 n q
      have i1 : prim .idx [partD n q, .int 1] = some (.int q.2) := (by simp [partD])
      have hne := neOrd9 (n := n) (m := n) (ps := freeAll y n q.2) (qs := q.1)
      generalize y.map PyData.int = yd at *
      generalize hpd : partD n q = pd at *
      generalize ordD n (freeAll y n q.2) = od1 at *
      generalize ordD n q.1 = od2 at *
      by_cases c : freeAll y n q.2 = q.1
      · simp [lcB, tgE, f2, i0, i1, callW_0 e, hne, c]
      · simp [lcB, tgE, f2, i0, i1, callW_0 e, hne, c]
    exact ex_asg1 (ev_op2s hlc (y := .list []) (by
      generalize y.map PyData.int = yd at *
      generalize sevD n S = sd at *
      simp [h0z]) (show prim .eq _ = _ from hnil))) ?_
  refine fin_ret (d := .bool true) (env' := [.im (scr ns), .mu (town t2), .im (.int way), .im (.tuple (y.map .int)), .im (.bool (tellsB n S y)), .im (sevD n S), s6, .no, .no]) ?_ (by simp [d_law])
  have hlc7 : ev t_law.G (.lc (.op .add [.imm (.var 8), .imm (.cst (.int 7))]) [8] true (.seq (.imm (.move 3))) none) [.im (scr ns), .mu (town t2), .im (.int way), .im (.tuple (y.map .int)), .im (.bool (tellsB n S y)), .im (sevD n S), s6, .no, .no]
      = .ok (.list ((y.map (· + 7)).map .int)) [.im (scr ns), .mu (town t2), .im (.int way), .im (.tuple (y.map .int)), .im (.bool (tellsB n S y)), .im (sevD n S), s6, .no, .no] := by
    rw [ev_lc]
    have hit : evIt t_law.G (.seq (.imm (.move 3))) [.im (scr ns), .mu (town t2), .im (.int way), .im (.tuple (y.map .int)), .im (.bool (tellsB n S y)), .im (sevD n S), s6, .no, .no] = .ok (y.map .int) [.im (scr ns), .mu (town t2), .im (.int way), .im (.tuple (y.map .int)), .im (.bool (tellsB n S y)), .im (sevD n S), s6, .no, .no] := by
      generalize y.map PyData.int = yd at *
      generalize sevD n S = sd at *
      simp
    rw [hit]
    simp only [R.bind_ok]
    rw [lcR_map PyData.int (fun c => .int (c + 7)) ?_ rfl, List.map_map]
    · rfl
    · intro c hc
      generalize y.map PyData.int = yd at *
      generalize sevD n S = sd at *
      simp [lcB, tgE]
  generalize tellsB n S y = bb at *
  generalize y.map PyData.int = yd at *
  generalize (y.map (· + 7)).map PyData.int = yd7 at *
  generalize sevD n S = sd at *
  have h1 : ev t_law.G (.op .eq [.imm (.call 3 [.imm (.var 5), .imm (.move 3)]), .imm (.var 4)]) [.im (scr ns), .mu (town t2), .im (.int way), .im (.tuple yd), .im (.bool bb), .im sd, s6, .no, .no] = .ok (.bool true) [.im (scr ns), .mu (town t2), .im (.int way), .im (.tuple yd), .im (.bool bb), .im sd, s6, .no, .no] := by
    simp [f3, callW_0 ta, hbb]
  have h2 : ev t_law.G (.op .tuple [.imm (.lc (.op .add [.imm (.var 8), .imm (.cst (.int 7))]) [8] true (.seq (.imm (.move 3))) none)]) [.im (scr ns), .mu (town t2), .im (.int way), .im (.tuple yd), .im (.bool bb), .im sd, s6, .no, .no] = .ok (.tuple yd7) [.im (scr ns), .mu (town t2), .im (.int way), .im (.tuple yd), .im (.bool bb), .im sd, s6, .no, .no] := ev_op1 hlc7 rfl
  have h3 : ev t_law.G (.call 3 [.imm (.var 5), .imm (.op .tuple [.imm (.lc (.op .add [.imm (.var 8), .imm (.cst (.int 7))]) [8] true (.seq (.imm (.move 3))) none)])]) [.im (scr ns), .mu (town t2), .im (.int way), .im (.tuple yd), .im (.bool bb), .im sd, s6, .no, .no] = .ok (.bool bb) [.im (scr ns), .mu (town t2), .im (.int way), .im (.tuple yd), .im (.bool bb), .im sd, s6, .no, .no] := by
    exact ev_call2 f3 (x := sd) (env1 := [.im (scr ns), .mu (town t2), .im (.int way), .im (.tuple yd), .im (.bool bb), .im sd, s6, .no, .no]) (by simp) h2 ta7
  refine ex_ret1 ?_
  rw [ev_and_t h1]
  refine ev_op2s h3 (y := .bool bb) ?_ (show prim .eq _ = _ from hbb)
  simp
end Nv

namespace Nv
open PySem PySem.Spec PyProof.Rows L2
def top (i : Nat) : Stmt := PySem.Challenge.pw_noticed_k29_whole_tells_all.main.body.getD i (.Pass ⟨0, 0, 0, 0⟩)
theorem ok_is_whole : okDef t_is_whole d_is_whole ["thing", "low", "most"] (top 8) = true := by decide +kernel
theorem ok_is_pair : okDef t_is_pair d_is_pair ["thing", "many"] (top 9) = true := by decide +kernel
theorem ok_is_order : okDef t_is_order d_is_order ["thing"] (top 10) = true := by decide +kernel
theorem ok_are_numbers : okDef t_are_numbers d_are_numbers ["thing"] (top 11) = true := by decide +kernel
theorem ok_order_by : okDef t_order_by d_order_by ["step", "numbers"] (top 12) = true := by decide +kernel
theorem ok_are_several : okDef t_are_several d_are_several ["thing"] (top 15) = true := by decide +kernel
theorem ok_need_several : okDef t_need_several d_need_several ["thing"] (top 16) = true := by decide +kernel
theorem ok_tells_all : okDef t_tells_all d_tells_all ["several", "numbers"] (top 17) = true := by decide +kernel
theorem ok_law_cell_at : okDef t_law_cell_at d_law_cell_at ["_law_script", "_law_k"] (top 19) = true := by decide +kernel
theorem ok_law_mixed : okDef t_law_mixed d_law_mixed ["_law_script", "_law_k", "_law_many"] (top 20) = true := by decide +kernel
theorem ok_law_draw : okDef t_law_draw d_law_draw ["_law_script", "_law_town", "_law_many"] (top 21) = true := by decide +kernel
theorem ok_law_pick : okDef t_law_pick d_law_pick ["_law_script", "_law_town", "_law_some"] (top 22) = true := by decide +kernel
theorem ok_law_told : okDef t_law_told d_law_told ["_law_step", "_law_values"] (top 23) = true := by decide +kernel
theorem ok_law_several : okDef t_law_several d_law_several ["_law_script", "_law_town"] (top 24) = true := by decide +kernel
theorem ok_law : okDef t_law d_law ["_law_script"] (top 25) = true := by decide +kernel
section
variable {P : Program} {w : World} {K : PySem.W.Frag} {mg : Str → Option Value} {h : Heap} {C_NoSeveral C_NoNumbers : Addr}
abbrev clsOf (C_NoSeveral C_NoNumbers : Addr) : Nat → Value := fun n => ([(12, .ref C_NoSeveral), (4, .ref C_NoNumbers)] : List (Nat × Value)).lookup n |>.getD .none
theorem all_has (X : K.In h) (G : h.Ns mainGlobals mg)
    (x_NoSeveral : XAt K "NoSeveral" C_NoSeveral)
    (x_NoNumbers : XAt K "NoNumbers" C_NoNumbers)
    (g_MANY : GAt K "MANY" (.int 8))
    (g_GREAT : GAt K "GREAT" (.int 9999))
    (g_MOST : GAt K "MOST" (.int 3))
    (g_STEP : GAt K "STEP" (.int 999))
    (B : ∀ x ∈ biNames, PySem.W.nsIn K mainGlobals x = some none)
    (a_is_whole : At K "is_whole" (top 8) ["thing", "low", "most"])
    (a_is_pair : At K "is_pair" (top 9) ["thing", "many"])
    (a_is_order : At K "is_order" (top 10) ["thing"])
    (a_are_numbers : At K "are_numbers" (top 11) ["thing"])
    (a_order_by : At K "order_by" (top 12) ["step", "numbers"])
    (a_are_several : At K "are_several" (top 15) ["thing"])
    (a_need_several : At K "need_several" (top 16) ["thing"])
    (a_tells_all : At K "tells_all" (top 17) ["several", "numbers"])
    (a_law_cell_at : At K "_law_cell_at" (top 19) ["_law_script", "_law_k"])
    (a_law_mixed : At K "_law_mixed" (top 20) ["_law_script", "_law_k", "_law_many"])
    (a_law_draw : At K "_law_draw" (top 21) ["_law_script", "_law_town", "_law_many"])
    (a_law_pick : At K "_law_pick" (top 22) ["_law_script", "_law_town", "_law_some"])
    (a_law_told : At K "_law_told" (top 23) ["_law_step", "_law_values"])
    (a_law_several : At K "_law_several" (top 24) ["_law_script", "_law_town"])
    (a_law : At K "law" (top 25) ["_law_script"]) : ∃ cls : Nat → Value, HasL P w K mg cls 7 "law" "_law_script" f_law := by
  refine ⟨(clsOf C_NoSeveral C_NoNumbers), ?_⟩
  have B' : ∀ x ∈ biNames, mg x = none := fun x hx => PySem.W.mg_none_of X G (B x hx)
  have X_NoSeveral : HasX K mg (clsOf C_NoSeveral C_NoNumbers) (12, "NoSeveral") := x_NoSeveral.has X G rfl
  have X_NoNumbers : HasX K mg (clsOf C_NoSeveral C_NoNumbers) (4, "NoNumbers") := x_NoNumbers.has X G rfl
  have G_MANY : HasG K mg ("MANY", .int 8) := g_MANY.has X G
  have G_GREAT : HasG K mg ("GREAT", .int 9999) := g_GREAT.has X G
  have G_MOST : HasG K mg ("MOST", .int 3) := g_MOST.has X G
  have G_STEP : HasG K mg ("STEP", .int 999) := g_STEP.has X G
  refine a_law.hasL (t := t_law) (d := d_law) (L := 6) X G ok_law rfl B' fun base => ?_
  have H_is_whole : Has P w K mg base (clsOf C_NoSeveral C_NoNumbers) 1 ("is_whole", [false, false, false], f_is_whole) := a_is_whole.has (t := t_is_whole) (d := d_is_whole) (L := 0) X G ok_is_whole B' ⟨(List.forall_mem_nil _), (List.forall_mem_nil _), (List.forall_mem_nil _), (fun q e => by cases e)⟩
  have H_is_pair : Has P w K mg base (clsOf C_NoSeveral C_NoNumbers) 2 ("is_pair", [false, false], f_is_pair) := a_is_pair.has (t := t_is_pair) (d := d_is_pair) (L := 1) X G ok_is_pair B' ⟨(List.forall_mem_cons.2 ⟨H_is_whole.mono (by decide), List.forall_mem_nil _⟩), (List.forall_mem_nil _), (List.forall_mem_nil _), (fun q e => by cases e)⟩
  have H_is_order : Has P w K mg base (clsOf C_NoSeveral C_NoNumbers) 3 ("is_order", [false], f_is_order) := a_is_order.has (t := t_is_order) (d := d_is_order) (L := 2) X G ok_is_order B' ⟨(List.forall_mem_cons.2 ⟨H_is_whole.mono (by decide), List.forall_mem_cons.2 ⟨H_is_pair.mono (by decide), List.forall_mem_nil _⟩⟩), (List.forall_mem_cons.2 ⟨G_MANY, List.forall_mem_nil _⟩), (List.forall_mem_nil _), (fun q e => by cases e)⟩
  have H_are_numbers : Has P w K mg base (clsOf C_NoSeveral C_NoNumbers) 2 ("are_numbers", [false], f_are_numbers) := a_are_numbers.has (t := t_are_numbers) (d := d_are_numbers) (L := 1) X G ok_are_numbers B' ⟨(List.forall_mem_cons.2 ⟨H_is_whole.mono (by decide), List.forall_mem_nil _⟩), (List.forall_mem_cons.2 ⟨G_MANY, List.forall_mem_cons.2 ⟨G_GREAT, List.forall_mem_nil _⟩⟩), (List.forall_mem_nil _), (fun q e => by cases e)⟩
  have H_order_by : Has P w K mg base (clsOf C_NoSeveral C_NoNumbers) 1 ("order_by", [false, false], f_order_by) := a_order_by.has (t := t_order_by) (d := d_order_by) (L := 0) X G ok_order_by B' ⟨(List.forall_mem_nil _), (List.forall_mem_nil _), (List.forall_mem_nil _), (fun q e => by cases e)⟩
  have H_are_several : Has P w K mg base (clsOf C_NoSeveral C_NoNumbers) 4 ("are_several", [false], f_are_several) := a_are_several.has (t := t_are_several) (d := d_are_several) (L := 3) X G ok_are_several B' ⟨(List.forall_mem_cons.2 ⟨H_is_order.mono (by decide), List.forall_mem_cons.2 ⟨H_is_whole.mono (by decide), List.forall_mem_nil _⟩⟩), (List.forall_mem_cons.2 ⟨G_MOST, List.forall_mem_cons.2 ⟨G_STEP, List.forall_mem_nil _⟩⟩), (List.forall_mem_nil _), (fun q e => by cases e)⟩
  have H_need_several : Has P w K mg base (clsOf C_NoSeveral C_NoNumbers) 5 ("need_several", [false], f_need_several) := a_need_several.has (t := t_need_several) (d := d_need_several) (L := 4) X G ok_need_several B' ⟨(List.forall_mem_cons.2 ⟨H_are_several.mono (by decide), List.forall_mem_nil _⟩), (List.forall_mem_nil _), (List.forall_mem_cons.2 ⟨X_NoSeveral, List.forall_mem_nil _⟩), (fun q e => by cases e)⟩
  have H_tells_all : Has P w K mg base (clsOf C_NoSeveral C_NoNumbers) 6 ("tells_all", [false, false], f_tells_all) := a_tells_all.has (t := t_tells_all) (d := d_tells_all) (L := 5) X G ok_tells_all B' ⟨(List.forall_mem_cons.2 ⟨H_need_several.mono (by decide), List.forall_mem_cons.2 ⟨H_are_numbers.mono (by decide), List.forall_mem_cons.2 ⟨H_order_by.mono (by decide), List.forall_mem_nil _⟩⟩⟩), (List.forall_mem_nil _), (List.forall_mem_cons.2 ⟨X_NoNumbers, List.forall_mem_nil _⟩), (fun q e => by cases e)⟩
  have H_law_cell_at : Has P w K mg base (clsOf C_NoSeveral C_NoNumbers) 1 ("_law_cell_at", [false, false], f_law_cell_at) := a_law_cell_at.has (t := t_law_cell_at) (d := d_law_cell_at) (L := 0) X G ok_law_cell_at B' ⟨(List.forall_mem_nil _), (List.forall_mem_nil _), (List.forall_mem_nil _), (fun q e => by cases e)⟩
  have H_law_mixed : Has P w K mg base (clsOf C_NoSeveral C_NoNumbers) 2 ("_law_mixed", [false, false, false], f_law_mixed) := a_law_mixed.has (t := t_law_mixed) (d := d_law_mixed) (L := 1) X G ok_law_mixed B' ⟨(List.forall_mem_cons.2 ⟨H_law_cell_at.mono (by decide), List.forall_mem_nil _⟩), (List.forall_mem_nil _), (List.forall_mem_nil _), (fun q e => by cases e)⟩
  have H_law_draw : Has P w K mg base (clsOf C_NoSeveral C_NoNumbers) 3 ("_law_draw", [false, true, false], f_law_draw) := a_law_draw.has (t := t_law_draw) (d := d_law_draw) (L := 2) X G ok_law_draw B' ⟨(List.forall_mem_cons.2 ⟨H_law_mixed.mono (by decide), List.forall_mem_nil _⟩), (List.forall_mem_nil _), (List.forall_mem_nil _), (fun q e => by cases e)⟩
  have H_law_pick : Has P w K mg base (clsOf C_NoSeveral C_NoNumbers) 4 ("_law_pick", [false, true, false], f_law_pick) := a_law_pick.has (t := t_law_pick) (d := d_law_pick) (L := 3) X G ok_law_pick B' ⟨(List.forall_mem_cons.2 ⟨H_law_draw.mono (by decide), List.forall_mem_nil _⟩), (List.forall_mem_nil _), (List.forall_mem_nil _), (fun q e => by cases e)⟩
  have H_law_told : Has P w K mg base (clsOf C_NoSeveral C_NoNumbers) 1 ("_law_told", [false, false], f_law_told) := a_law_told.has (t := t_law_told) (d := d_law_told) (L := 0) X G ok_law_told B' ⟨(List.forall_mem_nil _), (List.forall_mem_nil _), (List.forall_mem_nil _), (fun q e => by cases e)⟩
  have H_law_several : Has P w K mg base (clsOf C_NoSeveral C_NoNumbers) 5 ("_law_several", [false, true], f_law_several) := a_law_several.has (t := t_law_several) (d := d_law_several) (L := 4) X G ok_law_several B' ⟨(List.forall_mem_cons.2 ⟨H_law_draw.mono (by decide), List.forall_mem_cons.2 ⟨H_law_pick.mono (by decide), List.forall_mem_cons.2 ⟨H_law_told.mono (by decide), List.forall_mem_nil _⟩⟩⟩), (List.forall_mem_nil _), (List.forall_mem_nil _), (fun q e => by cases e)⟩
  exact ⟨(List.forall_mem_cons.2 ⟨H_law_draw.mono (by decide), List.forall_mem_cons.2 ⟨H_law_several.mono (by decide), List.forall_mem_cons.2 ⟨H_law_told.mono (by decide), List.forall_mem_cons.2 ⟨H_tells_all.mono (by decide), List.forall_mem_nil _⟩⟩⟩⟩), (List.forall_mem_nil _), (List.forall_mem_nil _), (fun q e => by cases e)⟩
end
end Nv
open PySem PySem.W PyProof.Rows in
set_option maxRecDepth 100000 in
set_option maxHeartbeats 0 in
theorem PySem.Challenge.cw_noticed_k29_whole_tells_all_holds : PySem.Challenge.rw_noticed_k29_whole_tells_all.Holds := by
  w_on; o_law; k_head; (case hw => w_witness2)
  k_fill
  refine Nv.law_walk (l := PySem.Challenge.rw_noticed_k29_whole_tells_all) (k := 7) (p := "_law_script") rfl rfl ⟨rfl, by decide, by decide⟩ (fun w h Y => PySem.W.kIn_of Y) Nv.law_true ?F
  case F =>
    intro w mg h KX G
    refine' Nv.all_has KX G ?x_NoSeveral ?x_NoNumbers ?g_MANY ?g_GREAT ?g_MOST ?g_STEP ?B ?a_is_whole ?a_is_pair ?a_is_order ?a_are_numbers ?a_order_by ?a_are_several ?a_need_several ?a_tells_all ?a_law_cell_at ?a_law_mixed ?a_law_draw ?a_law_pick ?a_law_told ?a_law_several ?a_law
    (case x_NoSeveral => refine' Nv.xat_mk ?a ?k ?x ?b ?t; (case a => k_is); (case k => k_is); (case x => k_exc); (case b => k_is); (case t => k_is))
    (case x_NoNumbers => refine' Nv.xat_mk ?a ?k ?x ?b ?t; (case a => k_is); (case k => k_is); (case x => k_exc); (case b => k_is); (case t => k_is))
    (case g_MANY => refine' Nv.gat_mk ?a ?r rfl; (case a => k_is); (case r => exact ⟨_, rfl⟩))
    (case g_GREAT => refine' Nv.gat_mk ?a ?r rfl; (case a => k_is); (case r => exact ⟨_, rfl⟩))
    (case g_MOST => refine' Nv.gat_mk ?a ?r rfl; (case a => k_is); (case r => exact ⟨_, rfl⟩))
    (case g_STEP => refine' Nv.gat_mk ?a ?r rfl; (case a => k_is); (case r => exact ⟨_, rfl⟩))
    (case B => exact Nv.bi_mk (by k_is) (by k_is) (by k_is) (by k_is) (by k_is) (by k_is) (by k_is) (by k_is) (by k_is) (by k_is) (by k_is) (by k_is) (by k_is) (by k_is) (by k_is) (by k_is) (by k_is) (by k_is))
    (case a_is_whole => refine' Nv.at_mk ?a ?l ?c ?k ?b; (case a => k_is); (case l => k_is); (case c => k_is); (case k => k_is); (case b => exact fun _ _ _ _ _ _ us hl => match us, hl with | [_, _, _], _ => rfl))
    (case a_is_pair => refine' Nv.at_mk ?a ?l ?c ?k ?b; (case a => k_is); (case l => k_is); (case c => k_is); (case k => k_is); (case b => exact fun _ _ _ _ _ _ us hl => match us, hl with | [_, _], _ => rfl))
    (case a_is_order => refine' Nv.at_mk ?a ?l ?c ?k ?b; (case a => k_is); (case l => k_is); (case c => k_is); (case k => k_is); (case b => exact fun _ _ _ _ _ _ us hl => match us, hl with | [_], _ => rfl))
    (case a_are_numbers => refine' Nv.at_mk ?a ?l ?c ?k ?b; (case a => k_is); (case l => k_is); (case c => k_is); (case k => k_is); (case b => exact fun _ _ _ _ _ _ us hl => match us, hl with | [_], _ => rfl))
    (case a_order_by => refine' Nv.at_mk ?a ?l ?c ?k ?b; (case a => k_is); (case l => k_is); (case c => k_is); (case k => k_is); (case b => exact fun _ _ _ _ _ _ us hl => match us, hl with | [_, _], _ => rfl))
    (case a_are_several => refine' Nv.at_mk ?a ?l ?c ?k ?b; (case a => k_is); (case l => k_is); (case c => k_is); (case k => k_is); (case b => exact fun _ _ _ _ _ _ us hl => match us, hl with | [_], _ => rfl))
    (case a_need_several => refine' Nv.at_mk ?a ?l ?c ?k ?b; (case a => k_is); (case l => k_is); (case c => k_is); (case k => k_is); (case b => exact fun _ _ _ _ _ _ us hl => match us, hl with | [_], _ => rfl))
    (case a_tells_all => refine' Nv.at_mk ?a ?l ?c ?k ?b; (case a => k_is); (case l => k_is); (case c => k_is); (case k => k_is); (case b => exact fun _ _ _ _ _ _ us hl => match us, hl with | [_, _], _ => rfl))
    (case a_law_cell_at => refine' Nv.at_mk ?a ?l ?c ?k ?b; (case a => k_is); (case l => k_is); (case c => k_is); (case k => k_is); (case b => exact fun _ _ _ _ _ _ us hl => match us, hl with | [_, _], _ => rfl))
    (case a_law_mixed => refine' Nv.at_mk ?a ?l ?c ?k ?b; (case a => k_is); (case l => k_is); (case c => k_is); (case k => k_is); (case b => exact fun _ _ _ _ _ _ us hl => match us, hl with | [_, _, _], _ => rfl))
    (case a_law_draw => refine' Nv.at_mk ?a ?l ?c ?k ?b; (case a => k_is); (case l => k_is); (case c => k_is); (case k => k_is); (case b => exact fun _ _ _ _ _ _ us hl => match us, hl with | [_, _, _], _ => rfl))
    (case a_law_pick => refine' Nv.at_mk ?a ?l ?c ?k ?b; (case a => k_is); (case l => k_is); (case c => k_is); (case k => k_is); (case b => exact fun _ _ _ _ _ _ us hl => match us, hl with | [_, _, _], _ => rfl))
    (case a_law_told => refine' Nv.at_mk ?a ?l ?c ?k ?b; (case a => k_is); (case l => k_is); (case c => k_is); (case k => k_is); (case b => exact fun _ _ _ _ _ _ us hl => match us, hl with | [_, _], _ => rfl))
    (case a_law_several => refine' Nv.at_mk ?a ?l ?c ?k ?b; (case a => k_is); (case l => k_is); (case c => k_is); (case k => k_is); (case b => exact fun _ _ _ _ _ _ us hl => match us, hl with | [_, _], _ => rfl))
    (case a_law => refine' Nv.at_mk ?a ?l ?c ?k ?b; (case a => k_is); (case l => k_is); (case c => k_is); (case k => k_is); (case b => exact fun _ _ _ _ _ _ us hl => match us, hl with | [_], _ => rfl))
