import PyProof.Rows.All
import Wide.All
import OpenK.AllK
import Wide.FinOn
import HandS.ForMost
import HandS.Wide
import HandS.Gcd
import HandS.IsInst
import HandS.Style
import HandS.NoneIn
import HandS.SortInts
import HandS.RaiseMore
import HandS.Zip
import HandS.FStr
import HandS.Text
import PyProof.SliceList
import KE.KMathGC
import PyProof.ReprReads
import PyProof.ReprRoads
import HandS.DictComp
import HandS.Set
import HandS.Strs
import PyProof.Rows.SetFrom
import HandS.SetFor
import HandS.Rev
import HandS.EndBits
import PySem.Challenge.RW_wholelines_k30_whole_spans_scaled_and_si
import PyProof.ReprLen
set_option Elab.async false
set_option linter.all false
set_option maxRecDepth 100000
/-! Rf1: plain data, plain states, a small core language of expressions and statements, and what is wanted of them (weakest preconditions over plain data) -/
namespace Rf
open PySem L2

/-- plain data: what an immutable value is; a list that nobody changes; a cell of the state -/
inductive D where
  | non | bl (b : Bool) | int (i : Int) | str (s : Str) | ty (n : String)
  | tup (xs : List D) | lst (xs : List D) | scr (xs : List D) | cel (n : Nat)
  | fn (f : Nat) (x : Str)
  deriving Inhabited
/-- what a cell holds -/
inductive CO where
  | lst (xs : List D) | dK (kvs : List (Key × D))
abbrev Rho := List (Option D)
abbrev M := List CO
abbrev WQ := D → M → Prop
abbrev DSpec := List D → M → WQ → Prop
abbrev Tab := Nat → DSpec

mutual
def D.blw (n : Nat) : D → Bool
  | .tup xs => belowAll n xs
  | .lst xs => belowAll n xs
  | .scr xs => belowAll n xs
  | .cel k => decide (k < n)
  | _ => true
def belowAll (n : Nat) : List D → Bool
  | [] => true
  | x :: xs => x.blw n && belowAll n xs
end
def CO.blw (n : Nat) : CO → Bool
  | .lst xs => belowAll n xs
  | .dK kvs => belowAll n (kvs.map (·.2))
mutual
/-- the cells from n on written out -/
def D.frz (n : Nat) (μ : M) : D → Option D
  | .tup xs => (frzAll n μ xs).map D.tup
  | .lst xs => (frzAll n μ xs).map D.lst
  | .scr xs => if belowAll n xs then some (.scr xs) else none
  | .cel k => if k < n then some (.cel k) else match μ[k]? with
    | some (.lst xs) => if belowAll n xs then some (.lst xs) else none
    | _ => none
  | .non => some .non | .bl b => some (.bl b) | .int i => some (.int i) | .str s => some (.str s) | .ty m => some (.ty m) | .fn f x => some (.fn f x)
def frzAll (n : Nat) (μ : M) : List D → Option (List D)
  | [] => some []
  | x :: xs => match x.frz n μ, frzAll n μ xs with
    | some y, some ys => some (y :: ys)
    | _, _ => none
end

/-! ### operations -/
def newL (xs : List D) (μ : M) (Q : WQ) : Prop := xs.length ≤ sizeLine ∧ (Q (.lst xs) μ ∨ Q (.cel μ.length) (μ ++ [.lst xs]))
/-- the items of a list (a display, a cell) -/
def asL (μ : M) : D → Option (List D)
  | .lst xs => some xs
  | .cel n => match μ[n]? with
    | some (.lst xs) => some xs
    | _ => none
  | _ => none
/-- .. or of any list that is read -/
def asR (μ : M) : D → Option (List D)
  | .scr xs => some xs
  | d => asL μ d
/-- .. or of a tuple -/
def asSq (μ : M) : D → Option (List D)
  | .tup xs => some xs
  | d => asR μ d

def opAdd (x y : D) (μ : M) (Q : WQ) : Prop := match x with
  | .int i => match y with
    | .int j => Q (.int (i + j)) μ
    | _ => False
  | .str a => match y with
    | .str b => a.length + b.length ≤ sizeLine ∧ Q (.str (a ++ b)) μ
    | _ => False
  | .tup xs => match y with
    | .tup ys => xs ≠ [] ∧ xs.length + ys.length ≤ sizeLine ∧ Q (.tup (xs ++ ys)) μ
    | _ => False
  | x => ∃ xs ys, asL μ x = some xs ∧ asL μ y = some ys ∧ newL (xs ++ ys) μ Q
def opI (C : Int → Int → Prop) (g : Int → Int → Int) (x y : D) (μ : M) (Q : WQ) : Prop := match x with
  | .int i => match y with
    | .int j => C i j ∧ Q (.int (g i j)) μ
    | _ => False
  | _ => False
/-- powers of wide numbers -/
def CPowW (i j : Int) : Prop := 0 ≤ j ∧ (Builtin.Int.intBits i : Int) * j ≤ 2 ^ 27
def opBin : Operator → D → D → M → WQ → Prop
  | .Add => opAdd
  | .Sub => opI (fun _ _ => True) fun i j => i - j
  | .Mult => opI (fun i j => CMul i j ∨ CMulW i j) fun i j => i * j
  | .FloorDiv => opI CDivW fun i j => i / j
  | .Mod => opI (fun _ j => 0 < j) fun i j => i % j
  | .Pow => opI (fun i j => CPow i j ∨ CPowW i j) fun i j => i ^ j.toNat
  | .LShift => opI CPow fun i j => i * 2 ^ j.toNat
  | .RShift => opI (fun _ j => 0 ≤ j) fun i j => i / 2 ^ j.toNat
  | _ => fun _ _ _ _ => False

mutual
def toP : D → Option PyData
  | .non => some .none
  | .bl b => some (.bool b)
  | .int i => some (.int i)
  | .str s => some (.str s)
  | .tup xs => (toPs xs).map PyData.tuple
  | .lst xs => (toPs xs).map PyData.list
  | .scr _ => none
  | .ty _ => none
  | .cel _ => none
  | .fn _ _ => none
def toPs : List D → Option (List PyData)
  | [] => some []
  | x :: xs => match toP x, toPs xs with
    | some y, some ys => some (y :: ys)
    | _, _ => none
end
def toPm (μ : M) : D → Option PyData
  | .cel n => match μ[n]? with
    | some (.lst xs) => (toPs xs).map PyData.list
    | _ => none
  | d => toP d
/-- == of data -/
def eqP (μ : M) (x y : D) : Option Bool := match toPm μ x, toPm μ y with
  | some a, some b => if SeqAt.shaped a && SeqAt.shaped b then some (PyData.eqv a b) else none
  | _, _ => none
def eqD (μ : M) (x y : D) : Option Bool := match x with
  | .str a => match y with
    | .str b => some (decide (a = b))
    | y => eqP μ (.str a) y
  | x => eqP μ x y
def cmpI (g : Int → Int → Bool) (x y : D) : Option Bool := match x with
  | .int i => match y with
    | .int j => some (g i j)
    | _ => none
  | _ => none
def isD (x y : D) : Option Bool := match y with
  | .non => some (match x with | .non => true | _ => false)
  | .bl b => match x with
    | .bl a => some (decide (a = b))
    | _ => none
  | _ => none
def keyD : D → Option Key
  | .int i => some (.inl i)
  | .str s => some (.inr s)
  | _ => none
def dget (kvs : List (Key × D)) (k : Key) : Option D := (kvs.find? fun kv => decide (kv.1 = k)).map (·.2)
def dput (kvs : List (Key × D)) (k : Key) (v : D) : List (Key × D) :=
  if kvs.any (fun kv => decide (kv.1 = k)) then kvs.map (fun kv => if kv.1 = k then (kv.1, v) else kv) else kvs ++ [(k, v)]
def dmerge (kvs more : List (Key × D)) : List (Key × D) := more.foldl (fun acc kv => dput acc kv.1 kv.2) kvs
/-- the flat value that stands for it -/
def flat : D → Option V
  | .non => some .non
  | .bl b => some (.bl b)
  | .int i => some (.int i)
  | .str s => some (.str s)
  | _ => none
def flats : List D → Option (List V)
  | [] => some []
  | x :: xs => match flat x, flats xs with
    | some y, some ys => some (y :: ys)
    | _, _ => none
def inD (μ : M) (x y : D) : Option Bool := match y with
  | .cel n => match μ[n]? with
    | some (.lst xs) => match flat x, flats xs with
      | some v, some vs => if flatV v && vs.all flatV then some (inV v vs) else none
      | _, _ => none
    | some (.dK kvs) => (keyD x).map fun k => (dget kvs k).isSome
    | _ => none
  | y => match asSq μ y with
    | some xs => match flat x, flats xs with
      | some v, some vs => if flatV v && vs.all flatV then some (inV v vs) else none
      | _, _ => none
    | none => none
def opCmp : CmpOp → M → D → D → Option Bool
  | .Eq => eqD
  | .NotEq => fun μ x y => (eqD μ x y).map (!·)
  | .Lt => fun _ => cmpI fun i j => decide (i < j)
  | .LtE => fun _ => cmpI fun i j => decide (i ≤ j)
  | .Gt => fun _ => cmpI fun i j => decide (j < i)
  | .GtE => fun _ => cmpI fun i j => decide (j ≤ i)
  | .Is => fun _ => isD
  | .IsNot => fun _ x y => (isD x y).map (!·)
  | .In => inD
  | .NotIn => fun μ x y => (inD μ x y).map (!·)
def opIxSq (x y : D) (μ : M) (Q : WQ) : Prop := match asSq μ x, y with
  | some xs, .int i => match atI xs i with
    | some d => Q d μ
    | none => False
  | _, _ => False
def opIdx (x y : D) (μ : M) (Q : WQ) : Prop := match x with
  | .str z => match y with
    | .int i => match atI z.cps.toList i with
      | some c => z.length ≤ sizeLine ∧ Q (.str ⟨#[c]⟩) μ
      | none => False
    | _ => False
  | .cel n => match μ[n]? with
    | some (.lst xs) => match y with
      | .int i => match atI xs i with
        | some d => Q d μ
        | none => False
      | _ => False
    | some (.dK kvs) => match keyD y with
      | some k => match dget kvs k with
        | some d => Q d μ
        | none => False
      | none => False
    | none => False
  | x => opIxSq x y μ Q
/-- .. of a cell -/
def opIdxC (x y : D) (μ : M) (Q : WQ) : Prop := match x with
  | .cel n => opIdx (.cel n) y μ Q
  | _ => False
def cutD (xs : List D) (lo hi : Option Int) : List D := (xs.drop (HT.sIx xs.length 0 lo)).take (HT.sIx xs.length xs.length hi - HT.sIx xs.length 0 lo)
def opSlc (x : D) (lo hi : Option Int) (μ : M) (Q : WQ) : Prop := match x with
  | .tup xs => ¬ (HT.sIx xs.length 0 lo = 0 ∧ HT.sIx xs.length xs.length hi = xs.length) ∧ Q (.tup (cutD xs lo hi)) μ
  | x => match asR μ x with
    | some xs => newL (cutD xs lo hi) μ Q
    | none => False
/-- a value's truth -/
def truD (μ : M) : D → Option Bool
  | .non => some false
  | .bl b => some b
  | .int i => some (i != 0)
  | .str s => if s.length ≤ sizeLine then some ((s.length : Int) != 0) else none
  | .ty _ => none
  | .fn _ _ => none
  | .tup xs => some (!xs.isEmpty)
  | .lst xs => some (!xs.isEmpty)
  | .scr xs => some (!xs.isEmpty)
  | .cel n => match μ[n]? with
    | some (.lst xs) => some (!xs.isEmpty)
    | some (.dK kvs) => some (!kvs.isEmpty)
    | none => none

/-! ### built-in functions -/
inductive BI where
  | len | abs | int | isi | all | any | tuple | list | gcd | max2 | min2 | str | sorted | repr | lcm | sum | maxL | minL
  deriving DecidableEq
def tyD (μ : M) : D → Option String
  | .non => some "NoneType"
  | .bl _ => some "bool"
  | .int _ => some "int"
  | .str _ => some "str"
  | .ty _ => none
  | .fn _ _ => none
  | .tup _ => some "tuple"
  | .lst _ => some "list"
  | .scr _ => none
  | .cel n => match μ[n]? with
    | some (.lst _) => some "list"
    | some (.dK _) => some "dict"
    | none => none
def kitsB (a : String) : List D → Option Bool
  | [] => some false
  | .ty b :: r => match kitB a b, kitsB a r with
    | some true, some _ => some true
    | some false, some k => some k
    | _, _ => none
  | _ :: _ => none
def isiD (μ : M) (x : D) : D → Option Bool
  | .ty b => match tyD μ x with
    | some a => kitB a b
    | none => none
  | .tup cs => match tyD μ x with
    | some a => kitsB a cs
    | none => none
  | _ => none
def blsD : List D → Option (List Bool)
  | [] => some []
  | .bl b :: r => (blsD r).map (b :: ·)
  | _ :: _ => none
def lenD (μ : M) : D → Option Nat
  | .str s => if s.length ≤ sizeLine then some s.length else none
  | .cel n => match μ[n]? with
    | some (.lst xs) => some xs.length
    | some (.dK kvs) => some kvs.length
    | none => none
  | d => (asSq μ d).map (·.length)
def intsD : List D → Option (List Int)
  | [] => some []
  | .int i :: r => (intsD r).map (i :: ·)
  | _ :: _ => none
def strsD : List D → Option (List Str)
  | [] => some []
  | .str i :: r => (strsD r).map (i :: ·)
  | _ :: _ => none
def sortI (ns : List Int) : List Int := ns.mergeSort fun i j => decide (i ≤ j)
/-- it stands in the heap -/
def refB : D → Bool
  | .tup _ | .lst _ | .cel _ => true
  | _ => false
def opBlt : BI → List D → M → WQ → Prop
  | .len, [d], μ, Q => match lenD μ d with
    | some n => Q (.int n) μ
    | none => False
  | .abs, [.int i], μ, Q => Q (.int (if i < 0 then -i else i)) μ
  | .int, [.int i], μ, Q => Q (.int i) μ
  | .int, [.bl b], μ, Q => Q (.int (if b then 1 else 0)) μ
  | .isi, [x, t], μ, Q => match isiD μ x t with
    | some b => Q (.bl b) μ
    | none => False
  | .all, [d], μ, Q => match (asL μ d).bind blsD with
    | some bs => Q (.bl (bs.all id)) μ
    | none => False
  | .any, [d], μ, Q => match (asL μ d).bind blsD with
    | some bs => Q (.bl (bs.any id)) μ
    | none => False
  | .tuple, [d], μ, Q => match d with
    | .tup xs => Q (.tup xs) μ
    | d => match asR μ d with
      | some xs => Q (.tup xs) μ
      | none => False
  | .list, [d], μ, Q => match asSq μ d with
    | some xs => newL xs μ Q
    | none => False
  | .gcd, [.int i, .int j], μ, Q => Q (.int ((Nat.gcd i.natAbs j.natAbs : Nat) : Int)) μ
  | .max2, [.int i, .int j], μ, Q => Q (.int (if j > i then j else i)) μ
  | .min2, [.int i, .int j], μ, Q => Q (.int (if j < i then j else i)) μ
  | .str, [.int i], μ, Q => i.natAbs.log2 < 1920 ∧ Q (.str (toString i)) μ
  | .str, [.str a], μ, Q => Q (.str a) μ
  | .sorted, [d], μ, Q => match (asR μ d).bind intsD with
    | some ns => newL ((sortI ns).map .int) μ Q
    | none => False
  | .lcm, [.int i, .int j], μ, Q => (i.natAbs.log2 < 13000 ∧ j.natAbs.log2 < 13000) ∧ Q (.int ((Nat.lcm i.natAbs j.natAbs : Nat) : Int)) μ
  | .sum, [d], μ, Q => match (asR μ d).bind intsD with
    | some ns => Q (.int ns.sum) μ
    | none => False
  | .maxL, [d], μ, Q => match (asR μ d).bind intsD with
    | some ns => 0 < ns.length ∧ ∀ m, m ∈ ns → (∀ y, y ∈ ns → y ≤ m) → Q (.int m) μ
    | none => False
  | .minL, [d], μ, Q => match (asR μ d).bind intsD with
    | some ns => 0 < ns.length ∧ ∀ m, m ∈ ns → (∀ y, y ∈ ns → m ≤ y) → Q (.int m) μ
    | none => False
  | .repr, [d], μ, Q => match toPm μ d with
    | some p => (p.showable && p.canLay0 && decide (p.depth ≤ 64) && refB d) = true ∧ p.shown.length ≤ sizeLine ∧ Q (.str p.shown) μ
    | none => False
  | _, _, _, _ => False
inductive MI where
  | append | extend | pop | join
  deriving DecidableEq
/-- a list that may be changed -/
def mOk (μ : M) : D → Bool
  | .cel n => match μ[n]? with
    | some (.lst _) => true
    | _ => false
  | _ => false
def mOkM (m : MI) (μ : M) (d : D) : Bool := match m with
  | .join => match d with
    | .str _ => true
    | _ => false
  | _ => mOk μ d
def opMth : MI → D → List D → M → WQ → Prop
  | .append, .cel n, [d], μ, Q => match μ[n]? with
    | some (.lst xs) => xs.length < sizeLine ∧ Q .non (μ.set n (.lst (xs ++ [d])))
    | _ => False
  | .pop, .cel n, [], μ, Q => match μ[n]? with
    | some (.lst xs) => match xs[xs.length - 1]? with
      | some d => Q d (μ.set n (.lst xs.dropLast))
      | none => False
    | _ => False
  | .extend, .cel n, [d], μ, Q => match μ[n]? with
    | some (.lst xs) => match d with
      | .cel _ => False
      | d => match asL μ d with
        | some ys => xs.length + ys.length ≤ sizeLine ∧ Q .non (μ.set n (.lst (xs ++ ys)))
        | none => False
    | _ => False
  | .join, .str a, [d], μ, Q => match (asSq μ d).bind strsD with
    | some ys => (ys.map (·.length)).sum + ys.length * a.length ≤ 16777216 ∧ Q (.str (Txt.join a ys)) μ
    | none => False
  | _, _, _, _, _ => False
/-- o[i] = v -/
def opPut (o i v : D) (μ : M) (Q : M → Prop) : Prop := match o with
  | .cel n => match μ[n]? with
    | some (.lst xs) => match i with
      | .int k => match ixN xs.length k with
        | some j => Q (μ.set n (.lst (xs.set j v)))
        | none => False
      | _ => False
    | some (.dK kvs) => match keyD i with
      | some k => kvs.length < sizeLine ∧ Q (μ.set n (.dK (dput kvs k v)))
      | none => False
    | none => False
  | _ => False

/-! ### the core language -/
inductive CT where
  | nm (i : Nat) | tp (is : List Nat)
mutual
inductive CE where
  | var (i : Nat)
  | cst (d : D)
  | typ (n : String)
  | bin (op : Operator) (a b : CE)
  | neg (a : CE)
  | not (a : CE)
  | cmp (op : CmpOp) (a b : CE)
  | chn (o p : CmpOp) (a b c : CE)
  | and (a b : CE)
  | or (a b : CE)
  | ife (c a b : CE)
  | tup (es : CEs)
  | lst (es : CEs)
  | dct (kvs : CPs)
  | idx (a b : CE)
  | slc (a : CE) (lo hi : CEs)
  | cal (f : Nat) (es : CEs)
  | cak (f : Nat) (es : CEs) (ks : List Str) (kes : CEs) (perm : List Nat) (n : Nat)
  | blt (b : BI) (es : CEs)
  | mth (m : MI) (o : CE) (es : CEs)
  | lc (tg : CT) (it : CI) (ifs : CEs) (elt : CE) (own : List Nat)
  | fmt (e : CE)
  | gl (x : Str) (d : D)
  | fnv (f : Nat) (x : Str)
  | calv (i : Nat) (es : CEs) (fs : List (Nat × Str))
  | sls (a : CE) (lo : CEs) (st : Int)
  | dc (tg : CT) (it : CI) (ifs : CEs) (k v : CE) (own : List Nat)
  | ssc (tg : CT) (it : CI) (ifs : CEs) (elt : CE) (own : List Nat)
  | sset (e : CE)
  | fst (es : CEs)
inductive CI where
  | sq (e : CE)
  | r1 (a : CE)
  | r2 (a b : CE)
  | zp (a b : CE)
  | rv (e : CE)
inductive CEs where
  | nil
  | cons (e : CE) (r : CEs)
inductive CPs where
  | nil
  | cons (k v : CE) (r : CPs)
end
mutual
inductive CS where
  | set (i : Nat) (e : CE)
  | unp (is : List Nat) (e : CE)
  | par (i j : Nat) (a b : CE)
  | par3 (i j l : Nat) (a b c : CE)
  | put (o i e : CE)
  | augV (i : Nat) (op : Operator) (e : CE)
  | augI (o i : CE) (op : Operator) (e : CE)
  | drop (e : CE)
  | ret (e : CE)
  | retN
  | iff (c : CE) (a b : CSs)
  | whl (c : CE) (b : CSs)
  | for (tg : CT) (it : CI) (b : CSs)
  | brk | cnt | pass
  | dead
inductive CSs where
  | nil
  | cons (s : CS) (r : CSs)
end

/-! ### what is wanted -/
/-- positional values and keywords' values in the parameters' order -/
def permD (perm : List Nat) (n m : Nat) (ds zs : List D) : List D := if ds.length = n ∧ zs.length = m then perm.map fun i => (ds ++ zs).getD i .non else []
def getV (ρ : Rho) (i : Nat) : Option D := match ρ[i]? with
  | some (some d) => some d
  | _ => none
def wipeD (ρ : Rho) : List Nat → Rho
  | [] => ρ
  | j :: js => (wipeD ρ js).set j none
/-- names bound one after another -/
def setsD : List Nat → List D → Rho → Option Rho
  | [], [], ρ => some ρ
  | i :: is, d :: ds, ρ => setsD is ds (ρ.set i (some d))
  | _, _, _ => none
def bindT (μ : M) : CT → D → Rho → Option Rho
  | .nm i, d, ρ => some (ρ.set i (some d))
  | .tp is, .tup ds, ρ => setsD is ds ρ
  | .tp _, _, _ => none
def CT.slots : CT → List Nat
  | .nm i => [i]
  | .tp is => is
/-- what a loop walks: where it stands (a cell that must stay), the items -/
structure Src where
  at_ : Option (Nat × List D)
  items : List D
def Src.ok (s : Src) (μ : M) : Prop := ∀ n xs, s.at_ = some (n, xs) → μ[n]? = some (.lst xs)
def rangeD (lo : Int) (n : Nat) : List D := (List.range n).map fun (i : Nat) => D.int (lo + (i : Int))
def bnd (i : Int) : Prop := -(2 ^ 62) ≤ i ∧ i < 2 ^ 62
def srcOf (μ : M) : D → Option Src
  | .cel n => match μ[n]? with
    | some (.lst xs) => some ⟨some (n, xs), xs⟩
    | _ => none
  | d => (asSq μ d).map fun xs => ⟨none, xs⟩
abbrev WE := Rho → M → WQ → Prop
abbrev WT := Rho → M → (Bool → M → Prop) → Prop
abbrev WA := Rho → M → (List D → M → Prop) → Prop
abbrev WI := Rho → M → (Src → M → Prop) → Prop
/-- a value as a test -/
def ofE (w : WE) : WT := fun ρ μ Q => w ρ μ fun d μ1 => match truD μ1 d with
  | some k => Q k μ1
  | none => False
def wLc (tg : CT) (ifs : WT) (elt : WE) (own : List Nat) (s : Src) (ρ : Rho) (μ : M) (Q : WQ) : Prop :=
  ∃ P : Nat → List D → M → Prop, P 0 [] μ ∧ (∀ i acc μ', P i acc μ' → i ≤ s.items.length → s.ok μ') ∧
    (∀ i x acc μ', s.items[i]? = some x → P i acc μ' → ∃ ρ2, bindT μ' tg x (wipeD ρ own) = some ρ2 ∧ ifs ρ2 μ' fun b μ2 =>
      if b = true then elt ρ2 μ2 fun y μ3 => acc.length < sizeLine ∧ P (i + 1) (acc ++ [y]) μ3 else P (i + 1) acc μ2) ∧
    ∀ acc μ', P s.items.length acc μ' → newL acc μ' Q
/-- a dict comprehension -/
def wDc (tg : CT) (ifs : WT) (ke ve : WE) (own : List Nat) (s : Src) (ρ : Rho) (μ : M) (Q : WQ) : Prop :=
  ∃ P : Nat → List (Key × D) → M → Prop, P 0 [] μ ∧ (∀ i acc μ', P i acc μ' → i ≤ s.items.length → s.ok μ') ∧
    (∀ i x acc μ', s.items[i]? = some x → P i acc μ' → ∃ ρ2, bindT μ' tg x (wipeD ρ own) = some ρ2 ∧ ifs ρ2 μ' fun b μ2 =>
      if b = true then ke ρ2 μ2 fun y μ3 => ve ρ2 μ3 fun z μ4 => match keyD y with
        | some k => acc.length < sizeLine ∧ P (i + 1) (dput acc k z) μ4
        | none => False
      else P (i + 1) acc μ2) ∧
    ∀ acc μ', P s.items.length acc μ' → Q (.cel μ'.length) (μ' ++ [.dK acc])
/-- the ints of a set in rising order, from what was put in -/
def srtS (ns : List Int) (μ : M) (Q : WQ) : Prop := ∀ ms : List Int, ms.Pairwise (· < ·) → (∀ k, k ∈ ms ↔ k ∈ ns) → newL (ms.map .int) μ Q
/-- sorted({.. for ..}), ints -/
def wSc (tg : CT) (ifs : WT) (elt : WE) (own : List Nat) (s : Src) (ρ : Rho) (μ : M) (Q : WQ) : Prop :=
  ∃ P : Nat → List Int → M → Prop, P 0 [] μ ∧ (∀ i acc μ', P i acc μ' → i ≤ s.items.length → s.ok μ') ∧
    (∀ i x acc μ', s.items[i]? = some x → P i acc μ' → ∃ ρ2, bindT μ' tg x (wipeD ρ own) = some ρ2 ∧ ifs ρ2 μ' fun b μ2 =>
      if b = true then elt ρ2 μ2 fun y μ3 => match y with
        | .int k => acc.length < 4000 ∧ P (i + 1) (acc ++ [k]) μ3
        | _ => False
      else P (i + 1) acc μ2) ∧
    ∀ acc μ', P s.items.length acc μ' → srtS acc μ' Q
/-- xs[lo::st] -/
def pickD (xs : List D) (lo st : Option Int) : List D :=
  (sliceRange (sliceBounds lo none st xs.length).1 (sliceBounds lo none st xs.length).2.1 (sliceBounds lo none st xs.length).2.2).filterMap (xs[·]?)
def wCmp (op : CmpOp) (x y : D) (μ : M) (Q : Bool → Prop) : Prop := match opCmp op μ x y with
  | some k => Q k
  | none => False
mutual
def wE (Γ : Tab) : CE → WE
  | .var i => fun ρ μ Q => match getV ρ i with
    | some d => Q d μ
    | none => False
  | .cst d => fun _ μ Q => Q d μ
  | .typ n => fun _ μ Q => Q (.ty n) μ
  | .bin op a b => fun ρ μ Q => wE Γ a ρ μ fun x μ1 => wE Γ b ρ μ1 fun y μ2 => opBin op x y μ2 Q
  | .neg a => fun ρ μ Q => wE Γ a ρ μ fun x μ1 => match x with
    | .int i => Q (.int (-i)) μ1
    | _ => False
  | .not a => fun ρ μ Q => wE Γ a ρ μ fun x μ1 => match x with
    | .bl b => Q (.bl (!b)) μ1
    | _ => False
  | .cmp op a b => fun ρ μ Q => wE Γ a ρ μ fun x μ1 => wE Γ b ρ μ1 fun y μ2 => wCmp op x y μ2 fun k => Q (.bl k) μ2
  | .chn o p a b c => fun ρ μ Q => wE Γ a ρ μ fun x μ1 => wE Γ b ρ μ1 fun y μ2 => wCmp o x y μ2 fun k =>
      if k = true then wE Γ c ρ μ2 fun z μ3 => wCmp p y z μ3 fun k2 => Q (.bl k2) μ3 else Q (.bl false) μ2
  | .and a b => fun ρ μ Q => wE Γ a ρ μ fun x μ1 => match x with
    | .bl k => if k = true then wE Γ b ρ μ1 Q else Q (.bl false) μ1
    | _ => False
  | .or a b => fun ρ μ Q => wE Γ a ρ μ fun x μ1 => match x with
    | .bl k => if k = true then Q (.bl true) μ1 else wE Γ b ρ μ1 Q
    | _ => False
  | .ife c a b => fun ρ μ Q => wT Γ c ρ μ fun k μ1 => if k = true then wE Γ a ρ μ1 Q else wE Γ b ρ μ1 Q
  | .tup es => fun ρ μ Q => wEs Γ es ρ μ fun ds μ1 => ds.length ≤ sizeLine ∧ Q (.tup ds) μ1
  | .lst es => fun ρ μ Q => wEs Γ es ρ μ fun ds μ1 => newL ds μ1 Q
  | .dct ps => fun ρ μ Q => wPr Γ ps ρ μ fun kvs μ1 => kvs.length ≤ 15 ∧ kvs ≠ [] ∧ Q (.cel μ1.length) (μ1 ++ [.dK (dmerge [] kvs)])
  | .idx a b => fun ρ μ Q => wE Γ a ρ μ fun x μ1 => wE Γ b ρ μ1 fun y μ2 => opIdx x y μ2 Q
  | .slc a lo hi => fun ρ μ Q => wE Γ a ρ μ fun x μ1 => wO Γ lo ρ μ1 fun l μ2 => wO Γ hi ρ μ2 fun h μ3 => opSlc x l h μ3 Q
  | .cal f es => fun ρ μ Q => wEs Γ es ρ μ fun ds μ1 => Γ f ds μ1 Q
  | .cak f es ks kes perm n => fun ρ μ Q => wEs Γ es ρ μ fun ds μ1 => wEs Γ kes ρ μ1 fun zs μ2 => Γ f (permD perm n ks.length ds zs) μ2 Q
  | .blt b es => fun ρ μ Q => wEs Γ es ρ μ fun ds μ1 => opBlt b ds μ1 Q
  | .mth m o es => fun ρ μ Q => wE Γ o ρ μ fun d μ1 => mOkM m μ1 d = true ∧ wEs Γ es ρ μ1 fun ds μ2 => opMth m d ds μ2 Q
  | .lc tg it ifs elt own => fun ρ μ Q => wI Γ it ρ μ fun s μ1 => wLc tg (wF Γ ifs) (wE Γ elt) own s ρ μ1 Q
  | .gl _ d => fun _ μ Q => Q d μ
  | .fnv f x => fun _ μ Q => Q (.fn f x) μ
  | .calv i es fs => fun ρ μ Q => match getV ρ i with
    | some (.fn f x) => fs.contains (f, x) = true ∧ wEs Γ es ρ μ fun ds μ1 => Γ f ds μ1 Q
    | _ => False
  | .sls a lo st => fun ρ μ Q => wE Γ a ρ μ fun x μ1 => wO Γ lo ρ μ1 fun l μ2 => match asR μ2 x with
    | some xs => newL (pickD xs l (some st)) μ2 Q
    | none => False
  | .dc tg it ifs k v own => fun ρ μ Q => wI Γ it ρ μ fun s μ1 => wDc tg (wF Γ ifs) (wE Γ k) (wE Γ v) own s ρ μ1 Q
  | .ssc tg it ifs elt own => fun ρ μ Q => wI Γ it ρ μ fun s μ1 => wSc tg (wF Γ ifs) (wE Γ elt) own s ρ μ1 Q
  | .sset e => fun ρ μ Q => wE Γ e ρ μ fun x μ1 => match (asR μ1 x).bind intsD with
    | some ns => ns.length < 4000 ∧ srtS ns μ1 Q
    | none => False
  | .fmt e => fun ρ μ Q => wE Γ e ρ μ fun x μ1 => match x with
    | .int i => i.natAbs.log2 < 1920 ∧ Q (.str (toString i)) μ1
    | .str y => y.length ≤ sizeLine ∧ Q (.str y) μ1
    | _ => False
  | .fst es => fun ρ μ Q => wJ Γ es Str.empty ρ μ Q
def wT (Γ : Tab) : CE → WT
  | .not a => fun ρ μ Q => wT Γ a ρ μ fun k μ1 => Q (!k) μ1
  | .and a b => fun ρ μ Q => wT Γ a ρ μ fun k μ1 => if k = true then wT Γ b ρ μ1 Q else Q false μ1
  | .or a b => fun ρ μ Q => wT Γ a ρ μ fun k μ1 => if k = true then Q true μ1 else wT Γ b ρ μ1 Q
  | .var i => ofE fun ρ μ Q => match getV ρ i with
    | some d => Q d μ
    | none => False
  | .cst d => ofE fun _ μ Q => Q d μ
  | .cmp op a b => fun ρ μ Q => wE Γ a ρ μ fun x μ1 => wE Γ b ρ μ1 fun y μ2 => wCmp op x y μ2 fun k => Q k μ2
  | .chn o p a b c => fun ρ μ Q => wE Γ a ρ μ fun x μ1 => wE Γ b ρ μ1 fun y μ2 => wCmp o x y μ2 fun k =>
      if k = true then wE Γ c ρ μ2 fun z μ3 => wCmp p y z μ3 fun k2 => Q k2 μ3 else Q false μ2
  | .idx a b => ofE fun ρ μ Q => wE Γ a ρ μ fun x μ1 => wE Γ b ρ μ1 fun y μ2 => opIdx x y μ2 Q
  | .cal f es => ofE fun ρ μ Q => wEs Γ es ρ μ fun ds μ1 => Γ f ds μ1 Q
  | .cak f es ks kes perm n => ofE fun ρ μ Q => wEs Γ es ρ μ fun ds μ1 => wEs Γ kes ρ μ1 fun zs μ2 => Γ f (permD perm n ks.length ds zs) μ2 Q
  | .blt b es => ofE fun ρ μ Q => wEs Γ es ρ μ fun ds μ1 => opBlt b ds μ1 Q
  | .calv i es fs => ofE fun ρ μ Q => match getV ρ i with
    | some (.fn f x) => fs.contains (f, x) = true ∧ wEs Γ es ρ μ fun ds μ1 => Γ f ds μ1 Q
    | _ => False
  | _ => fun _ _ _ => False
/-- texts one behind the other -/
def wJ (Γ : Tab) : CEs → Str → WE
  | .nil, acc => fun _ μ Q => Q (.str acc) μ
  | .cons e r, acc => fun ρ μ Q => wE Γ e ρ μ fun d μ1 => match d with
    | .str y => (acc ++ y).length ≤ sizeLine ∧ wJ Γ r (acc ++ y) ρ μ1 Q
    | _ => False
def wEs (Γ : Tab) : CEs → WA
  | .nil => fun _ μ Q => Q [] μ
  | .cons e r => fun ρ μ Q => wE Γ e ρ μ fun d μ1 => wEs Γ r ρ μ1 fun ds μ2 => Q (d :: ds) μ2
def wPr (Γ : Tab) : CPs → Rho → M → (List (Key × D) → M → Prop) → Prop
  | .nil => fun _ μ Q => Q [] μ
  | .cons k v r => fun ρ μ Q => wE Γ k ρ μ fun x μ1 => wE Γ v ρ μ1 fun d μ2 => match keyD x with
    | some key => wPr Γ r ρ μ2 fun kvs μ3 => Q ((key, d) :: kvs) μ3
    | none => False
def wO (Γ : Tab) : CEs → Rho → M → (Option Int → M → Prop) → Prop
  | .nil => fun _ μ Q => Q none μ
  | .cons e .nil => fun ρ μ Q => wE Γ e ρ μ fun d μ1 => match d with
    | .int i => Q (some i) μ1
    | _ => False
  | .cons _ (.cons _ _) => fun _ _ _ => False
/-- a comprehension's tests: none, or one -/
def wF (Γ : Tab) : CEs → WT
  | .nil => fun _ μ Q => Q true μ
  | .cons c .nil => wT Γ c
  | .cons _ (.cons _ _) => fun _ _ _ => False
def wI (Γ : Tab) : CI → WI
  | .sq e => fun ρ μ Q => wE Γ e ρ μ fun d μ1 => match srcOf μ1 d with
    | some s => Q s μ1
    | none => False
  | .r1 a => fun ρ μ Q => wE Γ a ρ μ fun d μ1 => match d with
    | .int j => bnd j ∧ Q ⟨none, rangeD 0 j.toNat⟩ μ1
    | _ => False
  | .r2 a b => fun ρ μ Q => wE Γ a ρ μ fun d μ1 => wE Γ b ρ μ1 fun e μ2 => match d with
    | .int i => match e with
      | .int j => bnd i ∧ bnd j ∧ Q ⟨none, rangeD i (j - i).toNat⟩ μ2
      | _ => False
    | _ => False
  | .zp a b => fun ρ μ Q => wE Γ a ρ μ fun d μ1 => wE Γ b ρ μ1 fun e μ2 => match d, e with
    | .tup xs, .tup ys => Q ⟨none, List.zipWith (fun x y => .tup [x, y]) xs ys⟩ μ2
    | .lst xs, .lst ys => Q ⟨none, List.zipWith (fun x y => .tup [x, y]) xs ys⟩ μ2
    | _, _ => False
  | .rv e => fun ρ μ Q => wE Γ e ρ μ fun d μ1 => match d with
    | .tup _ => False
    | d => match srcOf μ1 d with
      | some s => Q ⟨s.at_, s.items.reverse⟩ μ1
      | none => False
end

structure DEnds where
  nx : Rho → M → Prop
  rt : D → M → Prop
  bk : Rho → M → Prop := fun _ _ => False
  ct : Rho → M → Prop := fun _ _ => False
mutual
def wS (Γ : Tab) : CS → DEnds → Rho → M → Prop
  | .set i e => fun E ρ μ => wE Γ e ρ μ fun d μ1 => E.nx (ρ.set i (some d)) μ1
  | .unp is e => fun E ρ μ => wE Γ e ρ μ fun d μ1 => match d with
    | .tup ds => match setsD is ds ρ with
      | some ρ2 => E.nx ρ2 μ1
      | none => False
    | d => match asL μ1 d with
      | some ds => match setsD is ds ρ with
        | some ρ2 => E.nx ρ2 μ1
        | none => False
      | none => False
  | .par i j a b => fun E ρ μ => wE Γ a ρ μ fun x μ1 => wE Γ b ρ μ1 fun y μ2 => E.nx ((ρ.set i (some x)).set j (some y)) μ2
  | .par3 i j l a b c => fun E ρ μ => wE Γ a ρ μ fun x μ1 => wE Γ b ρ μ1 fun y μ2 => wE Γ c ρ μ2 fun z μ3 => E.nx (((ρ.set i (some x)).set j (some y)).set l (some z)) μ3
  | .put o i e => fun E ρ μ => wE Γ e ρ μ fun v μ1 => wE Γ o ρ μ1 fun x μ2 => wE Γ i ρ μ2 fun y μ3 => opPut x y v μ3 fun μ4 => E.nx ρ μ4
  | .augV i op e => fun E ρ μ => match getV ρ i with
    | some x => wE Γ e ρ μ fun y μ1 => match x, y with
      | .int a, .int b => opBin op (.int a) (.int b) μ1 fun z μ2 => E.nx (ρ.set i (some z)) μ2
      | _, _ => False
    | none => False
  | .augI o i op e => fun E ρ μ => wE Γ o ρ μ fun x μ1 => wE Γ i ρ μ1 fun y μ2 => opIdxC x y μ2 fun old μ3 => wE Γ e ρ μ3 fun z μ4 => match old, z with
      | .int a, .int b => opBin op (.int a) (.int b) μ4 fun r μ5 => opPut x y r μ5 fun μ6 => E.nx ρ μ6
      | _, _ => False
  | .drop e => fun E ρ μ => wE Γ e ρ μ fun _ μ1 => E.nx ρ μ1
  | .ret e => fun E ρ μ => wE Γ e ρ μ E.rt
  | .retN => fun E _ μ => E.rt .non μ
  | .iff c a b => fun E ρ μ => wT Γ c ρ μ fun k μ1 => if k = true then wSs Γ a E ρ μ1 else wSs Γ b E ρ μ1
  | .whl c b => fun E ρ μ => ∃ W : Nat → Rho → M → Prop, (∃ m, W m ρ μ) ∧ ∀ m ρ' μ', W m ρ' μ' → wT Γ c ρ' μ' fun k μ1 =>
      if k = true then wSs Γ b { E with nx := fun ρ2 μ2 => ∃ m', m' < m ∧ W m' ρ2 μ2, ct := fun ρ2 μ2 => ∃ m', m' < m ∧ W m' ρ2 μ2, bk := E.nx } ρ' μ1 else E.nx ρ' μ1
  | .for tg it b => fun E ρ μ => wI Γ it ρ μ fun s μ1 => ∃ P : Nat → Rho → M → Prop, P 0 ρ μ1 ∧ (∀ i ρ' μ', P i ρ' μ' → i ≤ s.items.length → s.ok μ') ∧
      (∀ i x ρ' μ', s.items[i]? = some x → P i ρ' μ' → ∃ ρ2, bindT μ' tg x ρ' = some ρ2 ∧ wSs Γ b { E with nx := P (i + 1), ct := P (i + 1), bk := E.nx } ρ2 μ') ∧
      ∀ ρ' μ', P s.items.length ρ' μ' → E.nx ρ' μ'
  | .brk => fun E ρ μ => E.bk ρ μ
  | .cnt => fun E ρ μ => E.ct ρ μ
  | .pass => fun E ρ μ => E.nx ρ μ
  | .dead => fun _ _ _ => False
def wSs (Γ : Tab) : CSs → DEnds → Rho → M → Prop
  | .nil => fun E ρ μ => E.nx ρ μ
  | .cons s r => fun E ρ μ => wS Γ s { E with nx := fun ρ1 μ1 => wSs Γ r E ρ1 μ1 } ρ μ
end
/-- what leaves a def: as it is, or with its own cells written out -/
def rtD (μ0 : M) (Q : WQ) : WQ := fun d μ => Q d μ ∨ ∃ d', d.frz μ0.length μ = some d' ∧ (∀ i c, i < μ0.length → μ[i]? = some c → (μ0[i]? = some c ∨ c.blw μ0.length = true)) ∧ Q d' (μ.take μ0.length)
def startD (n : Nat) (ds : List D) : Rho := ds.map some ++ List.replicate (n - ds.length) none
/-- a def of n names: its body reaches what is wanted -/
def wDef (Γ : Tab) (n : Nat) (body : CSs) (ds : List D) (μ : M) (Q : WQ) : Prop :=
  wSs Γ body { nx := fun _ μ' => rtD μ Q .non μ', rt := rtD μ Q } (startD n ds) μ
end Rf

set_option Elab.async false
set_option linter.all false
set_option maxRecDepth 100000
/-! Rf2: how plain data stands in the layer's abstract heap -/
namespace Rf
open PySem L2 PySem.Spec PyProof.Rows

/-- a tuple that stands: tracked and no cell, or the module's -/
def FzT (K : PySem.W.Frag) (H : Hp) (Z B : List Addr) (a : Addr) (vs : List V) : Prop :=
  (H a = some (.tup vs) ∧ a ∉ Z ∧ a ∉ B) ∨ ∃ (o : Obj) (its : Array Value) (n : Nat), K.lookup a = some o ∧ o.cls = .type "tuple" ∧ o.data = .seq its n ∧ its.size ≤ sizeLine ∧ Vals vs its.toList
/-- a list that is only read -/
def FzS (K : PySem.W.Frag) (H : Hp) (Z B : List Addr) (a : Addr) (vs : List V) : Prop :=
  (Rd H a (.lst vs) ∧ a ∉ Z ∧ a ∉ B) ∨ ∃ (o : Obj) (its : Array Value) (n : Nat), K.lookup a = some o ∧ o.cls = .type "list" ∧ o.dict = none ∧ o.data = .seq its n ∧ its.size ≤ sizeLine ∧ Vals vs its.toList

mutual
inductive RD (K : PySem.W.Frag) (H : Hp) (Z B : List Addr) : D → V → Prop
  | non : RD K H Z B .non .non
  | bl (b : Bool) : RD K H Z B (.bl b) (.bl b)
  | int (i : Int) : RD K H Z B (.int i) (.int i)
  | str (s : Str) : RD K H Z B (.str s) (.str s)
  | ty (n : String) : RD K H Z B (.ty n) (.ty n)
  | tup {a : Addr} {vs : List V} {ds : List D} : FzT K H Z B a vs → RDs K H Z B ds vs → RD K H Z B (.tup ds) (.ref a)
  | lst {a : Addr} {vs : List V} {ds : List D} : H a = some (.lst vs) → a ∉ Z → a ∉ B → RDs K H Z B ds vs → RD K H Z B (.lst ds) (.ref a)
  | scr {a : Addr} {vs : List V} {ds : List D} : FzS K H Z B a vs → RDs K H Z B ds vs → RD K H Z B (.scr ds) (.ref a)
  | cel {n : Nat} {a : Addr} : Z[n]? = some a → RD K H Z B (.cel n) (.ref a)
  | fn {f : Nat} {x : Str} {a : Addr} : PySem.W.nsIn K mainGlobals x = some (some (.ref a)) → RD K H Z B (.fn f x) (.ref a)
inductive RDs (K : PySem.W.Frag) (H : Hp) (Z B : List Addr) : List D → List V → Prop
  | nil : RDs K H Z B [] []
  | cons {d : D} {v : V} {ds : List D} {vs : List V} : RD K H Z B d v → RDs K H Z B ds vs → RDs K H Z B (d :: ds) (v :: vs)
end
abbrev RKs (K : PySem.W.Frag) (H : Hp) (Z B : List Addr) : List (Key × D) → List (Key × V) → Prop := Paired fun p q => p.1 = q.1 ∧ RD K H Z B p.2 q.2
def COk (K : PySem.W.Frag) (H : Hp) (Z B : List Addr) (a : Addr) : CO → Prop
  | .lst ds => ∃ vs, H a = some (.lst vs) ∧ RDs K H Z B ds vs
  | .dK kvs => ∃ kws, H a = some (.dK kws) ∧ RKs K H Z B kvs kws
structure HRel (K : PySem.W.Frag) (μ : M) (Z B : List Addr) (H : Hp) : Prop where
  len : Z.length = μ.length
  nd : Z.Nodup
  zb : ∀ a ∈ Z, a ∉ B
  hb : ∀ a ∈ B, H a ≠ none
  cel : ∀ (i : Nat) (c : CO), μ[i]? = some c → ∃ a, Z[i]? = some a ∧ COk K H Z B a c

/-- what may have changed: the cells; new ones are behind the old ones. W: what may have changed besides -/
structure LeW (W : List Addr) (H : Hp) (Z : List Addr) (H' : Hp) (Z' : List Addr) : Prop where
  keep : ∀ a o, H a = some o → a ∉ Z → a ∉ W → H' a = some o ∧ a ∉ Z'
  pre : ∃ Y, Z' = Z ++ Y
  there : ∀ a o, H a = some o → ∃ o', H' a = some o'
abbrev Le := LeW []
variable {K : PySem.W.Frag} {H H1 H2 H' : Hp} {Z Z1 Z2 Z' B W : List Addr} {μ μ' : M}
theorem LeW.refl : LeW W H Z H Z := ⟨fun _ _ e n _ => ⟨e, n⟩, ⟨[], by simp⟩, fun _ o e => ⟨o, e⟩⟩
theorem LeW.trans (a : LeW W H Z H1 Z1) (b : LeW W H1 Z1 H2 Z2) : LeW W H Z H2 Z2 := by
  refine ⟨fun x o e n w => ?_, ?_, fun x o e => ?_⟩
  · obtain ⟨e1, n1⟩ := a.keep x o e n w
    exact b.keep x o e1 n1 w
  · obtain ⟨Y, rfl⟩ := a.pre
    obtain ⟨Y', rfl⟩ := b.pre
    exact ⟨Y ++ Y', by simp⟩
  · obtain ⟨o1, e1⟩ := a.there x o e
    exact b.there x o1 e1
theorem LeW.weak (a : Le H Z H1 Z1) : LeW W H Z H1 Z1 := ⟨fun x o e n _ => a.keep x o e n (by simp), a.pre, a.there⟩
theorem LeW.mono {W' : List Addr} (a : LeW W H Z H1 Z1) (h : ∀ x ∈ W, x ∈ W') : LeW W' H Z H1 Z1 := ⟨fun x o e n w => a.keep x o e n fun z => w (h x z), a.pre, a.there⟩
theorem LeW.at_ (a : LeW W H Z H1 Z1) {n : Nat} {x : Addr} (h : Z[n]? = some x) : Z1[n]? = some x := by
  obtain ⟨Y, rfl⟩ := a.pre
  rw [List.getElem?_append_left (List.getElem?_eq_some_iff.mp h).1]
  exact h
/-- a new object that is no cell -/
theorem Le.new {p : Addr} {o : HO} (h : H p = none) : Le H Z (upd H p o) Z := ⟨fun a u e n _ => ⟨by rw [upd_ne (ne_of_none e h)]; exact e, n⟩, ⟨[], by simp⟩, fun a u e => ⟨u, by rw [upd_ne (ne_of_none e h)]; exact e⟩⟩
/-- .. that is one -/
theorem Le.newc {p : Addr} {o : HO} (h : H p = none) : Le H Z (upd H p o) (Z ++ [p]) := by
  refine ⟨fun a u e n _ => ⟨by rw [upd_ne (ne_of_none e h)]; exact e, fun z => ?_⟩, ⟨[p], rfl⟩, fun a u e => ⟨u, by rw [upd_ne (ne_of_none e h)]; exact e⟩⟩
  rcases List.mem_append.mp z with z | z
  · exact n z
  · exact ne_of_none e h (by simpa using z)
/-- a cell is written -/
theorem Le.wr {p : Addr} {o : HO} (h : p ∈ Z) : Le H Z (upd H p o) Z := by
  refine ⟨fun a u e n _ => ⟨?_, n⟩, ⟨[], by simp⟩, fun a u e => ?_⟩
  · have q : a ≠ p := fun z => n (by rw [z]; exact h)
    rw [upd_ne q]
    exact e
  · by_cases z : a = p
    · exact ⟨o, by rw [z, upd_same]⟩
    · exact ⟨u, by rw [upd_ne z]; exact e⟩
/-- a busy object is written -/
theorem LeW.wr {p : Addr} {o : HO} (h : p ∈ W) : LeW W H Z (upd H p o) Z := by
  refine ⟨fun a u e n w => ⟨?_, n⟩, ⟨[], by simp⟩, fun a u e => ?_⟩
  · have q : a ≠ p := fun z => w (by rw [z]; exact h)
    rw [upd_ne q]
    exact e
  · by_cases z : a = p
    · exact ⟨o, by rw [z, upd_same]⟩
    · exact ⟨u, by rw [upd_ne z]; exact e⟩
theorem LeW.rd (l : LeW B H Z H' Z') {a : Addr} {u : HO} (h : Rd H a u) (n : a ∉ Z) (b : a ∉ B) : Rd H' a u ∧ a ∉ Z' := by
  rcases h with h | ⟨o, h⟩
  · obtain ⟨e, z⟩ := l.keep a _ h n b
    exact ⟨.inl e, z⟩
  · obtain ⟨e, z⟩ := l.keep a _ h n b
    exact ⟨.inr ⟨o, e⟩, z⟩
theorem FzT.mono {a : Addr} {vs : List V} (l : LeW B H Z H' Z') (h : FzT K H Z B a vs) : FzT K H' Z' B a vs := by
  rcases h with ⟨h, n, b⟩ | h
  · obtain ⟨h', n'⟩ := l.keep _ _ h n b
    exact .inl ⟨h', n', b⟩
  · exact .inr h
theorem FzS.mono {a : Addr} {vs : List V} (l : LeW B H Z H' Z') (h : FzS K H Z B a vs) : FzS K H' Z' B a vs := by
  rcases h with ⟨h, n, b⟩ | h
  · obtain ⟨h', n'⟩ := l.rd h n b
    exact .inl ⟨h', n', b⟩
  · exact .inr h
mutual
theorem RD.mono (l : LeW B H Z H' Z') : ∀ {d : D} {v : V}, RD K H Z B d v → RD K H' Z' B d v
  | _, _, .non => .non
  | _, _, .bl b => .bl b
  | _, _, .int i => .int i
  | _, _, .str s => .str s
  | _, _, .ty n => .ty n
  | _, _, .tup f r => .tup (f.mono l) (RDs.mono l r)
  | _, _, .lst e n b r => .lst (l.keep _ _ e n b).1 (l.keep _ _ e n b).2 b (RDs.mono l r)
  | _, _, .scr f r => .scr (f.mono l) (RDs.mono l r)
  | _, _, .cel e => .cel (l.at_ e)
  | _, _, .fn e => .fn e
theorem RDs.mono (l : LeW B H Z H' Z') : ∀ {ds : List D} {vs : List V}, RDs K H Z B ds vs → RDs K H' Z' B ds vs
  | _, _, .nil => .nil
  | _, _, .cons h r => .cons (RD.mono l h) (RDs.mono l r)
end
theorem RKs.mono (l : LeW B H Z H' Z') : ∀ {ds : List (Key × D)} {vs : List (Key × V)}, RKs K H Z B ds vs → RKs K H' Z' B ds vs
  | _, _, .nil => .nil
  | _, _, .cons h r => .cons ⟨h.1, h.2.mono l⟩ (RKs.mono l r)
theorem RD.le (l : Le H Z H' Z') {d : D} {v : V} (h : RD K H Z B d v) : RD K H' Z' B d v := h.mono l.weak
theorem RDs.le (l : Le H Z H' Z') {d : List D} {v : List V} (h : RDs K H Z B d v) : RDs K H' Z' B d v := h.mono l.weak
theorem COk.mono {a : Addr} {c : CO} (l : LeW B H Z H' Z') (e : H' a = H a) (h : COk K H Z B a c) : COk K H' Z' B a c := by
  cases c with
  | lst ds =>
    obtain ⟨vs, h1, h2⟩ := h
    exact ⟨vs, e.trans h1, h2.mono l⟩
  | dK kvs =>
    obtain ⟨vs, h1, h2⟩ := h
    exact ⟨vs, e.trans h1, h2.mono l⟩
theorem COk.there {a : Addr} {c : CO} (h : COk K H Z B a c) : ∃ o, H a = some o := by
  cases c with
  | lst ds =>
    obtain ⟨vs, h1, h2⟩ := h
    exact ⟨_, h1⟩
  | dK kvs =>
    obtain ⟨vs, h1, h2⟩ := h
    exact ⟨_, h1⟩
theorem HRel.there (h : HRel K μ Z B H) {a : Addr} (z : a ∈ Z) : ∃ o, H a = some o := by
  obtain ⟨i, e⟩ := List.mem_iff_getElem?.mp z
  have hi : i < μ.length := by rw [← h.len]; exact (List.getElem?_eq_some_iff.mp e).1
  obtain ⟨a', e', c⟩ := h.cel i _ (List.getElem?_eq_getElem hi)
  rw [e] at e'
  cases e'
  exact c.there
theorem HRel.fresh (h : HRel K μ Z B H) {p : Addr} (n : H p = none) : p ∉ Z ∧ p ∉ B := by
  refine ⟨fun z => ?_, fun z => h.hb p z n⟩
  obtain ⟨o, e⟩ := h.there z
  rw [n] at e
  cases e
/-- all cells as they stood, the rest by LeW -/
theorem HRel.keep (h : HRel K μ Z B H) (l : LeW B H Z H' Z) (same : ∀ a ∈ Z, H' a = H a) : HRel K μ Z B H' := by
  refine ⟨h.len, h.nd, h.zb, fun a hb z => ?_, fun i c e => ?_⟩
  · have := h.hb a hb
    cases e : H a with
    | none => exact this e
    | some o =>
      obtain ⟨o', e'⟩ := l.there a o e
      rw [z] at e'
      cases e'
  · obtain ⟨a, ea, ok⟩ := h.cel i c e
    exact ⟨a, ea, ok.mono l (same a (List.mem_of_getElem? ea))⟩
theorem HRel.new (h : HRel K μ Z B H) {p : Addr} {o : HO} (n : H p = none) : HRel K μ Z B (upd H p o) :=
  h.keep (Le.new n).weak fun a z => upd_ne fun e => (h.fresh n).1 (e ▸ z)
theorem nodup_at {Z : List Addr} (n : Z.Nodup) {i j : Nat} {a : Addr} (h1 : Z[i]? = some a) (h2 : Z[j]? = some a) : i = j := by
  obtain ⟨l1, e1⟩ := List.getElem?_eq_some_iff.mp h1
  obtain ⟨l2, e2⟩ := List.getElem?_eq_some_iff.mp h2
  exact (List.getElem_inj n).mp (e1.trans e2.symm)
/-- a cell is written -/
theorem HRel.wr (h : HRel K μ Z B H) {i : Nat} {a : Addr} {c : CO} {o : HO} (ea : Z[i]? = some a) (ok : COk K (upd H a o) Z B a c) : HRel K (μ.set i c) Z B (upd H a o) := by
  have l : Le H Z (upd H a o) Z := Le.wr (List.mem_of_getElem? ea)
  have hi : i < μ.length := by rw [← h.len]; exact (List.getElem?_eq_some_iff.mp ea).1
  refine ⟨by rw [List.length_set]; exact h.len, h.nd, h.zb, fun b hb z => ?_, fun j c' e => ?_⟩
  · cases e : H b with
    | none => exact h.hb b hb e
    | some u =>
      obtain ⟨o', e'⟩ := l.there b u e
      rw [z] at e'
      cases e'
  · by_cases hj : i = j
    · subst hj
      rw [List.getElem?_set_self hi] at e
      cases e
      exact ⟨a, ea, ok⟩
    · rw [List.getElem?_set_ne hj] at e
      obtain ⟨b, eb, okb⟩ := h.cel j c' e
      refine ⟨b, eb, okb.mono l.weak (upd_ne fun z => hj ?_)⟩
      subst z
      exact nodup_at h.nd ea eb
/-- a new cell -/
theorem HRel.newc (h : HRel K μ Z B H) {p : Addr} {c : CO} {o : HO} (n : H p = none) (ok : COk K (upd H p o) (Z ++ [p]) B p c) : HRel K (μ ++ [c]) (Z ++ [p]) B (upd H p o) := by
  have l : Le H Z (upd H p o) (Z ++ [p]) := Le.newc n
  obtain ⟨nz, nb⟩ := h.fresh n
  refine ⟨by rw [List.length_append, List.length_append, h.len]; rfl, ?_, fun a z => ?_, fun b hb z => ?_, fun j c' e => ?_⟩
  · rw [List.nodup_append]
    refine ⟨h.nd, by simp, fun x hx y hy => ?_⟩
    have : y = p := by simpa using hy
    subst this
    intro e
    exact nz (e ▸ hx)
  · rcases List.mem_append.mp z with z | z
    · exact h.zb a z
    · have : a = p := by simpa using z
      subst this
      exact nb
  · cases e : H b with
    | none => exact h.hb b hb e
    | some u =>
      obtain ⟨o', e'⟩ := l.there b u e
      rw [z] at e'
      cases e'
  · by_cases hj : j < μ.length
    · rw [List.getElem?_append_left hj] at e
      obtain ⟨b, eb, okb⟩ := h.cel j c' e
      exact ⟨b, l.at_ eb, okb.mono l.weak (upd_ne fun z => nz (z ▸ List.mem_of_getElem? eb))⟩
    · rw [List.getElem?_append_right (by omega)] at e
      have hj' : j - μ.length = 0 := by
        by_cases z : j - μ.length = 0
        · exact z
        · rw [List.getElem?_eq_none (by simp; omega)] at e
          cases e
      rw [hj'] at e
      cases e
      have : j = Z.length := by rw [h.len]; omega
      subst this
      exact ⟨p, by simp, ok⟩
/-- more that is busy -/
theorem FzT.busy {p a : Addr} {vs : List V} (n : H p = none) (h : FzT K H Z B a vs) : FzT K H Z (p :: B) a vs := by
  rcases h with ⟨h, z, b⟩ | h
  · refine .inl ⟨h, z, fun e => ?_⟩
    rcases List.mem_cons.mp e with e | e
    · subst e
      rw [n] at h; cases h
    · exact b e
  · exact .inr h
theorem FzS.busy {p a : Addr} {vs : List V} (n : H p = none) (h : FzS K H Z B a vs) : FzS K H Z (p :: B) a vs := by
  rcases h with ⟨h, z, b⟩ | h
  · refine .inl ⟨h, z, fun e => ?_⟩
    rcases List.mem_cons.mp e with e | e
    · subst e
      rcases h with h | ⟨_, h⟩ <;> (rw [n] at h; cases h)
    · exact b e
  · exact .inr h
mutual
theorem RD.busy {p : Addr} (n : H p = none) : ∀ {d : D} {v : V}, RD K H Z B d v → RD K H Z (p :: B) d v
  | _, _, .non => .non
  | _, _, .bl b => .bl b
  | _, _, .int i => .int i
  | _, _, .str s => .str s
  | _, _, .ty m => .ty m
  | _, _, .tup f r => .tup (f.busy n) (RDs.busy n r)
  | _, _, .lst e z b r => .lst e z (fun q => by
      rcases List.mem_cons.mp q with q | q
      · exact ne_of_none e n q
      · exact b q) (RDs.busy n r)
  | _, _, .scr f r => .scr (f.busy n) (RDs.busy n r)
  | _, _, .cel e => .cel e
  | _, _, .fn e => .fn e
theorem RDs.busy {p : Addr} (n : H p = none) : ∀ {ds : List D} {vs : List V}, RDs K H Z B ds vs → RDs K H Z (p :: B) ds vs
  | _, _, .nil => .nil
  | _, _, .cons h r => .cons (RD.busy n h) (RDs.busy n r)
end
mutual
theorem RD.free {p : Addr} : ∀ {d : D} {v : V}, RD K H Z (p :: B) d v → RD K H Z B d v
  | _, _, .non => .non
  | _, _, .bl b => .bl b
  | _, _, .int i => .int i
  | _, _, .str s => .str s
  | _, _, .ty m => .ty m
  | _, _, .tup f r => .tup (by
      rcases f with ⟨h, z, b⟩ | h
      · exact .inl ⟨h, z, fun e => b (List.mem_cons_of_mem _ e)⟩
      · exact .inr h) (RDs.free r)
  | _, _, .lst e z b r => .lst e z (fun q => b (List.mem_cons_of_mem _ q)) (RDs.free r)
  | _, _, .scr f r => .scr (by
      rcases f with ⟨h, z, b⟩ | h
      · exact .inl ⟨h, z, fun e => b (List.mem_cons_of_mem _ e)⟩
      · exact .inr h) (RDs.free r)
  | _, _, .cel e => .cel e
  | _, _, .fn e => .fn e
theorem RDs.free {p : Addr} : ∀ {ds : List D} {vs : List V}, RDs K H Z (p :: B) ds vs → RDs K H Z B ds vs
  | _, _, .nil => .nil
  | _, _, .cons h r => .cons (RD.free h) (RDs.free r)
end
theorem RKs.free {p : Addr} : ∀ {ds : List (Key × D)} {vs : List (Key × V)}, RKs K H Z (p :: B) ds vs → RKs K H Z B ds vs
  | _, _, .nil => .nil
  | _, _, .cons h r => .cons ⟨h.1, h.2.free⟩ (RKs.free r)
theorem RKs.busy {p : Addr} (n : H p = none) : ∀ {ds : List (Key × D)} {vs : List (Key × V)}, RKs K H Z B ds vs → RKs K H Z (p :: B) ds vs
  | _, _, .nil => .nil
  | _, _, .cons h r => .cons ⟨h.1, h.2.busy n⟩ (RKs.busy n r)
theorem COk.busy {p a : Addr} {c : CO} (n : H p = none) (h : COk K H Z B a c) : COk K H Z (p :: B) a c := by
  cases c with
  | lst ds =>
    obtain ⟨vs, h1, h2⟩ := h
    exact ⟨vs, h1, h2.busy n⟩
  | dK kvs =>
    obtain ⟨vs, h1, h2⟩ := h
    exact ⟨vs, h1, RKs.busy n h2⟩
theorem COk.free {p a : Addr} {c : CO} (h : COk K H Z (p :: B) a c) : COk K H Z B a c := by
  cases c with
  | lst ds =>
    obtain ⟨vs, h1, h2⟩ := h
    exact ⟨vs, h1, h2.free⟩
  | dK kvs =>
    obtain ⟨vs, h1, h2⟩ := h
    exact ⟨vs, h1, RKs.free h2⟩
/-- a new object is laid and busy -/
theorem HRel.lay (h : HRel K μ Z B H) {p : Addr} {o : HO} (n : H p = none) : HRel K μ Z (p :: B) (upd H p o) := by
  obtain ⟨nz, nb⟩ := h.fresh n
  have l : Le H Z (upd H p o) Z := Le.new n
  refine ⟨h.len, h.nd, fun a z e => ?_, fun a e z => ?_, fun i c e => ?_⟩
  · rcases List.mem_cons.mp e with e | e
    · exact nz (e ▸ z)
    · exact h.zb a z e
  · rcases List.mem_cons.mp e with e | e
    · subst e
      rw [upd_same] at z
      cases z
    · have q : a ≠ p := fun q => nb (by rw [← q]; exact e)
      rw [upd_ne q] at z
      exact h.hb a e z
  · obtain ⟨a, ea, ok⟩ := h.cel i c e
    exact ⟨a, ea, (ok.busy n).mono l.weak (upd_ne fun q => nz (q ▸ List.mem_of_getElem? ea))⟩
theorem HRel.unlay {p : Addr} (h : HRel K μ Z (p :: B) H) : HRel K μ Z B H :=
  ⟨h.len, h.nd, fun a z e => h.zb a z (List.mem_cons_of_mem _ e), fun a e => h.hb a (List.mem_cons_of_mem _ e), fun i c e => by
    obtain ⟨a, ea, ok⟩ := h.cel i c e
    exact ⟨a, ea, ok.free⟩⟩
/-- a busy object becomes a cell -/
theorem LeW.cell {p : Addr} : LeW (p :: B) H Z H (Z ++ [p]) := by
  refine ⟨fun a o e n w => ⟨e, fun z => ?_⟩, ⟨[p], rfl⟩, fun a o e => ⟨o, e⟩⟩
  rcases List.mem_append.mp z with z | z
  · exact n z
  · exact w (by have : a = p := by simpa using z
                rw [this]; exact List.mem_cons_self)
theorem HRel.celled {p : Addr} (h : HRel K μ Z (p :: B) H) (hp : p ∉ B) {c : CO} (ok : COk K H (Z ++ [p]) B p c) : HRel K (μ ++ [c]) (Z ++ [p]) B H := by
  have nz : p ∉ Z := fun z => h.zb p z (List.mem_cons_self)
  refine ⟨by rw [List.length_append, List.length_append, h.len]; rfl, ?_, fun a z => ?_, fun b hb => h.hb b (List.mem_cons_of_mem _ hb), fun j c' e => ?_⟩
  · rw [List.nodup_append]
    refine ⟨h.nd, by simp, fun x hx y hy => ?_⟩
    have : y = p := by simpa using hy
    subst this
    intro e
    exact nz (e ▸ hx)
  · rcases List.mem_append.mp z with z | z
    · exact fun e => h.zb a z (List.mem_cons_of_mem _ e)
    · have : a = p := by simpa using z
      subst this
      exact hp
  · by_cases hj : j < μ.length
    · rw [List.getElem?_append_left hj] at e
      obtain ⟨b, eb, okb⟩ := h.cel j c' e
      exact ⟨b, (LeW.cell (B := B) (H := H) (p := p)).at_ eb, (okb.mono LeW.cell rfl).free⟩
    · rw [List.getElem?_append_right (by omega)] at e
      have hj' : j - μ.length = 0 := by
        by_cases z : j - μ.length = 0
        · exact z
        · rw [List.getElem?_eq_none (by simp; omega)] at e
          cases e
      rw [hj'] at e
      cases e
      have : j = Z.length := by rw [h.len]; omega
      subst this
      exact ⟨p, by simp, ok⟩
theorem RDs.length {ds : List D} {vs : List V} (h : RDs K H Z B ds vs) : ds.length = vs.length := by
  induction ds generalizing vs with
  | nil => cases h; rfl
  | cons d ds ih =>
    cases h with
    | cons _ r => simp [ih r]
theorem RDs.get {ds : List D} {vs : List V} (h : RDs K H Z B ds vs) {i : Nat} {d : D} (e : ds[i]? = some d) : ∃ v, vs[i]? = some v ∧ RD K H Z B d v := by
  induction ds generalizing vs i with
  | nil => simp at e
  | cons x ds ih =>
    cases h with
    | cons r rs =>
      cases i with
      | zero =>
        simp at e
        subst e
        exact ⟨_, rfl, r⟩
      | succ i => exact ih rs (by simpa using e)
theorem RDs.get' {ds : List D} {vs : List V} (h : RDs K H Z B ds vs) {i : Nat} {v : V} (e : vs[i]? = some v) : ∃ d, ds[i]? = some d ∧ RD K H Z B d v := by
  have hi : i < ds.length := by rw [h.length]; exact (List.getElem?_eq_some_iff.mp e).1
  obtain ⟨v', e', r⟩ := h.get (List.getElem?_eq_getElem hi)
  rw [e] at e'
  cases e'
  exact ⟨_, List.getElem?_eq_getElem hi, r⟩
theorem RDs.append {ds es : List D} {vs ws : List V} (h : RDs K H Z B ds vs) (g : RDs K H Z B es ws) : RDs K H Z B (ds ++ es) (vs ++ ws) := by
  induction ds generalizing vs with
  | nil => cases h; exact g
  | cons x ds ih =>
    cases h with
    | cons r rs => exact .cons r (ih rs)
theorem RDs.set {ds : List D} {vs : List V} (h : RDs K H Z B ds vs) {d : D} {v : V} (r : RD K H Z B d v) (i : Nat) : RDs K H Z B (ds.set i d) (vs.set i v) := by
  induction ds generalizing vs i with
  | nil => cases h; exact .nil
  | cons x ds ih =>
    cases h with
    | cons q rs =>
      cases i with
      | zero => exact .cons r rs
      | succ i => exact .cons q (ih rs i)
theorem RDs.take {ds : List D} {vs : List V} (h : RDs K H Z B ds vs) (n : Nat) : RDs K H Z B (ds.take n) (vs.take n) := by
  induction ds generalizing vs n with
  | nil => cases h; simp; exact .nil
  | cons x ds ih =>
    cases h with
    | cons q rs =>
      cases n with
      | zero => exact .nil
      | succ n => exact .cons q (ih rs n)
theorem RDs.drop {ds : List D} {vs : List V} (h : RDs K H Z B ds vs) (n : Nat) : RDs K H Z B (ds.drop n) (vs.drop n) := by
  induction ds generalizing vs n with
  | nil => cases h; simp; exact .nil
  | cons x ds ih =>
    cases h with
    | cons q rs =>
      cases n with
      | zero => exact .cons q rs
      | succ n => exact ih rs n
theorem RDs.dropLast {ds : List D} {vs : List V} (h : RDs K H Z B ds vs) : RDs K H Z B ds.dropLast vs.dropLast := by
  rw [List.dropLast_eq_take, List.dropLast_eq_take, h.length]
  exact h.take _
theorem RDs.isEmpty {ds : List D} {vs : List V} (h : RDs K H Z B ds vs) : ds.isEmpty = vs.isEmpty := by
  cases h <;> rfl
theorem RDs.atI {ds : List D} {vs : List V} (h : RDs K H Z B ds vs) {i : Int} {d : D} (e : L2.atI ds i = some d) : ∃ v, L2.atI vs i = some v ∧ RD K H Z B d v := by
  unfold L2.atI at e ⊢
  rw [← h.length]
  cases q : ixN ds.length i with
  | none => rw [q] at e; cases e
  | some j =>
    rw [q] at e
    exact h.get e
theorem RDs.cut {ds : List D} {vs : List V} (h : RDs K H Z B ds vs) (lo hi : Option Int) : RDs K H Z B (cutD ds lo hi) (cutV vs lo hi) := by
  unfold cutD cutV
  rw [h.length]
  exact (h.drop _).take _
theorem cutD_le (xs : List D) (lo hi : Option Int) : (cutD xs lo hi).length ≤ xs.length := by
  unfold cutD
  rw [List.length_take, List.length_drop]
  omega
/-! ### dicts -/
theorem RKs.get {ds : List (Key × D)} {vs : List (Key × V)} (h : RKs K H Z B ds vs) {k : Key} : (∀ d, dget ds k = some d → ∃ v, valV vs k = some v ∧ RD K H Z B d v) ∧ (dget ds k = none → valV vs k = none) := by
  induction h with
  | nil => exact ⟨fun d e => by simp [dget] at e, fun _ => rfl⟩
  | @cons p q ps qs r rs ih =>
    obtain ⟨k1, d1⟩ := p
    obtain ⟨k2, v2⟩ := q
    obtain ⟨e, r⟩ := r
    simp only at e r
    subst e
    by_cases z : k1 = k
    · refine ⟨fun d e => ?_, fun e => ?_⟩
      · simp [dget, z] at e
        subst e
        exact ⟨v2, valV_pos z, r⟩
      · simp [dget, z] at e
    · have e1 : dget ((k1, d1) :: ps) k = dget ps k := by simp [dget, z]
      have e2 : valV ((k1, v2) :: qs) k = valV qs k := valV_neg z
      rw [e1, e2]
      exact ih
theorem RKs.isSome {ds : List (Key × D)} {vs : List (Key × V)} (h : RKs K H Z B ds vs) {k : Key} : (dget ds k).isSome = (valV vs k).isSome := by
  cases e : dget ds k with
  | none => rw [h.get.2 e]; rfl
  | some d =>
    obtain ⟨v, e', _⟩ := h.get.1 d e
    rw [e']; rfl
theorem RKs.any {ds : List (Key × D)} {vs : List (Key × V)} (h : RKs K H Z B ds vs) {k : Key} : (ds.any fun kv => decide (kv.1 = k)) = (vs.any fun kv => decide (kv.1 = k)) := by
  induction h with
  | nil => rfl
  | @cons p q ps qs r rs ih =>
    simp only [List.any_cons, ih, r.1]
theorem RKs.put {ds : List (Key × D)} {vs : List (Key × V)} (h : RKs K H Z B ds vs) {k : Key} {d : D} {v : V} (r : RD K H Z B d v) : RKs K H Z B (dput ds k d) (putK vs k v) := by
  unfold dput putK
  rw [h.any]
  split
  · induction h with
    | nil => exact .nil
    | @cons p q ps qs s rs ih =>
      refine .cons ?_ ?_
      · obtain ⟨k1, d1⟩ := p
        obtain ⟨k2, v2⟩ := q
        obtain ⟨e, s⟩ := s
        simp only at e s ⊢
        subst e
        split
        · exact ⟨rfl, r⟩
        · exact ⟨rfl, s⟩
      · have go : ∀ {ds : List (Key × D)} {vs : List (Key × V)}, RKs K H Z B ds vs → RKs K H Z B (ds.map fun kv => if kv.1 = k then (kv.1, d) else kv) (vs.map fun kv => if kv.1 = k then (kv.1, v) else kv) := by
          intro ds vs h
          induction h with
          | nil => exact .nil
          | @cons p q ps qs s rs ih =>
            refine .cons ?_ ih
            obtain ⟨k1, d1⟩ := p
            obtain ⟨k2, v2⟩ := q
            obtain ⟨e, s⟩ := s
            simp only at e s ⊢
            subst e
            split
            · exact ⟨rfl, r⟩
            · exact ⟨rfl, s⟩
        exact go rs
  · have go : ∀ {ds : List (Key × D)} {vs : List (Key × V)}, RKs K H Z B ds vs → RKs K H Z B (ds ++ [(k, d)]) (vs ++ [(k, v)]) := by
      intro ds vs h
      induction h with
      | nil => exact .cons ⟨rfl, r⟩ .nil
      | @cons p q ps qs s rs ih => exact .cons s ih
    exact go h
theorem RKs.merge {more : List (Key × D)} {mv : List (Key × V)} (h : RKs K H Z B more mv) : ∀ {ds : List (Key × D)} {vs : List (Key × V)}, RKs K H Z B ds vs → RKs K H Z B (dmerge ds more) (mergeK vs mv) := by
  induction h with
  | nil => intro ds vs h; exact h
  | @cons p q ps qs s rs ih =>
    intro ds vs h
    obtain ⟨k1, d1⟩ := p
    obtain ⟨k2, v2⟩ := q
    obtain ⟨e, s⟩ := s
    simp only at e s
    subst e
    exact ih (h.put s)
theorem RKs.length {ds : List (Key × D)} {vs : List (Key × V)} (h : RKs K H Z B ds vs) : ds.length = vs.length := by
  induction h with
  | nil => rfl
  | cons _ _ ih => simp [ih]
theorem keyD_rel {d : D} {k : Key} (e : keyD d = some k) {v : V} (r : RD K H Z B d v) : v = kV k := by
  cases r <;> simp [keyD] at e <;> subst e <;> rfl
end Rf

set_option Elab.async false
set_option linter.all false
set_option maxRecDepth 100000
/-! Rf3: the operations on plain data are what the layer's operations do -/
namespace Rf
open PySem L2 PySem.Spec PyProof.Rows

/-- what is wanted of a plain end, of the layer's end -/
def Fin (K : PySem.W.Frag) (H : Hp) (Z B : List Addr) (Q : WQ) (Q' : VK) : Prop :=
  ∀ (d : D) (μ' : M) (w : V) (H' : Hp) (Z' : List Addr), Le H Z H' Z' → HRel K μ' Z' B H' → RD K H' Z' B d w → Q d μ' → Q' w H'
variable {K : PySem.W.Frag} {H H1 H2 H' : Hp} {Z Z1 Z' B : List Addr} {μ μ' : M}
theorem Fin.here {Q : WQ} {Q' : VK} (f : Fin K H Z B Q Q') (hr : HRel K μ Z B H) {d : D} {w : V} (r : RD K H Z B d w) (q : Q d μ) : Q' w H := f d μ w H Z LeW.refl hr r q
theorem Fin.later {Q : WQ} {Q' : VK} (f : Fin K H Z B Q Q') (l : Le H Z H1 Z1) : Fin K H1 Z1 B Q Q' := fun d μ' w H' Z' l' hr r q => f d μ' w H' Z' (l.trans l') hr r q
theorem FzT.sq {a : Addr} {vs : List V} (h : FzT K H Z B a vs) : SqT K H a vs := by
  rcases h with ⟨h, _, _⟩ | h
  · exact .inl (.inl h)
  · exact .inr h
theorem FzS.sq {a : Addr} {vs : List V} (h : FzS K H Z B a vs) : SqL K H a vs := by
  rcases h with ⟨h, _, _⟩ | h
  · exact .inl h
  · exact .inr h
/-- a new tuple -/
theorem newT_ok {Q : WQ} {Q' : VK} (f : Fin K H Z B Q Q') (hr : HRel K μ Z B H) {ds : List D} {vs : List V} (r : RDs K H Z B ds vs) (q : Q (.tup ds) μ) {p : Addr} (n : H p = none) : Q' (.ref p) (upd H p (.tup vs)) := by
  have l : Le H Z (upd H p (.tup vs)) Z := Le.new n
  obtain ⟨n1, n2⟩ := hr.fresh n
  exact f _ _ _ _ _ l (hr.new n) (.tup (.inl ⟨upd_same, n1, n2⟩) (r.le l)) q
/-- a new list, by either way -/
theorem newL_ok {Q : WQ} {Q' : VK} (f : Fin K H Z B Q Q') (hr : HRel K μ Z B H) {ds : List D} {vs : List V} (r : RDs K H Z B ds vs) (q : newL ds μ Q) : vs.length ≤ sizeLine ∧ ∀ p, H p = none → Q' (.ref p) (upd H p (.lst vs)) := by
  obtain ⟨hl, q⟩ := q
  refine ⟨by rw [← r.length]; exact hl, fun p n => ?_⟩
  obtain ⟨n1, n2⟩ := hr.fresh n
  rcases q with q | q
  · have l : Le H Z (upd H p (.lst vs)) Z := Le.new n
    exact f _ _ _ _ _ l (hr.new n) (.lst upd_same n1 n2 (r.le l)) q
  · have l : Le H Z (upd H p (.lst vs)) (Z ++ [p]) := Le.newc n
    exact f _ _ _ _ _ l (hr.newc (c := .lst ds) n ⟨vs, upd_same, r.le l⟩) (.cel (by rw [← hr.len]; simp)) q
theorem HRel.at_ (hr : HRel K μ Z B H) {n : Nat} {c : CO} (e : μ[n]? = some c) {v : V} (r : RD K H Z B (.cel n) v) : ∃ a, v = .ref a ∧ Z[n]? = some a ∧ COk K H Z B a c := by
  obtain ⟨a, ea, ok⟩ := hr.cel n c e
  cases r with
  | cel e' => rw [ea] at e'; cases e'; exact ⟨_, rfl, ea, ok⟩
theorem asL_ok (hr : HRel K μ Z B H) {x : D} {xs : List D} (e : asL μ x = some xs) {v : V} (r : RD K H Z B x v) : ∃ a vs, v = .ref a ∧ H a = some (.lst vs) ∧ RDs K H Z B xs vs := by
  cases x with
  | lst ys =>
    cases e
    cases r with
    | lst e _ _ rs => exact ⟨_, _, rfl, e, rs⟩
  | cel n =>
    simp only [asL] at e
    split at e
    · rename_i ys eq
      cases e
      obtain ⟨a, rfl, _, vs, h1, h2⟩ := hr.at_ eq r
      exact ⟨a, vs, rfl, h1, h2⟩
    · cases e
  | _ => simp [asL] at e
theorem asR_eq : ∀ x : D, (∀ ys, x ≠ .scr ys) → asR μ x = asL μ x := fun x h => by
  cases x <;> first
    | rfl
    | exact absurd rfl (h _)
theorem asSq_eq : ∀ x : D, (∀ ys, x ≠ .tup ys) → asSq μ x = asR μ x := fun x h => by
  cases x <;> first
    | rfl
    | exact absurd rfl (h _)
theorem toPm_eq : ∀ x : D, (∀ ys, x ≠ .cel ys) → toPm μ x = toP x := fun x h => by
  cases x <;> first
    | rfl
    | exact absurd rfl (h _)
theorem asR_ok (hr : HRel K μ Z B H) {x : D} {xs : List D} (e : asR μ x = some xs) {v : V} (r : RD K H Z B x v) : ∃ a vs, v = .ref a ∧ SqL K H a vs ∧ RDs K H Z B xs vs := by
  cases x with
  | scr ys =>
    cases e
    cases r with
    | scr f rs => exact ⟨_, _, rfl, f.sq, rs⟩
  | _ =>
    rw [asR_eq _ (by intro ys q; cases q)] at e
    obtain ⟨a, vs, e1, e2, e3⟩ := asL_ok hr e r
    exact ⟨a, vs, e1, .of e2, e3⟩
theorem asSq_ok (hr : HRel K μ Z B H) {x : D} {xs : List D} (e : asSq μ x = some xs) {v : V} (r : RD K H Z B x v) : ∃ a vs, v = .ref a ∧ (SqL K H a vs ∨ SqT K H a vs) ∧ RDs K H Z B xs vs := by
  cases x with
  | tup ys =>
    cases e
    cases r with
    | tup f rs => exact ⟨_, _, rfl, .inr f.sq, rs⟩
  | _ =>
    rw [asSq_eq _ (by intro ys q; cases q)] at e
    obtain ⟨a, vs, e1, e2, e3⟩ := asR_ok hr e r
    exact ⟨a, vs, e1, .inl e2, e3⟩

/-! ### two-place operations -/
def upO (K : PySem.W.Frag) (o : D → D → M → WQ → Prop) : R2 := fun v u H Q' => ∃ (x y : D) (μ : M) (Z B : List Addr) (Q : WQ), HRel K μ Z B H ∧ RD K H Z B x v ∧ RD K H Z B y u ∧ o x y μ Q ∧ Fin K H Z B Q Q'
section
variable {X : Cx}
theorem opI_ok {f : Value → Value → Sem Value} {C : Int → Int → Prop} {g : Int → Int → Int} (h : OpR X f (rI C fun i j => .int (g i j))) : OpR X f (upO X.K (opI C g)) := by
  intro pins s σ H x y v u Q I rx ry hw
  obtain ⟨dx, dy, μ, Z, B, Q0, hr, r1, r2, ho, fin⟩ := hw
  cases dx with
  | int i =>
    cases dy with
    | int j =>
      cases r1
      cases r2
      exact h pins s σ H _ _ v u Q I rx ry ⟨i, j, rfl, rfl, ho.1, fin.here hr (.int _) ho.2⟩
    | _ => exact False.elim ho
  | _ => exact False.elim ho
theorem add_lists {x y : D} {μ : M} {Q0 : WQ} {pins : List (Addr × Obj)} {s : Shared} {σ : L2.St} {H : Hp} {vx vy : V} {v u : Value} {Q : VK} {Z B : List Addr} (I : Inv X pins σ H s) (rx : RelV vx v) (ry : RelV vy u)
    (hr : HRel X.K μ Z B H) (r1 : RD X.K H Z B x vx) (r2 : RD X.K H Z B y vy) (h : ∃ xs ys, asL μ x = some xs ∧ asL μ y = some ys ∧ newL (xs ++ ys) μ Q0) (fin : Fin X.K H Z B Q0 Q) :
    wpAny (model X.prog X.w) X.A (binaryOp .Add v u) (EP X pins σ Q) X.xe s := by
  obtain ⟨xs, ys, e1, e2, q⟩ := h
  obtain ⟨a, vs, rfl, h1, s1⟩ := asL_ok hr e1 r1
  obtain ⟨b, ws, rfl, h2, s2⟩ := asL_ok hr e2 r2
  obtain ⟨hl, k⟩ := newL_ok fin hr (s1.append s2) q
  exact op_cat pins s σ H _ _ v u Q I rx ry ⟨a, b, vs, ws, rfl, rfl, h1, h2, by rw [List.length_append] at hl; exact hl, k⟩
theorem add_ok : OpR X (binaryOp .Add) (upO X.K opAdd) := by
  intro pins s σ H x y v u Q I rx ry hw
  obtain ⟨dx, dy, μ, Z, B, Q0, hr, r1, r2, ho, fin⟩ := hw
  cases dx with
  | int i =>
    cases dy with
    | int j =>
      cases r1
      cases r2
      exact op_add pins s σ H _ _ v u Q I rx ry ⟨i, j, rfl, rfl, fin.here hr (.int _) ho⟩
    | _ => exact False.elim ho
  | str a =>
    cases dy with
    | str b =>
      cases r1
      cases r2
      exact op_add_str pins s σ H _ _ v u Q I rx ry ⟨a, b, rfl, rfl, ho.1, fin.here hr (.str _) ho.2⟩
    | _ => exact False.elim ho
  | tup xs =>
    cases dy with
    | tup ys =>
      cases r1 with
      | tup f1 s1 =>
        cases r2 with
        | tup f2 s2 =>
          obtain ⟨h0, hl, q⟩ := ho
          refine op_catT pins s σ H _ _ v u Q I rx ry ⟨_, _, _, _, rfl, rfl, f1.sq, f2.sq, ?_, ?_, fun e => ?_, fun e p n => ?_⟩
          · intro z
            apply h0
            have := s1.length
            rw [z] at this
            exact List.length_eq_zero_iff.mp this
          · rw [← s1.length, ← s2.length]; exact hl
          · have e2 : ys = [] := by
              have := s2.length
              rw [e] at this
              exact List.length_eq_zero_iff.mp this
            subst e2
            rw [List.append_nil] at q
            exact fin.here hr (.tup f1 s1) q
          · exact newT_ok fin hr (s1.append s2) q n
    | _ => exact False.elim ho
  | lst xs => exact add_lists I rx ry hr r1 r2 ho fin
  | cel n => exact add_lists I rx ry hr r1 r2 ho fin
  | non => exact add_lists I rx ry hr r1 r2 ho fin
  | bl b => exact add_lists I rx ry hr r1 r2 ho fin
  | ty n => exact add_lists I rx ry hr r1 r2 ho fin
  | fn f x => exact add_lists I rx ry hr r1 r2 ho fin
  | scr xs => exact add_lists I rx ry hr r1 r2 ho fin
theorem OpR.falls {f : Value → Value → Sem Value} : OpR X f (upO X.K fun _ _ _ _ => False) := by
  intro pins s σ H x y v u Q I rx ry hw
  obtain ⟨dx, dy, μ, Z, B, Q0, hr, r1, r2, ho, fin⟩ := hw
  exact False.elim ho
theorem sub_ok : OpR X (binaryOp .Sub) (upO X.K (opI (fun _ _ => True) fun i j => i - j)) := by
  refine opI_ok fun pins s σ H x y v u Q I rx ry hw => ?_
  obtain ⟨i, j, e1, e2, _, q⟩ := hw
  exact op_sub pins s σ H x y v u Q I rx ry ⟨i, j, e1, e2, q⟩
theorem mul_ok : OpR X (binaryOp .Mult) (upO X.K (opI (fun i j => CMul i j ∨ CMulW i j) fun i j => i * j)) := by
  refine opI_ok fun pins s σ H x y v u Q I rx ry hw => ?_
  obtain ⟨i, j, e1, e2, hc, q⟩ := hw
  rcases hc with hc | hc
  · exact op_mul pins s σ H x y v u Q I rx ry ⟨i, j, e1, e2, hc, q⟩
  · exact op_mulW pins s σ H x y v u Q I rx ry ⟨i, j, e1, e2, hc, q⟩
theorem pow_ok : OpR X (binaryOp .Pow) (upO X.K (opI (fun i j => CPow i j ∨ CPowW i j) fun i j => i ^ j.toNat)) := by
  refine opI_ok fun pins s σ H x y v u Q I rx ry hw => ?_
  obtain ⟨i, j, e1, e2, hc, q⟩ := hw
  rcases hc with hc | hc
  · exact op_pow pins s σ H x y v u Q I rx ry ⟨i, j, e1, e2, hc, q⟩
  · subst e1 e2
    obtain ⟨t1, rfl⟩ := rx
    obtain ⟨t2, rfl⟩ := ry
    exact pow_int hc.1 hc.2 ⟨.int _, H, I.tok _, ⟨_, rfl⟩, q⟩
theorem bin_ok (op : Operator) : OpR X (binaryOp op) (upO X.K (opBin op)) := by
  cases op with
  | Add => exact add_ok
  | Sub => exact sub_ok
  | Mult => exact mul_ok
  | FloorDiv => exact opI_ok op_fdivW
  | Mod => exact opI_ok op_mod
  | Pow => exact pow_ok
  | LShift => exact opI_ok op_shl
  | RShift => exact opI_ok op_shr
  | _ => exact OpR.falls

/-! ### comparisons -/
mutual
theorem toP_ok : ∀ {d : D} {p : PyData} {v : V}, toP d = some p → RD K H Z B d v → Dp K H v p
  | .non, p, v, e, r => by cases e; cases r; exact .non
  | .bl b, p, v, e, r => by cases e; cases r; exact .bl b
  | .int i, p, v, e, r => by cases e; cases r; exact .int i
  | .str x, p, v, e, r => by cases e; cases r; exact .str x
  | .tup xs, p, v, e, r => by
    cases h : toPs xs with
    | none => rw [toP, h] at e; cases e
    | some ps =>
      rw [toP, h] at e
      cases e
      cases r with
      | tup f rs => exact .tup f.sq (toPs_ok h rs)
  | .lst xs, p, v, e, r => by
    cases h : toPs xs with
    | none => rw [toP, h] at e; cases e
    | some ps =>
      rw [toP, h] at e
      cases e
      cases r with
      | lst f _ _ rs => exact .lst (.of f) (toPs_ok h rs)
  | .scr _, p, v, e, r => by simp [toP] at e
  | .ty _, p, v, e, r => by simp [toP] at e
  | .cel _, p, v, e, r => by simp [toP] at e
  | .fn _ _, p, v, e, r => by simp [toP] at e
theorem toPs_ok : ∀ {ds : List D} {ps : List PyData} {vs : List V}, toPs ds = some ps → RDs K H Z B ds vs → DpAll K H vs ps
  | [], ps, vs, e, r => by cases e; cases r; exact .nil
  | d :: ds, ps, vs, e, r => by
    cases r with
    | cons r1 r2 =>
      cases h1 : toP d with
      | none => simp [toPs, h1] at e
      | some p =>
        cases h2 : toPs ds with
        | none => simp [toPs, h1, h2] at e
        | some qs =>
          simp [toPs, h1, h2] at e
          subst e
          exact .cons (toP_ok h1 r1) (toPs_ok h2 r2)
end
theorem toPm_ok (hr : HRel K μ Z B H) {d : D} {p : PyData} {v : V} (e : toPm μ d = some p) (r : RD K H Z B d v) : Dp K H v p := by
  cases d with
  | cel n =>
    simp only [toPm] at e
    split at e
    · rename_i xs q
      obtain ⟨a, rfl, _, vs, h1, h2⟩ := hr.at_ q r
      cases h : toPs xs with
      | none => rw [h] at e; cases e
      | some ps =>
        rw [h] at e
        cases e
        exact .lst (.of h1) (toPs_ok h h2)
    · cases e
  | _ =>
    rw [toPm_eq _ (by intro ys q; cases q)] at e
    exact toP_ok e r
theorem flat_ok {d : D} {w v : V} (e : flat d = some w) (r : RD K H Z B d v) : v = w := by
  cases r <;> simp [flat] at e <;> exact e
theorem flats_ok {ds : List D} {ws vs : List V} (e : flats ds = some ws) (r : RDs K H Z B ds vs) : vs = ws := by
  induction ds generalizing ws vs with
  | nil => cases e; cases r; rfl
  | cons d ds ih =>
    cases r with
    | cons r1 r2 =>
      cases h1 : flat d with
      | none => simp [flats, h1] at e
      | some p =>
        cases h2 : flats ds with
        | none => simp [flats, h1, h2] at e
        | some qs =>
          simp [flats, h1, h2] at e
          subst e
          rw [flat_ok h1 r1, ih h2 r2]
def upC (K : PySem.W.Frag) (op : CmpOp) : R2 := fun v u H Q' => ∃ (x y : D) (μ : M) (Z B : List Addr) (k : Bool), HRel K μ Z B H ∧ RD K H Z B x v ∧ RD K H Z B y u ∧ opCmp op μ x y = some k ∧ Q' (.bl k) H
theorem cmpI_ok {f : Value → Value → Sem Value} {op : CmpOp} {g : Int → Int → Bool} (e : opCmp op = fun _ => cmpI g) (h : OpR X f (rI0 fun i j => .bl (g i j))) : OpR X f (upC X.K op) := by
  intro pins s σ H x y v u Q I rx ry hw
  obtain ⟨dx, dy, μ, Z, B, k, hr, r1, r2, ho, q⟩ := hw
  rw [e] at ho
  cases dx with
  | int i =>
    cases dy with
    | int j =>
      cases r1
      cases r2
      cases ho
      exact h pins s σ H _ _ v u Q I rx ry ⟨i, j, rfl, rfl, q⟩
    | _ => simp [cmpI] at ho
  | _ => simp [cmpI] at ho
theorem eqD_ok (hr : HRel K μ Z B H) {x y : D} {v u : V} {k : Bool} (r1 : RD K H Z B x v) (r2 : RD K H Z B y u) (h : eqP μ x y = some k) : ∃ d e, Dp K H v d ∧ Dp K H u e ∧ SeqAt.shaped d = true ∧ SeqAt.shaped e = true ∧ PyData.eqv d e = k := by
  unfold eqP at h
  split at h
  · rename_i a b h1 h2
    split at h
    · rename_i hs
      rw [Bool.and_eq_true] at hs
      exact ⟨a, b, toPm_ok hr h1 r1, toPm_ok hr h2 r2, hs.1, hs.2, Option.some.inj h⟩
    · cases h
  · cases h
theorem eq_cases {x y : D} {k : Bool} (h : eqD μ x y = some k) : (∃ a b, x = .str a ∧ y = .str b ∧ k = decide (a = b)) ∨ eqP μ x y = some k := by
  cases x with
  | str a =>
    cases y with
    | str b => cases h; exact .inl ⟨a, b, rfl, rfl, rfl⟩
    | _ => exact .inr h
  | _ => exact .inr h
theorem dec_v {a b : Str} : decide (V.str a = V.str b) = decide (a = b) := by
  rw [Bool.eq_iff_iff]
  simp
theorem eq_ok (hu : X.A.units + 64 < cLine) : OpR X (compareOp .Eq) (upC X.K .Eq) := by
  intro pins s σ H x y v u Q I rx ry hw
  obtain ⟨dx, dy, μ, Z, B, k, hr, r1, r2, ho, q⟩ := hw
  rcases eq_cases ho with ⟨a, b, rfl, rfl, rfl⟩ | ho
  · cases r1
    cases r2
    exact op_eq pins s σ H _ _ v u Q I rx ry ⟨rfl, by rw [dec_v]; exact q⟩
  obtain ⟨d, e, h1, h2, h3, h4, h5⟩ := eqD_ok hr r1 r2 ho
  exact op_eqD hu pins s σ H x y v u Q I rx ry ⟨d, e, h1, h2, h3, h4, by rw [h5]; exact q⟩
theorem ne_ok (hu : X.A.units + 64 < cLine) : OpR X (compareOp .NotEq) (upC X.K .NotEq) := by
  intro pins s σ H x y v u Q I rx ry hw
  obtain ⟨dx, dy, μ, Z, B, k, hr, r1, r2, ho, q⟩ := hw
  have ho : (eqD μ dx dy).map (!·) = some k := ho
  cases e : eqD μ dx dy with
  | none => rw [e] at ho; cases ho
  | some j =>
    rw [e] at ho
    cases ho
    rcases eq_cases e with ⟨a, b, rfl, rfl, rfl⟩ | e
    · cases r1
      cases r2
      exact op_ne pins s σ H _ _ v u Q I rx ry ⟨rfl, by rw [dec_v]; exact q⟩
    obtain ⟨d, e, h1, h2, h3, h4, h5⟩ := eqD_ok hr r1 r2 e
    exact op_neD hu pins s σ H x y v u Q I rx ry ⟨d, e, h1, h2, h3, h4, by rw [h5]; exact q⟩
theorem is_ok : OpR X (compareOp .Is) (upC X.K .Is) := by
  intro pins s σ H x y v u Q I rx ry hw
  obtain ⟨dx, dy, μ, Z, B, k, hr, r1, r2, ho, q⟩ := hw
  have ho : isD dx dy = some k := ho
  cases dy with
  | non =>
    cases r2
    refine op_isN pins s σ H x _ v u Q I rx ry ⟨rfl, ?_⟩
    cases r1 <;> (simp [isD] at ho; subst ho; simpa using q)
  | bl b =>
    cases dx with
    | bl a =>
      cases r1
      cases r2
      cases ho
      exact op_isBl pins s σ H _ _ v u Q I rx ry ⟨a, b, rfl, rfl, q⟩
    | _ => simp [isD] at ho
  | _ => simp [isD] at ho
theorem isnot_ok : OpR X (compareOp .IsNot) (upC X.K .IsNot) := by
  intro pins s σ H x y v u Q I rx ry hw
  obtain ⟨dx, dy, μ, Z, B, k, hr, r1, r2, ho, q⟩ := hw
  have ho : (isD dx dy).map (!·) = some k := ho
  cases dy with
  | non =>
    cases r2
    refine op_notN pins s σ H x _ v u Q I rx ry ⟨rfl, ?_⟩
    cases r1 <;> (simp [isD] at ho; subst ho; simpa using q)
  | bl b =>
    cases dx with
    | bl a =>
      cases r1
      cases r2
      cases ho
      exact op_notBl pins s σ H _ _ v u Q I rx ry ⟨a, b, rfl, rfl, q⟩
    | _ => simp [isD] at ho
  | _ => simp [isD] at ho
theorem inD_ok (hr : HRel K μ Z B H) {x y : D} {v u : V} {k : Bool} (r1 : RD K H Z B x v) (r2 : RD K H Z B y u) (h : inD μ x y = some k) :
    (∃ p ws, u = .ref p ∧ (SqL K H p ws ∨ SqT K H p ws) ∧ flatV v = true ∧ ws.all flatV = true ∧ inV v ws = k) ∨ ∃ p o, u = .ref p ∧ DGet H p v o ∧ o.isSome = k := by
  have seqs : ∀ {xs : List D} {p : Addr} {ws : List V}, u = .ref p → (SqL K H p ws ∨ SqT K H p ws) → RDs K H Z B xs ws →
      (match flat x, flats xs with | some v, some vs => if flatV v && vs.all flatV then some (inV v vs) else none | _, _ => none) = some k →
      ∃ p ws, u = .ref p ∧ (SqL K H p ws ∨ SqT K H p ws) ∧ flatV v = true ∧ ws.all flatV = true ∧ inV v ws = k := by
    intro xs p ws eu sq rs h
    split at h
    · rename_i a b e1 e2
      have := flat_ok e1 r1
      subst this
      have := flats_ok e2 rs
      subst this
      split at h
      · rename_i hc
        rw [Bool.and_eq_true] at hc
        exact ⟨p, _, eu, sq, hc.1, hc.2, Option.some.inj h⟩
      · cases h
    · cases h
  cases y with
  | cel n =>
    unfold inD at h
    simp only at h
    split at h
    · rename_i xs q
      obtain ⟨a, rfl, _, vs, h1, h2⟩ := hr.at_ q r2
      exact .inl (seqs rfl (.inl (.of h1)) h2 h)
    · rename_i kvs q
      obtain ⟨a, rfl, _, kws, h1, h2⟩ := hr.at_ q r2
      cases e : keyD x with
      | none => rw [e] at h; cases h
      | some key =>
        rw [e] at h
        have h : (dget kvs key).isSome = k := Option.some.inj h
        have ev := keyD_rel e r1
        subst ev
        exact .inr ⟨a, _, rfl, DGet.k h1, by rw [← h2.isSome]; exact h⟩
    · cases h
  | _ =>
    unfold inD at h
    simp only at h
    split at h
    · rename_i xs q
      obtain ⟨a, vs, eu, sq, rs⟩ := asSq_ok hr q r2
      exact .inl (seqs eu sq rs h)
    · cases h
theorem in_ok (hu : X.A.units + 64 < cLine) : OpR X (compareOp .In) (upC X.K .In) := by
  intro pins s σ H x y v u Q I rx ry hw
  obtain ⟨dx, dy, μ, Z, B, k, hr, r1, r2, ho, q⟩ := hw
  rcases inD_ok hr r1 r2 ho with ⟨p, ws, rfl, sq, f1, f2, e⟩ | ⟨p, o, rfl, g, e⟩
  · exact op_in_seq pins s σ H x _ v u Q I rx ry ⟨p, ws, rfl, sq, f1, f2, by simp only [e]; exact q⟩
  · cases (show u = Value.ref p from ry)
    exact d_in (by omega) I g rx fun s3 I3 => ⟨.bl _, H, I3, rfl, by rw [e]; exact q⟩
theorem notin_ok (hu : X.A.units + 64 < cLine) : OpR X (compareOp .NotIn) (upC X.K .NotIn) := by
  intro pins s σ H x y v u Q I rx ry hw
  obtain ⟨dx, dy, μ, Z, B, k, hr, r1, r2, ho, q⟩ := hw
  have ho : (inD μ dx dy).map (!·) = some k := ho
  cases e0 : inD μ dx dy with
  | none => rw [e0] at ho; cases ho
  | some j =>
    rw [e0] at ho
    cases ho
    rcases inD_ok hr r1 r2 e0 with ⟨p, ws, rfl, sq, f1, f2, e⟩ | ⟨p, o, rfl, g, e⟩
    · exact op_notIn_seq pins s σ H x _ v u Q I rx ry ⟨p, ws, rfl, sq, f1, f2, by simp only [e]; exact q⟩
    · cases (show u = Value.ref p from ry)
      exact d_notIn (by omega) I g rx fun s3 I3 => ⟨.bl _, H, I3, rfl, by rw [e]; exact q⟩
theorem cmp_ok (hu : X.A.units + 64 < cLine) (op : CmpOp) : OpR X (compareOp op) (upC X.K op) := by
  cases op with
  | Eq => exact eq_ok hu
  | NotEq => exact ne_ok hu
  | Lt => exact cmpI_ok rfl op_lt
  | LtE => exact cmpI_ok rfl op_le
  | Gt => exact cmpI_ok rfl op_gt
  | GtE => exact cmpI_ok rfl op_ge
  | Is => exact is_ok
  | IsNot => exact isnot_ok
  | In => exact in_ok hu
  | NotIn => exact notin_ok hu

/-! ### subscripts -/
theorem ix_dict (hu : X.A.units + 64 < cLine) : IxR X (fun x y H Q => ∃ a v, x = .ref a ∧ DGet H a y (some v) ∧ Q v H) := by
  intro value slice pins s σ H x y v u Q I rx ry h hs
  obtain ⟨a, w, rfl, g, q⟩ := h
  cases (show v = Value.ref a from rx)
  have hT := dict_typeIs I g
  unfold subscriptTail
  refine wpAny_bind ?_
  rw [getitemInPython_of_ne hT.not_modules]
  refine wpAny_bind (wpAny_specialOf hT PySem.F.slot_dict_getitem.lookup ?_)
  have fin : wpAny (model X.prog X.w) X.A (subscripted slice false (.ref a) u) (fun r s₃ => wpAny (model X.prog X.w) X.A (letTemporaryGo value (.ref a) r >>= fun _ => pure r) (EP X pins σ Q) X.xe s₃) X.xe s := by
    rw [hs]
    exact wpAny_operating (d_getItem (by omega) I g ry fun w' s3 I3 rw' => wpAny_bind (wpAny_letTemporaryGo (wpAny_pure ⟨w, H, I3, rw', q⟩)))
  first
    | exact wpAny_pure (wpAny_bind fin)
    | exact wpAny_bind (wpAny_pure (wpAny_bind fin))
    | exact wpAny_bind fin
theorem idx_ok (hu : X.A.units + 64 < cLine) : IxR X (upO X.K opIdx) := by
  intro value slice pins s σ H x y v u Q I rx ry hw hs
  obtain ⟨dx, dy, μ, Z, B, Q0, hr, r1, r2, ho, fin⟩ := hw
  have seqs : opIxSq dx dy μ Q0 → wpAny (model X.prog X.w) X.A (subscriptTail value slice v u) (EP X pins σ Q) X.xe s := by
    intro ho
    unfold opIxSq at ho
    cases e1 : asSq μ dx with
    | none => rw [e1] at ho; exact ho.elim
    | some xs =>
    rw [e1] at ho
    cases dy with
    | int i =>
      simp only at ho
      split at ho
      · rename_i d e2
        obtain ⟨a, vs, rfl, sq, rs⟩ := asSq_ok hr e1 r1
        obtain ⟨w, e3, rw'⟩ := rs.atI e2
        cases r2
        have q := fin.here hr rw' ho
        exact ix_seq value slice pins s σ H _ _ v u Q I rx ry (by
          rcases sq with sq | sq
          · exact .inl ⟨a, vs, i, w, rfl, rfl, sq, e3, q⟩
          · exact .inr (.inl ⟨a, vs, i, w, rfl, rfl, sq, e3, q⟩)) hs
      · exact ho.elim
    | _ => exact ho.elim
  cases dx with
  | str z =>
    cases r1
    cases dy with
    | int i =>
      cases r2
      unfold opIdx at ho
      simp only at ho
      split at ho
      · rename_i c e
        exact ix_str value slice pins s σ H _ _ v u Q I rx ry ⟨z, i, c, rfl, rfl, ho.1, e, fin.here hr (.str _) ho.2⟩ hs
      · exact ho.elim
    | _ => exact False.elim ho
  | cel n =>
    unfold opIdx at ho
    simp only at ho
    split at ho
    · rename_i xs e
      cases dy with
      | int i =>
        simp only at ho
        split at ho
        · rename_i d e2
          obtain ⟨a, rfl, _, vs, h1, rs⟩ := hr.at_ e r1
          obtain ⟨w, e3, rw'⟩ := rs.atI e2
          cases r2
          exact ix_list value slice pins s σ H _ _ v u Q I rx ry ⟨a, vs, i, w, rfl, rfl, .of h1, e3, fin.here hr rw' ho⟩ hs
        · exact ho.elim
      | _ => exact False.elim ho
    · rename_i kvs e
      split at ho
      · rename_i k ek
        split at ho
        · rename_i d e2
          obtain ⟨a, rfl, _, kws, h1, rs⟩ := hr.at_ e r1
          obtain ⟨w, e3, rw'⟩ := rs.get.1 d e2
          have ev := keyD_rel ek r2
          subst ev
          exact ix_dict hu value slice pins s σ H _ _ v u Q I rx ry ⟨a, w, rfl, by rw [← e3]; exact DGet.k h1, fin.here hr rw' ho⟩ hs
        · exact ho.elim
      · exact ho.elim
    · exact ho.elim
  | tup xs => exact seqs ho
  | lst xs => exact seqs ho
  | scr xs => exact seqs ho
  | non => exact seqs ho
  | bl b => exact seqs ho
  | int b => exact seqs ho
  | ty b => exact seqs ho
  | fn f x => exact seqs ho

/-! ### slices -/
def upS (K : PySem.W.Frag) : V → Option Int → Option Int → Hp → VK → Prop := fun v lo hi H Q' => ∃ (x : D) (μ : M) (Z B : List Addr) (Q : WQ), HRel K μ Z B H ∧ RD K H Z B x v ∧ opSlc x lo hi μ Q ∧ Fin K H Z B Q Q'
theorem slc_ok : SlR X (upS X.K) := by
  have go : SlR X (fun x lo hi H Q => rSlT X.K x lo hi H Q ∨ rSlL X.K x lo hi H Q) := sl_tup.or sl_list
  intro a b c d e f g h lo hi k l m n o p p' ho
  refine go a b c d e f g h lo hi k l m n o p p' ?_
  clear go
  obtain ⟨x, μ, Z, B, Q0, hr, r1, ho, fin⟩ := ho
  have lists : (match asR μ x with | some xs => newL (cutD xs lo hi) μ Q0 | none => False) → rSlL X.K e lo hi d l := by
    intro ho
    split at ho
    · rename_i xs q
      obtain ⟨a, vs, rfl, sq, rs⟩ := asR_ok hr q r1
      exact ⟨a, vs, rfl, sq, (newL_ok fin hr (rs.cut lo hi) ho).2⟩
    · exact ho.elim
  cases x with
  | tup xs =>
    obtain ⟨h1, q⟩ := ho
    cases r1 with
    | tup ft rs => exact .inl ⟨_, _, rfl, ft.sq, by rw [← rs.length]; exact h1, fun p n => newT_ok fin hr (rs.cut lo hi) q n⟩
  | lst xs => exact .inr (lists ho)
  | scr xs => exact .inr (lists ho)
  | cel n => exact .inr (lists ho)
  | non => exact .inr (lists ho)
  | bl b => exact .inr (lists ho)
  | int b => exact .inr (lists ho)
  | str b => exact .inr (lists ho)
  | ty b => exact .inr (lists ho)
  | fn f x => exact .inr (lists ho)
end
end Rf

set_option Elab.async false
set_option linter.all false
set_option maxRecDepth 100000
/-! Rf4: truth, built-ins, methods, stores; expressions by parts -/
namespace Rf
open PySem L2 PySem.Spec PyProof.Rows
variable {K : PySem.W.Frag} {H H1 H2 H' : Hp} {Z Z1 Z' B : List Addr} {μ μ' : M}

theorem tru_rel (hr : HRel K μ Z B H) {d : D} {k : Bool} (e : truD μ d = some k) {v : V} (r : RD K H Z B d v) : TruV K v H k := by
  cases d with
  | non => cases r; simp [truD] at e; subst e; rfl
  | bl b => cases r; simp [truD] at e; subst e; rfl
  | int i => cases r; simp only [truD] at e; cases e; rfl
  | str s =>
    cases r
    simp only [truD] at e
    split at e
    · rename_i h
      cases e
      exact ⟨h, rfl⟩
    · cases e
  | ty n => simp [truD] at e
  | fn f x => simp [truD] at e
  | tup xs =>
    cases r with
    | tup f rs =>
      simp only [truD] at e
      cases e
      exact .inr (.inl ⟨_, f.sq, by rw [rs.isEmpty]⟩)
  | lst xs =>
    cases r with
    | lst f _ _ rs =>
      simp only [truD] at e
      cases e
      exact .inl ⟨_, .of f, by rw [rs.isEmpty]⟩
  | scr xs =>
    cases r with
    | scr f rs =>
      simp only [truD] at e
      cases e
      exact .inl ⟨_, f.sq, by rw [rs.isEmpty]⟩
  | cel n =>
    simp only [truD] at e
    split at e
    · rename_i xs q
      cases e
      obtain ⟨a, rfl, _, vs, h1, rs⟩ := hr.at_ q r
      exact .inl ⟨_, .of h1, by rw [rs.isEmpty]⟩
    · rename_i kvs q
      cases e
      obtain ⟨a, rfl, _, vs, h1, rs⟩ := hr.at_ q r
      refine .inr (.inr ⟨_, h1, ?_⟩)
      cases rs <;> rfl
    · cases e

/-! ### types -/
theorem ty_rel (hr : HRel K μ Z B H) {d : D} {t : String} (e : tyD μ d = some t) {v : V} (r : RD K H Z B d v) : TyX K H v (.type t) := by
  cases d with
  | non => cases r; cases e; exact .base .non
  | bl b => cases r; cases e; exact .base (.bl _)
  | int i => cases r; cases e; exact .base (.int _)
  | str s => cases r; cases e; exact .base (.str _)
  | ty n => cases e
  | fn f x => cases e
  | tup xs =>
    cases e
    cases r with
    | tup f rs =>
      rcases f with ⟨f, _, _⟩ | ⟨o, its, n, k, c, _⟩
      · exact .base (.tup f)
      · exact .kTuple k c
  | lst xs =>
    cases e
    cases r with
    | lst f _ _ rs => exact .base (.lst f)
  | scr xs => cases e
  | cel n =>
    simp only [tyD] at e
    split at e
    · rename_i xs q
      cases e
      obtain ⟨a, rfl, _, vs, h1, rs⟩ := hr.at_ q r
      exact .base (.lst h1)
    · rename_i kvs q
      cases e
      obtain ⟨a, rfl, _, vs, h1, rs⟩ := hr.at_ q r
      exact .base (.dK h1)
    · cases e
theorem kits_ok {a : String} : ∀ {cs : List D} {k : Bool} {vs : List V}, kitsB a cs = some k → RDs K H Z B cs vs → ∃ us, Paired ClsV vs us ∧ PySem.W.kitAny K (.type a) us = some k
  | [], k, vs, e, r => by
    cases r
    cases e
    exact ⟨[], .nil, rfl⟩
  | d :: cs, k, vs, e, r => by
    cases r with
    | cons r1 r2 =>
      cases d with
      | ty b =>
        cases r1
        simp only [kitsB] at e
        cases h1 : kitB a b with
        | none => rw [h1] at e; simp at e
        | some j =>
          cases h2 : kitsB a cs with
          | none =>
            rw [h1, h2] at e
            cases j <;> simp at e
          | some l =>
            obtain ⟨us, p, q⟩ := kits_ok h2 r2
            rw [h1, h2] at e
            refine ⟨.type b :: us, .cons (.ty b) p, ?_⟩
            cases j with
            | true =>
              simp at e
              subst e
              exact kitAny_cons (kit_ty h1) (fun z => by cases z) fun _ => rfl
            | false =>
              simp at e
              subst e
              exact kitAny_cons (kit_ty h1) (fun _ => q) fun z => by cases z
      | _ => simp [kitsB] at e

/-! ### built-in functions -/
def upL (K : PySem.W.Frag) (o : List D → M → WQ → Prop) : List V → Hp → VK → Prop := fun vs H Q' => ∃ (ds : List D) (μ : M) (Z B : List Addr) (Q : WQ), HRel K μ Z B H ∧ RDs K H Z B ds vs ∧ o ds μ Q ∧ Fin K H Z B Q Q'
theorem rds1 {d : D} {vs : List V} (r : RDs K H Z B [d] vs) : ∃ v, vs = [v] ∧ RD K H Z B d v := by
  cases r with
  | cons r1 r2 => cases r2; exact ⟨_, rfl, r1⟩
theorem rds2 {d e : D} {vs : List V} (r : RDs K H Z B [d, e] vs) : ∃ v w, vs = [v, w] ∧ RD K H Z B d v ∧ RD K H Z B e w := by
  cases r with
  | cons r1 r2 =>
    obtain ⟨w, rfl, r3⟩ := rds1 r2
    exact ⟨_, w, rfl, r1, r3⟩
theorem bls_ok : ∀ {ds : List D} {bs : List Bool} {vs : List V}, blsD ds = some bs → RDs K H Z B ds vs → vs = bs.map V.bl
  | [], bs, vs, e, r => by cases r; cases e; rfl
  | d :: ds, bs, vs, e, r => by
    cases r with
    | cons r1 r2 =>
      cases d with
      | bl b =>
        cases r1
        cases h : blsD ds with
        | none => simp [blsD, h] at e
        | some cs =>
          simp [blsD, h] at e
          subst e
          rw [bls_ok h r2]
          rfl
      | _ => simp [blsD] at e
section
variable {X : Cx}
theorem CallR.falls {f : Value} : CallR X f (upL X.K fun _ _ _ => False) := by
  intro pins s σ H xs us Q I r hw
  obtain ⟨ds, μ, Z, B, Q0, hr, rs, ho, fin⟩ := hw
  exact ho.elim
/-- the shape of an argument list that a built-in serves -/
theorem len_ok : CallR X (.builtin "len") (upL X.K (opBlt .len)) := by
  intro pins s σ H xs us Q I r hw
  obtain ⟨ds, μ, Z, B, Q0, hr, rs, ho, fin⟩ := hw
  match ds, rs, ho with
  | [], rs, ho => exact ho.elim
  | _ :: _ :: _, rs, ho => exact ho.elim
  | [d], rs, ho =>
    obtain ⟨v, rfl, rv⟩ := rds1 rs
    simp only [opBlt] at ho
    cases e : lenD μ d with
    | none => rw [e] at ho; exact ho.elim
    | some n =>
      rw [e] at ho
      have q := fin.here hr (.int n) ho
      cases d with
      | str z =>
        cases rv
        simp only [lenD] at e
        split at e
        · rename_i hz
          cases e
          exact call_len pins s σ H _ us Q I r ⟨_, _, rfl, ⟨hz, rfl⟩, q⟩
        · cases e
      | cel m =>
        simp only [lenD] at e
        split at e
        · rename_i ys h
          cases e
          obtain ⟨a, rfl, _, vs, h1, rs'⟩ := hr.at_ h rv
          exact call_len pins s σ H _ us Q I r ⟨_, _, rfl, .inl ⟨_, .of h1, by rw [rs'.length]⟩, q⟩
        · rename_i kvs h
          cases e
          obtain ⟨a, rfl, _, vs, h1, rs'⟩ := hr.at_ h rv
          exact call_lenD pins s σ H _ us Q I r ⟨a, vs, rfl, h1, by rw [← rs'.length]; exact q⟩
        · cases e
      | _ =>
        simp only [lenD, Option.map_eq_some_iff] at e
        obtain ⟨ys, e1, e2⟩ := e
        obtain ⟨a, vs, rfl, sq, rs'⟩ := asSq_ok hr e1 rv
        subst e2
        rw [rs'.length] at q
        refine call_len pins s σ H _ us Q I r ⟨_, _, rfl, ?_, q⟩
        rcases sq with sq | sq
        · exact .inl ⟨_, sq, rfl⟩
        · exact .inr ⟨_, sq, rfl⟩
theorem abs_ok : CallR X (.builtin "abs") (upL X.K (opBlt .abs)) := by
  intro pins s σ H xs us Q I r hw
  obtain ⟨ds, μ, Z, B, Q0, hr, rs, ho, fin⟩ := hw
  match ds, rs, ho with
  | [], rs, ho => exact ho.elim
  | _ :: _ :: _, rs, ho => simp [opBlt] at ho
  | [d], rs, ho =>
    obtain ⟨v, rfl, rv⟩ := rds1 rs
    cases d with
    | int i => cases rv; exact call_abs pins s σ H _ us Q I r ⟨i, rfl, fin.here hr (.int _) ho⟩
    | _ => simp [opBlt] at ho
theorem int_ok : CallR X (.type "int") (upL X.K (opBlt .int)) := by
  intro pins s σ H xs us Q I r hw
  obtain ⟨ds, μ, Z, B, Q0, hr, rs, ho, fin⟩ := hw
  match ds, rs, ho with
  | [], rs, ho => exact ho.elim
  | _ :: _ :: _, rs, ho => simp [opBlt] at ho
  | [d], rs, ho =>
    obtain ⟨v, rfl, rv⟩ := rds1 rs
    cases d with
    | int i => cases rv; exact call_int1 pins s σ H _ us Q I r (.inl ⟨i, rfl, fin.here hr (.int _) ho⟩)
    | bl i => cases rv; exact call_int1 pins s σ H _ us Q I r (.inr ⟨i, rfl, fin.here hr (.int _) ho⟩)
    | _ => simp [opBlt] at ho
theorem str_ok : CallR X (.type "str") (upL X.K (opBlt .str)) := by
  intro pins s σ H xs us Q I r hw
  obtain ⟨ds, μ, Z, B, Q0, hr, rs, ho, fin⟩ := hw
  match ds, rs, ho with
  | [], rs, ho => exact ho.elim
  | _ :: _ :: _, rs, ho => simp [opBlt] at ho
  | [d], rs, ho =>
    obtain ⟨v, rfl, rv⟩ := rds1 rs
    cases d with
    | int i => cases rv; exact call_str_int pins s σ H _ us Q I r ⟨i, rfl, ho.1, fin.here hr (.str _) ho.2⟩
    | str i => cases rv; exact SkE.call_str_str pins s σ H _ us Q I r ⟨i, rfl, fin.here hr (.str _) ho⟩
    | _ => simp [opBlt] at ho
theorem intsD_ok : ∀ {ds : List D} {ns : List Int} {vs : List V}, intsD ds = some ns → RDs K H Z B ds vs → vs = ns.map V.int
  | [], ns, vs, e, r => by cases r; cases e; rfl
  | d :: ds, ns, vs, e, r => by
    cases r with
    | cons r1 r2 =>
      cases d with
      | int i =>
        simp only [intsD] at e
        cases e2 : intsD ds with
        | none => rw [e2] at e; cases e
        | some ms =>
          rw [e2] at e
          cases e
          cases r1
          rw [intsD_ok e2 r2]; rfl
      | _ => simp [intsD] at e
theorem strsD_ok : ∀ {ds : List D} {ns : List Str} {vs : List V}, strsD ds = some ns → RDs K H Z B ds vs → vs = ns.map V.str
  | [], ns, vs, e, r => by cases r; cases e; rfl
  | d :: ds, ns, vs, e, r => by
    cases r with
    | cons r1 r2 =>
      cases d with
      | str i =>
        simp only [strsD] at e
        cases e2 : strsD ds with
        | none => rw [e2] at e; cases e
        | some ms =>
          rw [e2] at e
          cases e
          cases r1
          rw [strsD_ok e2 r2]; rfl
      | _ => simp [strsD] at e
theorem ints_rd : ∀ {ns : List Int}, RDs K H Z B (ns.map .int) (ns.map V.int)
  | [] => .nil
  | n :: ns => .cons (.int n) ints_rd
theorem sortI_eq {ns ms : List Int} (h : ms.Perm ns) (hs : ms.Pairwise (· ≤ ·)) : ms = sortI ns := by
  have h2 : (sortI ns).Perm ns := List.mergeSort_perm _ _
  have h3 : (sortI ns).Pairwise (· ≤ ·) := by
    have := List.pairwise_mergeSort (le := fun i j : Int => decide (i ≤ j)) (fun a b c h1 h2 => by simp at *; omega) (fun a b => by simp; omega) ns
    exact this.imp fun h => by simpa using h
  exact (h.trans h2.symm).eq_of_pairwise (fun a b _ _ h1 h2 => by omega) hs h3
theorem sorted_ok : CallR X (.builtin "sorted") (upL X.K (opBlt .sorted)) := by
  intro pins s σ H xs us Q I r hw
  obtain ⟨ds, μ, Z, B, Q0, hr, rs, ho, fin⟩ := hw
  match ds, rs, ho with
  | [], rs, ho => exact ho.elim
  | _ :: _ :: _, rs, ho => simp [opBlt] at ho
  | [d], rs, ho =>
    obtain ⟨v, rfl, rv⟩ := rds1 rs
    simp only [opBlt] at ho
    cases e : asR μ d with
    | none => rw [e] at ho; exact ho.elim
    | some ys =>
      rw [e] at ho
      cases e2 : intsD ys with
      | none => simp [e2] at ho
      | some ns =>
        simp only [Option.bind_some, e2] at ho
        obtain ⟨a, vs, rfl, sq, rs'⟩ := asR_ok hr e rv
        have := intsD_ok e2 rs'
        subst this
        refine cr_sortedI pins s σ H _ us Q I r ⟨a, ns, rfl, sq, fun ms p h1 h2 h3 => ?_⟩
        rw [sortI_eq h1 h2]
        exact (newL_ok fin hr ints_rd ho).2 p h3
theorem repr_ok (hG : X.A.guards = some []) (hu : X.A.units + 80 < cLine) : CallR X (.builtin "repr") (upL X.K (opBlt .repr)) := by
  intro pins s σ H xs us Q I r hw
  obtain ⟨ds, μ, Z, B, Q0, hr, rs, ho, fin⟩ := hw
  match ds, rs, ho with
  | [], rs, ho => exact ho.elim
  | _ :: _ :: _, rs, ho => simp [opBlt] at ho
  | [d], rs, ho =>
    obtain ⟨v, rfl, rv⟩ := rds1 rs
    simp only [opBlt] at ho
    cases e : toPm μ d with
    | none => rw [e] at ho; exact ho.elim
    | some p =>
      rw [e] at ho
      simp only [Bool.and_eq_true, decide_eq_true_eq] at ho
      obtain ⟨⟨⟨⟨s1, s2⟩, s3⟩, sr⟩, s4, q⟩ := ho
      have dp := toPm_ok hr e rv
      obtain ⟨a, rfl⟩ : ∃ a, v = .ref a := by
        cases d <;> first
          | (cases rv; exact ⟨_, rfl⟩)
          | (simp [refB] at sr)
      obtain ⟨u, rfl, ru⟩ : ∃ u, us = [u] ∧ RelV (.ref a) u := by
        cases r with
        | cons p q => cases q; exact ⟨_, rfl, p⟩
      obtain ⟨as, rd⟩ := Dp.reads I p _ u dp ru
      have nd : p.hasDict = true → sysModules ∉ as := PyData.noDict_hsm (PyData.hasDict_of_canLay p s2)
      cases ru
      exact repr_of_reads' rd s1 nd hG (by omega) (fun _ _ h => h) (fun h' u tk hk => ⟨.str _, H, I.kept (h' := h') (t' := tk) hk, ⟨_, rfl⟩, fin.here hr (.str _) q⟩) s4
theorem isi_ok : CallR X (.builtin "isinstance") (upL X.K (opBlt .isi)) := by
  intro pins s σ H xs us Q I r hw
  obtain ⟨ds, μ, Z, B, Q0, hr, rs, ho, fin⟩ := hw
  match ds, rs, ho with
  | [], rs, ho => exact ho.elim
  | [_], rs, ho => simp [opBlt] at ho
  | _ :: _ :: _ :: _, rs, ho => simp [opBlt] at ho
  | [d, t], rs, ho =>
    obtain ⟨v, w, rfl, rv, rw'⟩ := rds2 rs
    simp only [opBlt] at ho
    cases e : isiD μ d t with
    | none => rw [e] at ho; exact ho.elim
    | some k =>
      rw [e] at ho
      have q := fin.here hr (.bl k) ho
      cases t with
      | ty b =>
        cases rw'
        simp only [isiD] at e
        split at e
        · rename_i a h
          exact call_isi pins s σ H _ us Q I r ⟨v, .ty b, .type a, .type b, k, rfl, .ty b, ty_rel hr h rv, kit_ty e, q⟩
        · cases e
      | tup cs =>
        simp only [isiD] at e
        split at e
        · rename_i a h
          cases rw' with
          | tup f rs' =>
            obtain ⟨us', p, q'⟩ := kits_ok e rs'
            rcases f with ⟨f, _, _⟩ | ⟨o, its, n, k', c, d', e', f'⟩
            · exact call_isiT pins s σ H _ us Q I r ⟨v, _, _, .type a, us', k, rfl, f, p, ty_rel hr h rv, q', q⟩
            · have e2 := ClsV.all p f'
              obtain ⟨oc, od, dt, sl⟩ := o
              simp only at c d'
              subst c d'
              exact call_isiK pins s σ H _ us Q I r ⟨v, _, od, its.toList, n, sl, .type a, k, rfl, by simpa using k', ty_rel hr h rv, by rw [e2]; exact q', q⟩
        · cases e
      | _ => simp [isiD] at e
theorem all_ok (hc : X.calm = true) : CallR X (.builtin "all") (upL X.K (opBlt .all)) := by
  intro pins s σ H xs us Q I r hw
  obtain ⟨ds, μ, Z, B, Q0, hr, rs, ho, fin⟩ := hw
  match ds, rs, ho with
  | [], rs, ho => exact ho.elim
  | _ :: _ :: _, rs, ho => simp [opBlt] at ho
  | [d], rs, ho =>
    obtain ⟨v, rfl, rv⟩ := rds1 rs
    simp only [opBlt] at ho
    cases e : asL μ d with
    | none => rw [e] at ho; exact ho.elim
    | some ys =>
      rw [e] at ho
      cases e2 : blsD ys with
      | none => simp [e2] at ho
      | some bs =>
        simp only [Option.bind_some, e2] at ho
        obtain ⟨a, vs, rfl, h1, rs'⟩ := asL_ok hr e rv
        have := bls_ok e2 rs'
        subst this
        exact cr_all hc pins s σ H _ us Q I r ⟨a, bs, rfl, .of h1, fin.here hr (.bl _) ho⟩
theorem any_ok (hc : X.calm = true) : CallR X (.builtin "any") (upL X.K (opBlt .any)) := by
  intro pins s σ H xs us Q I r hw
  obtain ⟨ds, μ, Z, B, Q0, hr, rs, ho, fin⟩ := hw
  match ds, rs, ho with
  | [], rs, ho => exact ho.elim
  | _ :: _ :: _, rs, ho => simp [opBlt] at ho
  | [d], rs, ho =>
    obtain ⟨v, rfl, rv⟩ := rds1 rs
    simp only [opBlt] at ho
    cases e : asL μ d with
    | none => rw [e] at ho; exact ho.elim
    | some ys =>
      rw [e] at ho
      cases e2 : blsD ys with
      | none => simp [e2] at ho
      | some bs =>
        simp only [Option.bind_some, e2] at ho
        obtain ⟨a, vs, rfl, h1, rs'⟩ := asL_ok hr e rv
        have := bls_ok e2 rs'
        subst this
        exact cr_any hc pins s σ H _ us Q I r ⟨a, bs, rfl, .of h1, fin.here hr (.bl _) ho⟩
theorem tuple_ok : CallR X (.type "tuple") (upL X.K (opBlt .tuple)) := by
  intro pins s σ H xs us Q I r hw
  obtain ⟨ds, μ, Z, B, Q0, hr, rs, ho, fin⟩ := hw
  match ds, rs, ho with
  | [], rs, ho => exact ho.elim
  | _ :: _ :: _, rs, ho => simp [opBlt] at ho
  | [d], rs, ho =>
    obtain ⟨v, rfl, rv⟩ := rds1 rs
    have lists : (match asR μ d with | some xs => Q0 (.tup xs) μ | none => False) → wpAny (model X.prog X.w) X.A (call (.type "tuple") us) (EP X pins σ Q) X.xe s := by
      intro ho
      cases e : asR μ d with
      | none => rw [e] at ho; exact ho.elim
      | some ys =>
        rw [e] at ho
        obtain ⟨a, vs, rfl, sq, rs'⟩ := asR_ok hr e rv
        exact call_tuple_of pins s σ H _ us Q I r ⟨a, vs, rfl, .inl ⟨sq, fun l n => newT_ok fin hr rs' ho n⟩⟩
    cases d with
    | tup ys =>
      cases rv with
      | tup f rs' => exact call_tuple_of pins s σ H _ us Q I r ⟨_, _, rfl, .inr ⟨f.sq, fin.here hr (.tup f rs') ho⟩⟩
    | lst ys => exact lists ho
    | scr ys => exact lists ho
    | cel ys => exact lists ho
    | non => exact lists ho
    | bl ys => exact lists ho
    | int ys => exact lists ho
    | str ys => exact lists ho
    | ty ys => exact lists ho
    | fn f x => exact lists ho
theorem list_ok : CallR X (.type "list") (upL X.K (opBlt .list)) := by
  intro pins s σ H xs us Q I r hw
  obtain ⟨ds, μ, Z, B, Q0, hr, rs, ho, fin⟩ := hw
  match ds, rs, ho with
  | [], rs, ho => exact ho.elim
  | _ :: _ :: _, rs, ho => simp [opBlt] at ho
  | [d], rs, ho =>
    obtain ⟨v, rfl, rv⟩ := rds1 rs
    simp only [opBlt] at ho
    cases e : asSq μ d with
    | none => rw [e] at ho; exact ho.elim
    | some ys =>
      rw [e] at ho
      obtain ⟨a, vs, rfl, sq, rs'⟩ := asSq_ok hr e rv
      exact call_list_of pins s σ H _ us Q I r ⟨a, vs, rfl, sq, (newL_ok fin hr rs' ho).2⟩
theorem two_ints {f : Value} {b : BI} {g : Int → Int → Int} (e : ∀ ds μ Q, opBlt b ds μ Q → ∃ i j, ds = [.int i, .int j] ∧ Q (.int (g i j)) μ)
    (h : CallR X f (fun xs H Q => ∃ i j, xs = [.int i, .int j] ∧ Q (.int (g i j)) H)) : CallR X f (upL X.K (opBlt b)) := by
  intro pins s σ H xs us Q I r hw
  obtain ⟨ds, μ, Z, B, Q0, hr, rs, ho, fin⟩ := hw
  obtain ⟨i, j, rfl, q⟩ := e _ _ _ ho
  obtain ⟨v, w, rfl, r1, r2⟩ := rds2 rs
  cases r1
  cases r2
  exact h pins s σ H _ us Q I r ⟨i, j, rfl, fin.here hr (.int _) q⟩
theorem op_two {b : BI} {g : Int → Int → Int} {ds : List D} {μ : M} {Q : WQ} (hb : b = .gcd ∨ b = .max2 ∨ b = .min2) (h : opBlt b ds μ Q) : ∃ i j, ds = [.int i, .int j] := by
  match ds, h with
  | [], h => rcases hb with rfl | rfl | rfl <;> exact h.elim
  | [d], h => rcases hb with rfl | rfl | rfl <;> cases d <;> simp [opBlt] at h
  | [d, e], h => rcases hb with rfl | rfl | rfl <;> cases d <;> cases e <;> simp [opBlt] at h <;> exact ⟨_, _, rfl⟩
  | _ :: _ :: _ :: _, h => rcases hb with rfl | rfl | rfl <;> simp [opBlt] at h
theorem gcd_ok : CallR X (.builtin "math.gcd") (upL X.K (opBlt .gcd)) := two_ints (g := fun i j => ((Nat.gcd i.natAbs j.natAbs : Nat) : Int)) (fun ds μ Q h => by
  obtain ⟨i, j, rfl⟩ := op_two (g := fun i _ => i) (.inl rfl) h
  exact ⟨i, j, rfl, h⟩) cr_gcd
theorem max_ok (hc : X.calm = true) : CallR X (.builtin "max") (upL X.K (opBlt .max2)) := two_ints (g := fun i j => if j > i then j else i) (fun ds μ Q h => by
  obtain ⟨i, j, rfl⟩ := op_two (g := fun i _ => i) (.inr (.inl rfl)) h
  exact ⟨i, j, rfl, h⟩) (call_max2 hc)
theorem min_ok (hc : X.calm = true) : CallR X (.builtin "min") (upL X.K (opBlt .min2)) := two_ints (g := fun i j => if j < i then j else i) (fun ds μ Q h => by
  obtain ⟨i, j, rfl⟩ := op_two (g := fun i _ => i) (.inr (.inr rfl)) h
  exact ⟨i, j, rfl, h⟩) (call_min2 hc)

/-! ### methods -/
def upM (K : PySem.W.Frag) (m : MI) : V → List V → Hp → VK → Prop := fun x vs H Q' => ∃ (d : D) (ds : List D) (μ : M) (Z B : List Addr) (Q : WQ), HRel K μ Z B H ∧ RD K H Z B d x ∧ RDs K H Z B ds vs ∧ opMth m d ds μ Q ∧ Fin K H Z B Q Q'
/-- a list that is a cell is written -/
theorem wrL_ok {Q : WQ} {Q' : VK} {n : Nat} {a : Addr} {vs : List V} {ds : List D} {d : D} {w : V} (hr : HRel K μ Z B H) (ea : Z[n]? = some a) (rs : RDs K H Z B ds vs) (rd : RD K H Z B d w) (fin : Fin K H Z B Q Q')
    (q : Q d (μ.set n (.lst ds))) : Q' w (upd H a (.lst vs)) := by
  have l : Le H Z (upd H a (.lst vs)) Z := Le.wr (List.mem_of_getElem? ea)
  exact fin _ _ _ _ _ l (hr.wr (c := .lst ds) ea ⟨vs, upd_same, rs.le l⟩) (rd.le l) q
theorem join_ok : MtR X "str.join" (upM X.K .join) := by
  intro pins s σ H x xs v us Q I rx r hw
  obtain ⟨d, ds, μ, Z, B, Q0, hr, rd, rs, ho, fin⟩ := hw
  match d, ds, rd, rs, ho with
  | .str a, [e], rd, rs, ho =>
    obtain ⟨w, rfl, rw'⟩ := rds1 rs
    simp only [opMth] at ho
    cases e1 : asSq μ e with
    | none => rw [e1] at ho; exact ho.elim
    | some zs =>
      rw [e1] at ho
      cases e2 : strsD zs with
      | none => simp [e2] at ho
      | some ys =>
        simp only [Option.bind_some, e2] at ho
        cases rd
        obtain ⟨p, vs, rfl, sq, rs'⟩ := asSq_ok hr e1 rw'
        have := strsD_ok e2 rs'
        subst this
        exact mt_join pins s σ H _ _ v us Q I rx r ⟨a, p, ys, rfl, rfl, sq, ho.1, fin.here hr (.str _) ho.2⟩
  | .str _, [], rd, rs, ho => simp [opMth] at ho
  | .str _, _ :: _ :: _, rd, rs, ho => simp [opMth] at ho
  | .non, _, rd, rs, ho => simp [opMth] at ho
  | .bl _, _, rd, rs, ho => simp [opMth] at ho
  | .int _, _, rd, rs, ho => simp [opMth] at ho
  | .ty _, _, rd, rs, ho => simp [opMth] at ho
  | .fn _ _, _, rd, rs, ho => simp [opMth] at ho
  | .tup _, _, rd, rs, ho => simp [opMth] at ho
  | .lst _, _, rd, rs, ho => simp [opMth] at ho
  | .scr _, _, rd, rs, ho => simp [opMth] at ho
  | .cel _, _, rd, rs, ho => simp [opMth] at ho
theorem append_ok : MtR X "list.append" (upM X.K .append) := by
  intro pins s σ H x xs v us Q I rx r hw
  obtain ⟨d, ds, μ, Z, B, Q0, hr, rd, rs, ho, fin⟩ := hw
  match d, ds, rd, rs, ho with
  | .cel n, [e], rd, rs, ho =>
    obtain ⟨w, rfl, rw'⟩ := rds1 rs
    simp only [opMth] at ho
    split at ho
    · rename_i ys q
      obtain ⟨a, rfl, ea, vs, h1, rs'⟩ := hr.at_ q rd
      refine mt_append pins s σ H _ _ v us Q I rx r ⟨a, vs, w, rfl, rfl, h1, by rw [← rs'.length]; exact ho.1, ?_⟩
      exact wrL_ok hr ea (rs'.append (.cons rw' .nil)) .non fin ho.2
    · exact ho.elim
  | .cel n, [], rd, rs, ho => simp [opMth] at ho
  | .cel n, _ :: _ :: _, rd, rs, ho => simp [opMth] at ho
  | .non, _, rd, rs, ho => simp [opMth] at ho
  | .bl _, _, rd, rs, ho => simp [opMth] at ho
  | .int _, _, rd, rs, ho => simp [opMth] at ho
  | .str _, _, rd, rs, ho => simp [opMth] at ho
  | .ty _, _, rd, rs, ho => simp [opMth] at ho
  | .fn _ _, _, rd, rs, ho => simp [opMth] at ho
  | .tup _, _, rd, rs, ho => simp [opMth] at ho
  | .lst _, _, rd, rs, ho => simp [opMth] at ho
  | .scr _, _, rd, rs, ho => simp [opMth] at ho

theorem pop_ok : MtR X "list.pop" (upM X.K .pop) := by
  intro pins s σ H x xs v us Q I rx r hw
  obtain ⟨d, ds, μ, Z, B, Q0, hr, rd, rs, ho, fin⟩ := hw
  match d, ds, rd, rs, ho with
  | .cel n, [], rd, rs, ho =>
    simp only [opMth] at ho
    split at ho
    · rename_i ys q
      split at ho
      · rename_i e he
        obtain ⟨a, rfl, ea, vs, h1, rs'⟩ := hr.at_ q rd
        obtain ⟨w, hw, rw'⟩ := rs'.get he
        cases rs
        refine mt_pop pins s σ H _ _ v us Q I rx r ⟨a, vs, w, rfl, rfl, h1, by rw [← rs'.length]; exact hw, ?_⟩
        exact wrL_ok hr ea rs'.dropLast rw' fin ho
      · exact ho.elim
    · exact ho.elim
  | .cel n, _ :: _, rd, rs, ho => simp [opMth] at ho
  | .non, _, rd, rs, ho => simp [opMth] at ho
  | .bl _, _, rd, rs, ho => simp [opMth] at ho
  | .int _, _, rd, rs, ho => simp [opMth] at ho
  | .str _, _, rd, rs, ho => simp [opMth] at ho
  | .ty _, _, rd, rs, ho => simp [opMth] at ho
  | .fn _ _, _, rd, rs, ho => simp [opMth] at ho
  | .tup _, _, rd, rs, ho => simp [opMth] at ho
  | .lst _, _, rd, rs, ho => simp [opMth] at ho
  | .scr _, _, rd, rs, ho => simp [opMth] at ho
theorem extend_ok : MtR X "list.extend" (upM X.K .extend) := by
  intro pins s σ H x xs v us Q I rx r hw
  obtain ⟨d, ds, μ, Z, B, Q0, hr, rd, rs, ho, fin⟩ := hw
  match d, ds, rd, rs, ho with
  | .cel n, [e], rd, rs, ho =>
    obtain ⟨w, rfl, rw'⟩ := rds1 rs
    simp only [opMth] at ho
    split at ho
    · rename_i ys q
      have go : (match asL μ e with | some zs => ys.length + zs.length ≤ sizeLine ∧ Q0 .non (μ.set n (.lst (ys ++ zs))) | none => False) → wpAny (model X.prog X.w) X.A (call (.builtin "list.extend") (v :: us)) (EP X pins σ Q) X.xe s := by
        intro ho
        cases he : asL μ e with
        | none => rw [he] at ho; exact ho.elim
        | some zs =>
          rw [he] at ho
          obtain ⟨a, rfl, ea, vs, h1, rs'⟩ := hr.at_ q rd
          obtain ⟨b, ws, rfl, h2, rs2⟩ := asL_ok hr he rw'
          refine mt_extend pins s σ H _ _ v us Q I rx r ⟨a, b, vs, ws, rfl, rfl, h1, h2, by rw [← rs'.length, ← rs2.length]; exact ho.1, ?_⟩
          exact wrL_ok hr ea (rs'.append rs2) .non fin ho.2
      cases e with
      | cel _ => exact ho.elim
      | _ => exact go ho
    · exact ho.elim
  | .cel n, [], rd, rs, ho => simp [opMth] at ho
  | .cel n, _ :: _ :: _, rd, rs, ho => simp [opMth] at ho
  | .non, _, rd, rs, ho => simp [opMth] at ho
  | .bl _, _, rd, rs, ho => simp [opMth] at ho
  | .int _, _, rd, rs, ho => simp [opMth] at ho
  | .str _, _, rd, rs, ho => simp [opMth] at ho
  | .ty _, _, rd, rs, ho => simp [opMth] at ho
  | .fn _ _, _, rd, rs, ho => simp [opMth] at ho
  | .tup _, _, rd, rs, ho => simp [opMth] at ho
  | .lst _, _, rd, rs, ho => simp [opMth] at ho
  | .scr _, _, rd, rs, ho => simp [opMth] at ho

/-! ### stores -/
def upP (K : PySem.W.Frag) : V → V → V → Hp → (Hp → Prop) → Prop := fun o i v H Q' => ∃ (x y z : D) (μ : M) (Z B : List Addr) (Q : M → Prop), HRel K μ Z B H ∧ RD K H Z B x o ∧ RD K H Z B y i ∧ RD K H Z B z v ∧ opPut x y z μ Q ∧
  ∀ μ' H', Le H Z H' Z → HRel K μ' Z B H' → Q μ' → Q' H'
theorem put_ok (hu : X.A.units + 64 < cLine) : PSet X (upP X.K) := by
  intro pins s σ H o i v ov iv u Q I r1 r2 r3 hw
  obtain ⟨x, y, z, μ, Z, B, Q0, hr, rx, ry, rz, ho, fin⟩ := hw
  cases x with
  | cel n =>
    simp only [opPut] at ho
    split at ho
    · rename_i xs q
      obtain ⟨a, rfl, ea, vs, h1, rs⟩ := hr.at_ q rx
      cases y with
      | int k =>
        simp only at ho
        split at ho
        · rename_i j ej
          cases ry
          refine set_list pins s σ H _ _ _ ov iv u Q I r1 r2 r3 ⟨a, vs, k, j, rfl, rfl, h1, by rw [← rs.length]; exact ej, ?_⟩
          have l : Le H Z (upd H a (.lst (vs.set j v))) Z := Le.wr (List.mem_of_getElem? ea)
          exact fin _ _ l (hr.wr (c := .lst (xs.set j z)) ea ⟨_, upd_same, (rs.set rz j).le l⟩) ho
        · exact ho.elim
      | _ => exact ho.elim
    · rename_i kvs q
      obtain ⟨a, rfl, ea, kws, h1, rs⟩ := hr.at_ q rx
      split at ho
      · rename_i k ek
        have ev := keyD_rel ek ry
        subst ev
        cases (show ov = Value.ref a from r1)
        have l : Le H Z (upd H a (.dK (putK kws k v))) Z := Le.wr (List.mem_of_getElem? ea)
        refine d_setItem (by omega) I (DPut.k h1 (by rw [← rs.length]; exact ho.1)) r2 r3 fun s' I' => ⟨_, I', fin _ _ l (hr.wr (c := .dK (dput kvs k z)) ea ⟨_, upd_same, (rs.put rz).mono l.weak⟩) ho.2⟩
      · exact ho.elim
    · exact ho.elim
  | _ => exact ho.elim
end
end Rf

set_option Elab.async false
set_option linter.all false
set_option maxRecDepth 100000
/-! Rf5: expressions: what the core language says of them is so -/
namespace Rf
open PySem L2 PySem.Spec PyProof.Rows
variable {K : PySem.W.Frag} {H H1 H2 H' : Hp} {Z Z1 Z' B : List Addr} {μ μ' : M} {ρ ρ' : Rho} {σ : L2.St}

/-! ### names -/
def RR (K : PySem.W.Frag) (H : Hp) (Z B : List Addr) (ρ : Rho) (σ : L2.St) : Prop := σ.length = ρ.length ∧ ∀ (i : Nat) (d : D), ρ[i]? = some (some d) → ∃ v, σ[i]? = some (some v) ∧ RD K H Z B d v
theorem RR.mono (l : LeW B H Z H' Z') (r : RR K H Z B ρ σ) : RR K H' Z' B ρ σ := ⟨r.1, fun i d e => by
  obtain ⟨v, h1, h2⟩ := r.2 i d e
  exact ⟨v, h1, h2.mono l⟩⟩
theorem RR.set (r : RR K H Z B ρ σ) {d : D} {v : V} (h : RD K H Z B d v) (i : Nat) : RR K H Z B (ρ.set i (some d)) (σ.set i (some v)) := ⟨by rw [List.length_set, List.length_set, r.1], fun j e q => by
  by_cases hj : i = j
  · subst hj
    by_cases hi : i < ρ.length
    · rw [List.getElem?_set_self hi] at q
      cases q
      exact ⟨v, by rw [List.getElem?_set_self (by rw [r.1]; exact hi)], h⟩
    · rw [List.getElem?_eq_none (by rw [List.length_set]; omega)] at q
      cases q
  · rw [List.getElem?_set_ne hj] at q ⊢
    exact r.2 j e q⟩
theorem RR.none (r : RR K H Z B ρ σ) (i : Nat) : RR K H Z B (ρ.set i none) (σ.set i none) := ⟨by rw [List.length_set, List.length_set, r.1], fun j e q => by
  by_cases hj : i = j
  · subst hj
    by_cases hi : i < ρ.length
    · rw [List.getElem?_set_self hi] at q
      cases q
    · rw [List.getElem?_eq_none (by rw [List.length_set]; omega)] at q
      cases q
  · rw [List.getElem?_set_ne hj] at q ⊢
    exact r.2 j e q⟩
theorem RR.wipe (r : RR K H Z B ρ σ) : ∀ js : List Nat, RR K H Z B (wipeD ρ js) (L2.wipe σ js)
  | [] => r
  | j :: js => (r.wipe js).none j
theorem RR.busy {p : Addr} (n : H p = Option.none) (r : RR K H Z B ρ σ) : RR K H Z (p :: B) ρ σ := ⟨r.1, fun i d e => by
  obtain ⟨v, h1, h2⟩ := r.2 i d e
  exact ⟨v, h1, h2.busy n⟩⟩
def Sta (K : PySem.W.Frag) (ρ : Rho) (μ : M) (Z B : List Addr) (σ : L2.St) (H : Hp) : Prop := HRel K μ Z B H ∧ RR K H Z B ρ σ
/-! ### what is read off the core language -/
def upE (K : PySem.W.Frag) (w : WE) : TE := fun σ H Q' => ∃ (ρ : Rho) (μ : M) (Z B : List Addr) (Q : WQ), Sta K ρ μ Z B σ H ∧ w ρ μ Q ∧ Fin K H Z B Q Q'
def upT (K : PySem.W.Frag) (w : WT) : TT := fun σ H Q' => ∃ (ρ : Rho) (μ : M) (Z B : List Addr) (Q : Bool → M → Prop), Sta K ρ μ Z B σ H ∧ w ρ μ Q ∧ ∀ k μ' H' Z', Le H Z H' Z' → HRel K μ' Z' B H' → Q k μ' → Q' k H'
def upA (K : PySem.W.Frag) (w : WA) : TA := fun σ H Q' => ∃ (ρ : Rho) (μ : M) (Z B : List Addr) (Q : List D → M → Prop), Sta K ρ μ Z B σ H ∧ w ρ μ Q ∧ ∀ ds μ' vs H' Z', Le H Z H' Z' → HRel K μ' Z' B H' → RDs K H' Z' B ds vs → Q ds μ' → Q' vs H'
theorem Sta.le (s : Sta K ρ μ Z B σ H) (l : Le H Z H' Z') (hr : HRel K μ' Z' B H') : Sta K ρ μ' Z' B σ H' := ⟨hr, s.2.mono l.weak⟩
theorem upE_i {w : WE} {Q : WQ} {R : VK} (hs : Sta K ρ μ Z B σ H) (hw : w ρ μ Q) (k : ∀ d μ' v H' Z', Le H Z H' Z' → Sta K ρ μ' Z' B σ H' → RD K H' Z' B d v → Q d μ' → R v H') : upE K w σ H R :=
  ⟨ρ, μ, Z, B, Q, hs, hw, fun d μ' v H' Z' l hr r q => k d μ' v H' Z' l (hs.le l hr) r q⟩
theorem upT_i {w : WT} {Q : Bool → M → Prop} {R : Bool → Hp → Prop} (hs : Sta K ρ μ Z B σ H) (hw : w ρ μ Q) (k : ∀ b μ' H' Z', Le H Z H' Z' → Sta K ρ μ' Z' B σ H' → Q b μ' → R b H') : upT K w σ H R :=
  ⟨ρ, μ, Z, B, Q, hs, hw, fun b μ' H' Z' l hr q => k b μ' H' Z' l (hs.le l hr) q⟩
theorem upA_i {w : WA} {Q : List D → M → Prop} {R : List V → Hp → Prop} (hs : Sta K ρ μ Z B σ H) (hw : w ρ μ Q) (k : ∀ ds μ' vs H' Z', Le H Z H' Z' → Sta K ρ μ' Z' B σ H' → RDs K H' Z' B ds vs → Q ds μ' → R vs H') : upA K w σ H R :=
  ⟨ρ, μ, Z, B, Q, hs, hw, fun d μ' v H' Z' l hr r q => k d μ' v H' Z' l (hs.le l hr) r q⟩
section
variable {X : Cx} {a b c : Expr} {pos : Pos} {wa wb wc : WE} {t u : TE}
theorem _root_.L2.PE.imp (h : PE X a t) (f : ∀ σ H Q, u σ H Q → t σ H Q) : PE X a u := ⟨fun pins s σ H Q I q => h.run pins s σ H Q I (f σ H Q q)⟩
theorem _root_.L2.PT.imp {t u : TT} (h : PT X a t) (f : ∀ σ H Q, u σ H Q → t σ H Q) : PT X a u := ⟨fun pins s σ H Q I q => h.run pins s σ H Q I (f σ H Q q)⟩
theorem _root_.L2.PA.imp {es : List Expr} {t u : TA} (h : PA X es t) (f : ∀ σ H Q, u σ H Q → t σ H Q) : PA X es u := ⟨fun pos pins s σ H Q I q => h.run pos pins s σ H Q I (f σ H Q q)⟩
theorem _root_.L2.PI.imp {tg it : Expr} {t u : TI} (h : PI X tg it t) (f : ∀ σ H Q, u σ H Q → t σ H Q) : PI X tg it u := ⟨fun pins s σ H Q I q => h.run pins s σ H Q I (f σ H Q q)⟩
theorem _root_.L2.PS.imp {st : Stmt} {t u : TS} (h : PS X st t) (f : ∀ D σ H, u D σ H → t D σ H) : PS X st u := ⟨fun pins s σ H D I q => h.run pins s σ H D I (f D σ H q)⟩
theorem _root_.L2.PSs.imp {st : List Stmt} {t u : TS} (h : PSs X st t) (f : ∀ D σ H, u D σ H → t D σ H) : PSs X st u := ⟨fun pins s σ H D I q => h.run pins s σ H D I (f D σ H q)⟩
theorem PE.falls : PE X a (upE X.K fun _ _ _ => False) := ⟨fun pins s σ H Q I q => by
  obtain ⟨ρ, μ, Z, B, Q, hs, hw, fin⟩ := q
  exact hw.elim⟩
theorem PT.falls : PT X a (upT X.K fun _ _ _ => False) := ⟨fun pins s σ H Q I q => by
  obtain ⟨ρ, μ, Z, B, Q, hs, hw, fin⟩ := q
  exact hw.elim⟩
theorem e_var {i : Nat} {x : Str} (hN : X.N[i]? = some x) (hv : Vis X.env.scope x) (hd : (x == ("__debug__" : Str)) = false) (hcd : (x == ("__classdict__" : Str)) = false) :
    PE X (.Name x pos) (upE X.K fun ρ μ Q => match getV ρ i with | some d => Q d μ | none => False) := by
  refine (pe_var hN hv hd hcd).imp fun σ H Q' ⟨ρ, μ, Z, B, Q, hs, hw, fin⟩ => ?_
  cases e : getV ρ i with
  | none => simp only [e] at hw
  | some d =>
    simp only [e] at hw
    unfold getV at e
    split at e
    · rename_i d' e'
      cases e
      obtain ⟨v, h1, h2⟩ := hs.2.2 i d e'
      exact ⟨v, h1, fin.here hs.1 h2 hw⟩
    · cases e
theorem e_con {d : D} {v : V} (h : PE X a (tC v)) (r : ∀ H Z B, RD X.K H Z B d v) : PE X a (upE X.K fun _ μ Q => Q d μ) :=
  h.imp fun σ H Q' ⟨ρ, μ, Z, B, Q, hs, hw, fin⟩ => fin.here hs.1 (r _ _ _) hw
theorem e_bin (op : Operator) (ha : PE X a (upE X.K wa)) (hb : PE X b (upE X.K wb)) : PE X (.BinOp a op b pos) (upE X.K fun ρ μ Q => wa ρ μ fun x μ1 => wb ρ μ1 fun y μ2 => opBin op x y μ2 Q) :=
  (pe_op (bin_ok op) ha hb).imp fun σ H Q' ⟨ρ, μ, Z, B, Q, hs, hw, fin⟩ => upE_i hs hw fun x μ1 v H1 Z1 l1 hs1 r1 hw1 => upE_i hs1 hw1 fun y μ2 u H2 Z2 l2 hs2 r2 ho =>
    ⟨x, y, μ2, Z2, B, Q, hs2.1, r1.le l2, r2, ho, fin.later (l1.trans l2)⟩
theorem e_neg (ha : PE X a (upE X.K wa)) : PE X (.UnaryOp .USub a pos) (upE X.K fun ρ μ Q => wa ρ μ fun x μ1 => match x with | .int i => Q (.int (-i)) μ1 | _ => False) :=
  (pe_un un_neg ha).imp fun σ H Q' ⟨ρ, μ, Z, B, Q, hs, hw, fin⟩ => upE_i hs hw fun x μ1 v H1 Z1 l1 hs1 r1 hw1 => by
    cases x with
    | int i => cases r1; exact ⟨i, rfl, (fin.later l1).here hs1.1 (.int _) hw1⟩
    | _ => exact hw1.elim
theorem e_not (ha : PE X a (upE X.K wa)) : PE X (.UnaryOp .Not a pos) (upE X.K fun ρ μ Q => wa ρ μ fun x μ1 => match x with | .bl i => Q (.bl (!i)) μ1 | _ => False) :=
  (pe_not ha).imp fun σ H Q' ⟨ρ, μ, Z, B, Q, hs, hw, fin⟩ => upE_i hs hw fun x μ1 v H1 Z1 l1 hs1 r1 hw1 => by
    cases x with
    | bl i => cases r1; exact ⟨i, rfl, (fin.later l1).here hs1.1 (.bl _) hw1⟩
    | _ => exact hw1.elim
theorem wCmp_some {op : CmpOp} {x y : D} {Q : Bool → Prop} (h : wCmp op x y μ Q) : ∃ k, opCmp op μ x y = some k ∧ Q k := by
  unfold wCmp at h
  cases e : opCmp op μ x y with
  | none => rw [e] at h; exact h.elim
  | some k => rw [e] at h; exact ⟨k, rfl, h⟩
theorem e_cmp (hu : X.A.units + 64 < cLine) (op : CmpOp) (hm : behindInMarks op b = false) (ha : PE X a (upE X.K wa)) (hb : PE X b (upE X.K wb)) :
    PE X (.Compare a [op] [b] pos) (upE X.K fun ρ μ Q => wa ρ μ fun x μ1 => wb ρ μ1 fun y μ2 => wCmp op x y μ2 fun k => Q (.bl k) μ2) :=
  (pe_cmpR (cmp_ok hu op) ha hb hm).imp fun σ H Q' ⟨ρ, μ, Z, B, Q, hs, hw, fin⟩ => upE_i hs hw fun x μ1 v H1 Z1 l1 hs1 r1 hw1 => upE_i hs1 hw1 fun y μ2 u H2 Z2 l2 hs2 r2 ho => by
    obtain ⟨k, e, q⟩ := wCmp_some ho
    exact ⟨x, y, μ2, Z2, B, k, hs2.1, r1.le l2, r2, e, (fin.later (l1.trans l2)).here hs2.1 (.bl _) q⟩
theorem t_cmp (hu : X.A.units + 64 < cLine) (op : CmpOp) (hm : behindInMarks op b = false) (ha : PE X a (upE X.K wa)) (hb : PE X b (upE X.K wb)) :
    PT X (.Compare a [op] [b] pos) (upT X.K fun ρ μ Q => wa ρ μ fun x μ1 => wb ρ μ1 fun y μ2 => wCmp op x y μ2 fun k => Q k μ2) :=
  (pt_cmpR (cmp_ok hu op) ha hb hm).imp fun σ H Q' ⟨ρ, μ, Z, B, Q, hs, hw, fin⟩ => upE_i hs hw fun x μ1 v H1 Z1 l1 hs1 r1 hw1 => upE_i hs1 hw1 fun y μ2 u H2 Z2 l2 hs2 r2 ho => by
    obtain ⟨k, e, q⟩ := wCmp_some ho
    exact ⟨x, y, μ2, Z2, B, k, hs2.1, r1.le l2, r2, e, k, rfl, fin _ _ _ _ (l1.trans l2) hs2.1 q⟩
theorem e_chn (hu : X.A.units + 64 < cLine) (o p : CmpOp) (hm : lastMarks [o, p] [b, c] = false) (ha : PE X a (upE X.K wa)) (hb : PE X b (upE X.K wb)) (hc : PE X c (upE X.K wc)) :
    PE X (.Compare a [o, p] [b, c] pos) (upE X.K fun ρ μ Q => wa ρ μ fun x μ1 => wb ρ μ1 fun y μ2 => wCmp o x y μ2 fun k =>
      if k = true then wc ρ μ2 fun z μ3 => wCmp p y z μ3 fun k2 => Q (.bl k2) μ3 else Q (.bl false) μ2) :=
  (pe_chain (cmp_ok hu o) (cmp_ok hu p) ha hb hc hm).imp fun σ H Q' ⟨ρ, μ, Z, B, Q, hs, hw, fin⟩ => upE_i hs hw fun x μ1 v H1 Z1 l1 hs1 r1 hw1 => upE_i hs1 hw1 fun y μ2 u H2 Z2 l2 hs2 r2 ho => by
    obtain ⟨k, e, q⟩ := wCmp_some ho
    refine ⟨x, y, μ2, Z2, B, k, hs2.1, r1.le l2, r2, e, k, rfl, ?_⟩
    cases k with
    | true =>
      rw [if_pos rfl] at q ⊢
      refine upE_i hs2 q fun z μ3 w H3 Z3 l3 hs3 r3 q3 => ?_
      obtain ⟨k2, e2, q2⟩ := wCmp_some q3
      exact ⟨y, z, μ3, Z3, B, k2, hs3.1, r2.le l3, r3, e2, (fin.later ((l1.trans l2).trans l3)).here hs3.1 (.bl _) q2⟩
    | false =>
      rw [if_neg Bool.false_ne_true] at q ⊢
      exact (fin.later (l1.trans l2)).here hs2.1 (.bl _) q
theorem t_chn (hu : X.A.units + 64 < cLine) (o p : CmpOp) (hm : lastMarks [o, p] [b, c] = false) (ha : PE X a (upE X.K wa)) (hb : PE X b (upE X.K wb)) (hc : PE X c (upE X.K wc)) :
    PT X (.Compare a [o, p] [b, c] pos) (upT X.K fun ρ μ Q => wa ρ μ fun x μ1 => wb ρ μ1 fun y μ2 => wCmp o x y μ2 fun k =>
      if k = true then wc ρ μ2 fun z μ3 => wCmp p y z μ3 fun k2 => Q k2 μ3 else Q false μ2) :=
  (pt_chain (cmp_ok hu o) (cmp_ok hu p) ha hb hc hm).imp fun σ H Q' ⟨ρ, μ, Z, B, Q, hs, hw, fin⟩ => upE_i hs hw fun x μ1 v H1 Z1 l1 hs1 r1 hw1 => upE_i hs1 hw1 fun y μ2 u H2 Z2 l2 hs2 r2 ho => by
    obtain ⟨k, e, q⟩ := wCmp_some ho
    refine ⟨x, y, μ2, Z2, B, k, hs2.1, r1.le l2, r2, e, k, rfl, ?_⟩
    cases k with
    | true =>
      rw [if_pos rfl] at q ⊢
      refine upE_i hs2 q fun z μ3 w H3 Z3 l3 hs3 r3 q3 => ?_
      obtain ⟨k2, e2, q2⟩ := wCmp_some q3
      exact ⟨y, z, μ3, Z3, B, k2, hs3.1, r2.le l3, r3, e2, k2, rfl, fin _ _ _ _ ((l1.trans l2).trans l3) hs3.1 q2⟩
    | false =>
      rw [if_neg Bool.false_ne_true] at q ⊢
      exact ⟨false, rfl, fin _ _ _ _ (l1.trans l2) hs2.1 q⟩
theorem e_and {r : List Expr} (ha : PE X a (upE X.K wa)) (hb : PE X (.BoolOp .And (b :: r) pos) (upE X.K wb)) :
    PE X (.BoolOp .And (a :: b :: r) pos) (upE X.K fun ρ μ Q => wa ρ μ fun x μ1 => match x with | .bl k => if k = true then wb ρ μ1 Q else Q (.bl false) μ1 | _ => False) :=
  (pe_and ha hb).imp fun σ H Q' ⟨ρ, μ, Z, B, Q, hs, hw, fin⟩ => upE_i hs hw fun x μ1 v H1 Z1 l1 hs1 r1 hw1 => by
    cases x with
    | bl k =>
      cases r1
      refine ⟨k, rfl, ?_⟩
      cases k with
      | true =>
        simp only [if_true] at hw1
        rw [if_pos rfl]
        exact upE_i hs1 hw1 fun y μ2 u H2 Z2 l2 hs2 r2 q => fin _ _ _ _ _ (l1.trans l2) hs2.1 r2 q
      | false =>
        simp only [Bool.false_eq_true, if_false] at hw1
        rw [if_neg Bool.false_ne_true]
        exact fin _ _ _ _ _ l1 hs1.1 (.bl _) hw1
    | _ => exact hw1.elim
theorem e_or {r : List Expr} (ha : PE X a (upE X.K wa)) (hb : PE X (.BoolOp .Or (b :: r) pos) (upE X.K wb)) :
    PE X (.BoolOp .Or (a :: b :: r) pos) (upE X.K fun ρ μ Q => wa ρ μ fun x μ1 => match x with | .bl k => if k = true then Q (.bl true) μ1 else wb ρ μ1 Q | _ => False) :=
  (pe_or ha hb).imp fun σ H Q' ⟨ρ, μ, Z, B, Q, hs, hw, fin⟩ => upE_i hs hw fun x μ1 v H1 Z1 l1 hs1 r1 hw1 => by
    cases x with
    | bl k =>
      cases r1
      refine ⟨k, rfl, ?_⟩
      cases k with
      | false =>
        simp only [Bool.false_eq_true, if_false] at hw1
        rw [if_neg Bool.false_ne_true]
        exact upE_i hs1 hw1 fun y μ2 u H2 Z2 l2 hs2 r2 q => fin _ _ _ _ _ (l1.trans l2) hs2.1 r2 q
      | true =>
        simp only [if_true] at hw1
        rw [if_pos rfl]
        exact fin _ _ _ _ _ l1 hs1.1 (.bl _) hw1
    | _ => exact hw1.elim
variable {ta tb tc : WT}
theorem PT.pw {op : BoolOp} {vs : List Expr} {t : TT} (h : PT X (.BoolOp op vs pos) t) : PW X (.BoolOp op vs pos) t := ⟨fun _ pins s σ H Q I q => h.run pins s σ H Q I q⟩
theorem t_and {r : List Expr} (ha : PT X a (upT X.K ta)) (hb : PT X (.BoolOp .And (b :: r) pos) (upT X.K tb)) :
    PT X (.BoolOp .And (a :: b :: r) pos) (upT X.K fun ρ μ Q => ta ρ μ fun k μ1 => if k = true then tb ρ μ1 Q else Q false μ1) :=
  (PW.pt (pw_and ha (PT.pw hb))).imp fun σ H Q' ⟨ρ, μ, Z, B, Q, hs, hw, fin⟩ => upT_i hs hw fun k μ1 H1 Z1 l1 hs1 hw1 => by
    cases k with
    | true =>
      rw [if_pos rfl] at hw1 ⊢
      exact upT_i hs1 hw1 fun y μ2 H2 Z2 l2 hs2 q => fin _ _ _ _ (l1.trans l2) hs2.1 q
    | false =>
      rw [if_neg Bool.false_ne_true] at hw1 ⊢
      exact fin _ _ _ _ l1 hs1.1 hw1
theorem t_or {r : List Expr} (ha : PT X a (upT X.K ta)) (hb : PT X (.BoolOp .Or (b :: r) pos) (upT X.K tb)) :
    PT X (.BoolOp .Or (a :: b :: r) pos) (upT X.K fun ρ μ Q => ta ρ μ fun k μ1 => if k = true then Q true μ1 else tb ρ μ1 Q) :=
  (PW.pt (pw_or ha (PT.pw hb))).imp fun σ H Q' ⟨ρ, μ, Z, B, Q, hs, hw, fin⟩ => upT_i hs hw fun k μ1 H1 Z1 l1 hs1 hw1 => by
    cases k with
    | false =>
      rw [if_neg Bool.false_ne_true] at hw1 ⊢
      exact upT_i hs1 hw1 fun y μ2 H2 Z2 l2 hs2 q => fin _ _ _ _ (l1.trans l2) hs2.1 q
    | true =>
      rw [if_pos rfl] at hw1 ⊢
      exact fin _ _ _ _ l1 hs1.1 hw1
theorem t_not (ha : PT X a (upT X.K ta)) : PT X (.UnaryOp .Not a pos) (upT X.K fun ρ μ Q => ta ρ μ fun k μ1 => Q (!k) μ1) :=
  (pt_not ha).imp fun σ H Q' ⟨ρ, μ, Z, B, Q, hs, hw, fin⟩ => upT_i hs hw fun k μ1 H1 Z1 l1 hs1 hw1 => fin _ _ _ _ l1 hs1.1 hw1
theorem e_ife (hc : PT X c (upT X.K tc)) (ha : PE X a (upE X.K wa)) (hb : PE X b (upE X.K wb)) : PE X (.IfExp c a b pos) (upE X.K fun ρ μ Q => tc ρ μ fun k μ1 => if k = true then wa ρ μ1 Q else wb ρ μ1 Q) :=
  (pe_ifExp hc ha hb).imp fun σ H Q' ⟨ρ, μ, Z, B, Q, hs, hw, fin⟩ => upT_i hs hw fun k μ1 H1 Z1 l1 hs1 hw1 => by
    cases k with
    | true =>
      rw [if_pos rfl] at hw1 ⊢
      exact upE_i hs1 hw1 fun y μ2 u H2 Z2 l2 hs2 r q => fin _ _ _ _ _ (l1.trans l2) hs2.1 r q
    | false =>
      rw [if_neg Bool.false_ne_true] at hw1 ⊢
      exact upE_i hs1 hw1 fun y μ2 u H2 Z2 l2 hs2 r q => fin _ _ _ _ _ (l1.trans l2) hs2.1 r q
/-- a value as a test -/
theorem t_tru (ha : PE X a (upE X.K wa)) (he : ∀ whole, isTrue a X.env whole = (do let v ← whole; standAt a.pos; holding [v] (truthy v))) : PT X a (upT X.K (ofE wa)) :=
  (pt_truth ha he).imp fun σ H Q' ⟨ρ, μ, Z, B, Q, hs, hw, fin⟩ => upE_i hs hw fun x μ1 v H1 Z1 l1 hs1 r1 hw1 => by
    cases e : truD μ1 x with
    | none => rw [e] at hw1; exact hw1.elim
    | some k =>
      rw [e] at hw1
      exact ⟨k, tru_rel hs1.1 e r1, fin _ _ _ _ l1 hs1.1 hw1⟩

/-! ### lists of expressions -/
variable {es : List Expr} {was wbs : WA}
theorem a_nil : PA X [] (upA X.K fun _ μ Q => Q [] μ) :=
  pa_nil.imp fun σ H Q' ⟨ρ, μ, Z, B, Q, hs, hw, fin⟩ => fin _ _ _ _ _ LeW.refl hs.1 .nil hw
def notSt : Expr → Bool
  | .Starred .. => false
  | _ => true
theorem star_one {e : Expr} {es : List Expr} {env : Env} (h : notSt e = true) : starEach (e :: es) env = (false, eval e env) :: starEach es env := by
  cases e <;> first
    | rfl
    | cases h
theorem star_any {env : Env} {pos : Pos} : ∀ {es : List Expr}, es.all notSt = true → (backTo pos (starEach es env)).any (·.1) = false
  | [], _ => rfl
  | e :: es, h => by
    simp only [List.all_cons, Bool.and_eq_true] at h
    rw [star_one h.1]
    show (false || (backTo pos (starEach es env)).any (·.1)) = false
    rw [star_any h.2]; rfl
theorem a_cons (hst : notSt a = true) (ha : PE X a (upE X.K wa)) (hr : PA X es (upA X.K was)) : PA X (a :: es) (upA X.K fun ρ μ Q => wa ρ μ fun d μ1 => was ρ μ1 fun ds μ2 => Q (d :: ds) μ2) :=
  (pa_cons ha hr (star_one hst)).imp fun σ H Q' ⟨ρ, μ, Z, B, Q, hs, hw, fin⟩ => upE_i hs hw fun x μ1 v H1 Z1 l1 hs1 r1 hw1 => upA_i hs1 hw1 fun ds μ2 vs H2 Z2 l2 hs2 r2 q =>
    fin _ _ _ _ _ (l1.trans l2) hs2.1 (.cons (r1.le l2) r2) q
theorem e_tup {k : Nat} (h : PA X es (upA X.K was)) : PE X (.Tuple es k pos) (upE X.K fun ρ μ Q => was ρ μ fun ds μ1 => ds.length ≤ sizeLine ∧ Q (.tup ds) μ1) :=
  (pe_tup h).imp fun σ H Q' ⟨ρ, μ, Z, B, Q, hs, hw, fin⟩ => upA_i hs hw fun ds μ1 vs H1 Z1 l1 hs1 r1 hw1 => ⟨by rw [← r1.length]; exact hw1.1, fun p n => newT_ok (fin.later l1) hs1.1 r1 hw1.2 n⟩
theorem e_lst (h : PA X es (upA X.K was)) : PE X (.List es pos) (upE X.K fun ρ μ Q => was ρ μ fun ds μ1 => newL ds μ1 Q) :=
  (pe_lst h).imp fun σ H Q' ⟨ρ, μ, Z, B, Q, hs, hw, fin⟩ => upA_i hs hw fun ds μ1 vs H1 Z1 l1 hs1 r1 hw1 => newL_ok (fin.later l1) hs1.1 r1 hw1
theorem e_idx (hu : X.A.units + 64 < cLine) (hs : PlainIx b) (ha : PE X a (upE X.K wa)) (hb : PE X b (upE X.K wb)) : PE X (.Subscript a b pos) (upE X.K fun ρ μ Q => wa ρ μ fun x μ1 => wb ρ μ1 fun y μ2 => opIdx x y μ2 Q) :=
  (pe_ix (idx_ok hu) ha hb hs).imp fun σ H Q' ⟨ρ, μ, Z, B, Q, hs, hw, fin⟩ => upE_i hs hw fun x μ1 v H1 Z1 l1 hs1 r1 hw1 => upE_i hs1 hw1 fun y μ2 u H2 Z2 l2 hs2 r2 ho =>
    ⟨x, y, μ2, Z2, B, Q, hs2.1, r1.le l2, r2, ho, fin.later (l1.trans l2)⟩
def upO' (K : PySem.W.Frag) (w : Rho → M → (Option Int → M → Prop) → Prop) : TO := fun σ H Q' => ∃ (ρ : Rho) (μ : M) (Z B : List Addr) (Q : Option Int → M → Prop), Sta K ρ μ Z B σ H ∧ w ρ μ Q ∧ ∀ o μ' H' Z', Le H Z H' Z' → HRel K μ' Z' B H' → Q o μ' → Q' o H'
theorem upO_i {w : Rho → M → (Option Int → M → Prop) → Prop} {Q : Option Int → M → Prop} {R : Option Int → Hp → Prop} (hs : Sta K ρ μ Z B σ H) (hw : w ρ μ Q) (k : ∀ b μ' H' Z', Le H Z H' Z' → Sta K ρ μ' Z' B σ H' → Q b μ' → R b H') : upO' K w σ H R :=
  ⟨ρ, μ, Z, B, Q, hs, hw, fun b μ' H' Z' l hr q => k b μ' H' Z' l (hs.le l hr) q⟩
theorem o_none : PO X none (upO' X.K fun _ μ Q => Q none μ) := ⟨fun pins s σ H Q I ⟨ρ, μ, Z, B, Q0, hs, hw, fin⟩ => po_none.run pins s σ H Q I (fin _ _ _ _ LeW.refl hs.1 hw)⟩
theorem o_some (ha : PE X a (upE X.K wa)) : PO X (some a) (upO' X.K fun ρ μ Q => wa ρ μ fun d μ1 => match d with | .int i => Q (some i) μ1 | _ => False) :=
  ⟨fun pins s σ H Q I ⟨ρ, μ, Z, B, Q0, hs, hw, fin⟩ => (po_some ha).run pins s σ H Q I (upE_i hs hw fun x μ1 v H1 Z1 l1 hs1 r1 hw1 => by
    cases x with
    | int i => cases r1; exact ⟨i, rfl, fin _ _ _ _ l1 hs1.1 hw1⟩
    | _ => exact hw1.elim)⟩
theorem e_slc {lo hi : Option Expr} {p2 : Pos} {wl wh : Rho → M → (Option Int → M → Prop) → Prop} (ha : PE X a (upE X.K wa)) (hl : PO X lo (upO' X.K wl)) (hh : PO X hi (upO' X.K wh)) :
    PE X (.Subscript a (.Slice lo hi none p2) pos) (upE X.K fun ρ μ Q => wa ρ μ fun x μ1 => wl ρ μ1 fun l μ2 => wh ρ μ2 fun h μ3 => opSlc x l h μ3 Q) :=
  (pe_slice slc_ok ha hl hh).imp fun σ H Q' ⟨ρ, μ, Z, B, Q, hs, hw, fin⟩ => upE_i hs hw fun x μ1 v H1 Z1 l1 hs1 r1 hw1 => upO_i hs1 hw1 fun l μ2 H2 Z2 l2 hs2 hw2 => upO_i hs2 hw2 fun h μ3 H3 Z3 l3 hs3 q =>
    ⟨x, μ3, Z3, B, Q, hs3.1, (r1.le l2).le l3, q, fin.later ((l1.trans l2).trans l3)⟩

/-! ### calls -/
theorem up_cb {o : List D → M → WQ → Prop} (ha : PA X es (upA X.K was)) (h : PE X a (tCB (upL X.K o) (upA X.K was))) : PE X a (upE X.K fun ρ μ Q => was ρ μ fun ds μ1 => o ds μ1 Q) :=
  h.imp fun σ H Q' ⟨ρ, μ, Z, B, Q, hs, hw, fin⟩ => upA_i hs hw fun ds μ1 vs H1 Z1 l1 hs1 r1 hw1 => ⟨ds, μ1, Z1, B, Q, hs1.1, r1, hw1, fin.later l1⟩
/-- what a def promises over plain data is a promise over the heap -/
def lift (K : PySem.W.Frag) (S : DSpec) : Sp := fun vs H Q' _ => ∃ (ds : List D) (μ : M) (Z B : List Addr) (Q : WQ), HRel K μ Z B H ∧ RDs K H Z B ds vs ∧ S ds μ Q ∧ Fin K H Z B Q Q'
section
variable {k : Nat} {x : Str} {p : Pos} {f : Addr} {fd : FuncData} {ps : List Str} {S : DSpec} {e : Expr}
theorem e_cal (F : FnOk X.prog X.w X.K X.mg X.base CX0 k f fd ps (lift X.K S)) (hr : Room k X.A) (hg : Gl X x) (hm : X.mg x = some (.ref f)) (hk : PySem.W.keepIn X.K (.ref f) = true)
    (hb : Binds X.K fd ps []) (hst : (e :: es).all notSt = true) (hdb : (x == ("__debug__" : Str)) = false) (ha : PA X (e :: es) (upA X.K was)) :
    PE X (.Call (.Name x p) (e :: es) [] pos) (upE X.K fun ρ μ Q => was ρ μ fun ds μ1 => S ds μ1 Q) := by
  simp only [List.all_cons, Bool.and_eq_true] at hst
  refine (pe_call F hr hg hm hk hb .nil pass0 ha hdb (star_one hst.1) (star_any hst.2)).imp fun σ H Q' ⟨ρ, μ, Z, B, Q, hs, h, fin⟩ => upA_i hs h fun ds μ1 vs H1 Z1 l1 hs1 r1 q => ?_
  show lift X.K S (vs ++ []) H1 Q' E0
  rw [List.append_nil]
  exact ⟨ds, μ1, Z1, B, Q, hs1.1, r1, q, fin.later l1⟩
theorem e_cal0 (F : FnOk X.prog X.w X.K X.mg X.base CX0 k f fd ps (lift X.K S)) (hr : Room k X.A) (hg : Gl X x) (hm : X.mg x = some (.ref f)) (hk : PySem.W.keepIn X.K (.ref f) = true)
    (hb : Binds X.K fd ps []) (hdb : (x == ("__debug__" : Str)) = false) :
    PE X (.Call (.Name x p) [] [] pos) (upE X.K fun ρ μ Q => S [] μ Q) := by
  refine (pe_call0 F hr hg hm hk hb .nil pass0 hdb).imp fun σ H Q' ⟨ρ, μ, Z, B, Q, hs, h, fin⟩ => ?_
  exact ⟨[], μ, Z, B, Q, hs.1, .nil, h, fin⟩
/-! ### calls with keywords -/
def permV (perm : List Nat) (n m : Nat) (ds zs : List V) : List V := if ds.length = n ∧ zs.length = m then perm.map fun i => (ds ++ zs).getD i .non else []
def permU (perm : List Nat) (n m : Nat) (ds zs : List Value) : List Value := if ds.length = n ∧ zs.length = m then perm.map fun i => (ds ++ zs).getD i .none else []
theorem RDs.getD {ds : List D} {vs : List V} (r : RDs K H Z B ds vs) (i : Nat) : RD K H Z B (ds.getD i .non) (vs.getD i .non) := by
  rw [List.getD_eq_getElem?_getD, List.getD_eq_getElem?_getD]
  cases e : ds[i]? with
  | none =>
    have : vs[i]? = none := by
      rw [List.getElem?_eq_none_iff] at e ⊢
      rw [← r.length]
      exact e
    rw [this]
    exact .non
  | some d =>
    obtain ⟨v, e2, r2⟩ := r.get e
    rw [e2]
    exact r2
theorem perm_rd {perm : List Nat} {n m : Nat} {ds zs : List D} {vs ws : List V} (r : RDs K H Z B ds vs) (q : RDs K H Z B zs ws) : RDs K H Z B (permD perm n m ds zs) (permV perm n m vs ws) := by
  unfold permD permV
  rw [r.length, q.length]
  split
  · induction perm with
    | nil => exact .nil
    | cons i perm ih => exact .cons ((r.append q).getD i) ih
  · exact .nil
theorem vals_getD {vs : List V} {us : List Value} (r : Vals vs us) (i : Nat) : RelV (vs.getD i .non) (us.getD i .none) := by
  rw [List.getD_eq_getElem?_getD, List.getD_eq_getElem?_getD]
  cases e : vs[i]? with
  | none => rw [Vals.none_of r e]; exact rfl
  | some d =>
    obtain ⟨v, e2, r2⟩ := r.get e
    rw [e2]
    exact r2
theorem perm_rel {perm : List Nat} {n m : Nat} {vs zs : List V} {us ws : List Value} (r : Vals vs us) (q : Vals zs ws) : Vals (permV perm n m vs zs) (permU perm n m us ws) := by
  unfold permV permU
  rw [r.length, q.length]
  split
  · induction perm with
    | nil => exact .nil
    | cons i perm ih => exact .cons (vals_getD (r.append q) i) ih
  · exact .nil
def wKs (was wbs : WA) (n m : Nat) (perm : List Nat) (S : DSpec) : WE := fun ρ μ Q => was ρ μ fun ds μ1 => wbs ρ μ1 fun zs μ2 => S (permD perm n m ds zs) μ2 Q
def upK (K : PySem.W.Frag) (w : WA) : TA := upA K w
theorem kw_all {env : Env} {pos : Pos} : ∀ {kws : List Keyword}, kws.all (fun k => k.arg.isSome) = true → (backToKw pos (keywordEach kws env)).all (·.1.isSome) = true ∧ (backToKw pos (keywordEach kws env)).any (·.1.isNone) = false ∧
    (backToKw pos (keywordEach kws env)).filterMap (·.1) = kws.filterMap (·.arg)
  | [], _ => ⟨rfl, rfl, rfl⟩
  | ⟨nm, e, p⟩ :: r, h => by
    simp only [List.all_cons, Bool.and_eq_true] at h
    obtain ⟨h1, h2, h3⟩ := kw_all (env := env) (pos := pos) h.2
    cases nm with
    | none => exact absurd h.1 (by simp)
    | some y =>
      refine ⟨?_, ?_, ?_⟩
      · show (true && (backToKw pos (keywordEach r env)).all (·.1.isSome)) = true
        rw [h1]; rfl
      · show (false || (backToKw pos (keywordEach r env)).any (·.1.isNone)) = false
        rw [h2]; rfl
      · show y :: (backToKw pos (keywordEach r env)).filterMap (·.1) = y :: r.filterMap (·.arg)
        rw [h3]
theorem k_nil : PK X [] (upA X.K fun _ μ Q => Q [] μ) :=
  ⟨fun pos pins s σ H Q I ⟨ρ, μ, Z, B, Q0, hs, hw, fin⟩ => pk_nil.run pos pins s σ H Q I (fin _ _ _ _ _ LeW.refl hs.1 .nil hw)⟩
theorem k_cons {nm : Option Str} {kpos : Pos} {kws : List Keyword} (ha : PE X a (upE X.K wa)) (hr : PK X kws (upA X.K was)) : PK X (⟨nm, a, kpos⟩ :: kws) (upA X.K fun ρ μ Q => wa ρ μ fun d μ1 => was ρ μ1 fun ds μ2 => Q (d :: ds) μ2) :=
  ⟨fun pos pins s σ H Q' I ⟨ρ, μ, Z, B, Q, hs, hw, fin⟩ => (pk_cons ha hr).run pos pins s σ H Q' I (upE_i hs hw fun x μ1 v H1 Z1 l1 hs1 r1 hw1 => upA_i hs1 hw1 fun ds μ2 vs H2 Z2 l2 hs2 r2 q =>
    fin _ _ _ _ _ (l1.trans l2) hs2.1 (.cons (r1.le l2) r2) q)⟩
variable {ks : List Str} {kws : List Keyword} {n m : Nat} {perm : List Nat}
theorem e_cak (F : FnOk X.prog X.w X.K X.mg X.base CX0 k f fd ps (lift X.K S)) (hr : Room k X.A) (hg : Gl X x) (hm : X.mg x = some (.ref f)) (hk : PySem.W.keepIn X.K (.ref f) = true)
    (hb : KBinds X.K fd ps ks (permU perm n m) (permV perm n m)) (hst : (e :: es).all notSt = true) (hdb : (x == ("__debug__" : Str)) = false) (ha : PA X (e :: es) (upA X.K was)) (hkw : PK X kws (upA X.K wbs))
    (hall : kws.all (fun k => k.arg.isSome) = true) (hks : kws.filterMap (·.arg) = ks) :
    PE X (.Call (.Name x p) (e :: es) kws pos) (upE X.K (wKs was wbs n m perm S)) := by
  simp only [List.all_cons, Bool.and_eq_true] at hst
  obtain ⟨h1, h2, h3⟩ := kw_all (env := X.env) (pos := pos) hall
  refine (pe_callK F hr hg hm hk hb pass0 ha hkw h1 (h3.trans hks) hdb (star_one hst.1) ?_).imp fun σ H Q' ⟨ρ, μ, Z, B, Q, hs, h, fin⟩ => upA_i hs h fun ds μ1 vs H1 Z1 l1 hs1 r1 q1 => upA_i hs1 q1 fun zs μ2 ws H2 Z2 l2 hs2 r2 q2 => ?_
  · rw [h2, Bool.or_false]
    exact star_any (es := e :: es) (by simp only [List.all_cons, Bool.and_eq_true]; exact hst)
  · exact ⟨_, μ2, Z2, B, Q, hs2.1, perm_rd (r1.le l2) r2, q2, fin.later (l1.trans l2)⟩
theorem e_cak0 (F : FnOk X.prog X.w X.K X.mg X.base CX0 k f fd ps (lift X.K S)) (hr : Room k X.A) (hg : Gl X x) (hm : X.mg x = some (.ref f)) (hk : PySem.W.keepIn X.K (.ref f) = true)
    (hb : KBinds X.K fd ps ks (permU perm n m) (permV perm n m)) (hdb : (x == ("__debug__" : Str)) = false) (hkw : PK X kws (upA X.K wbs))
    (hall : kws.all (fun k => k.arg.isSome) = true) (hks : kws.filterMap (·.arg) = ks) :
    PE X (.Call (.Name x p) [] kws pos) (upE X.K (wKs (fun _ μ Q => Q [] μ) wbs n m perm S)) := by
  obtain ⟨h1, h2, h3⟩ := kw_all (env := X.env) (pos := pos) hall
  refine ⟨fun pins s σ H Q' I ⟨ρ, μ, Z, B, Q, hs, h, fin⟩ => ?_⟩
  refine wpAny_Call_Name_kw (ld_glob I hg hm ?_ hdb)
  refine PySem.W.callWith_KW0 (h₀ := X.base) I.ok.mod.kin hk h1 (thn (hkw.run pos pins s σ H _ I (upA_i (R := fun zs H2 => lift X.K S (permV perm n m [] zs) H2 Q' E0) hs h fun zs μ2 ws H2 Z2 l2 hs2 r2 q2 => ?_)) fun ws s2 ⟨zs, H2, I2, rz, q2⟩ => ?_) ?_
  · exact ⟨_, μ2, Z2, B, Q, hs2.1, perm_rd .nil r2, q2, fin.later l2⟩
  · rw [h3, hks]
    exact ⟨I2.kIn, run_fnk F hr hb pass0 I2 .nil rz q2⟩
  · rw [h2]; rfl
end

/-! ### methods of built-in types -/
def notCall : Expr → Bool
  | .Call .. => false
  | _ => true
theorem base_of {o : Expr} {name : Str} {env : Env} {w : Sem Value} (h : notCall o = true) : attributeBase o name env w = w := by
  cases o <;> first
    | rfl
    | cases h
theorem few_of {e : Expr} {es : List Expr} {pos : Pos} {env : Env} (hst : (e :: es).all notSt = true) (hl : (e :: es).length < 30) :
    ((backTo pos (starEach (e :: es) env)).all (fun x => !x.1) && (backToKw pos (keywordEach [] env)).all (fun x => x.1.isSome)
      && decide ((e :: es).length + ([] : List Keyword).length + (if ([] : List Keyword).isEmpty then 0 else 1) < 30)) = true := by
  have h1 := star_any (env := env) (pos := pos) hst
  have h2 : (backTo pos (starEach (e :: es) env)).all (fun x => !x.1) = true := by
    rw [List.all_eq_true]
    intro y hy
    rw [List.any_eq_false] at h1
    have := h1 y hy
    simpa using this
  rw [h2]
  simp only [List.length_nil, List.isEmpty_nil, if_true, Nat.add_zero, Bool.true_and]
  show (true && _) = true
  simpa using hl
theorem mok_str {d : D} {v : V} (h : mOkM .join μ d = true) (r : RD K H Z B d v) : tyV K "str" v H := by
  cases d with
  | str a => cases r; exact (rfl : "str" = "str")
  | _ => cases h
theorem mok_ty {d : D} {v : V} (hr : HRel K μ Z B H) (h : mOk μ d = true) (r : RD K H Z B d v) : tyV K "list" v H := by
  cases d with
  | cel n =>
    simp only [mOk] at h
    split at h
    · rename_i xs q
      obtain ⟨a, rfl, _, vs, h1, _⟩ := hr.at_ q r
      exact .inl ⟨rfl, _, .of h1⟩
    · cases h
  | _ => cases h
theorem e_mth {m : MI} (hmm : ∀ (μ : M) d, mOkM m μ d = mOk μ d) {o e : Expr} {es : List Expr} {wo : WE} {name : Str} {apos cpos : Pos} {id : String} (slot : Slot "list" name id) (hty : typeOf (.builtin id) = pure (.type "method_descriptor")) (hm : MtR X id (upM X.K m))
    (ho : PE X o (upE X.K wo)) (ha : PA X (e :: es) (upA X.K was)) (hb : notCall o = true) (hl : (e :: es).length < 30) (hst : (e :: es).all notSt = true) (hline : (apos.endLine == cpos.line) = true) :
    PE X (.Call (.Attribute o name apos) (e :: es) [] cpos) (upE X.K fun ρ μ Q => wo ρ μ fun d μ1 => mOkM m μ1 d = true ∧ was ρ μ1 fun ds μ2 => opMth m d ds μ2 Q) := by
  have hst' := hst
  simp only [List.all_cons, Bool.and_eq_true] at hst'
  refine (pe_bm PySem.F.plainAttrs_list slot hty hm ho ha (base_of hb) (few_of hst hl) hline (star_one hst'.1) (star_any hst'.2)).imp fun σ H Q' ⟨ρ, μ, Z, B, Q, hs, h, fin⟩ => upE_i hs h fun d μ1 v H1 Z1 l1 hs1 r1 q1 => ⟨mok_ty hs1.1 (hmm _ _ ▸ q1.1) r1, upA_i hs1 q1.2 fun ds μ2 vs H2 Z2 l2 hs2 r2 q2 => ?_⟩
  exact ⟨d, ds, μ2, Z2, B, Q, hs2.1, r1.le l2, r2, q2, fin.later (l1.trans l2)⟩
theorem e_mth0 {m : MI} (hmm : ∀ (μ : M) d, mOkM m μ d = mOk μ d) {o : Expr} {wo : WE} {name : Str} {apos cpos : Pos} {id : String} (slot : Slot "list" name id) (hty : typeOf (.builtin id) = pure (.type "method_descriptor")) (hm : MtR X id (upM X.K m))
    (ho : PE X o (upE X.K wo)) (hb : notCall o = true) (hline : (apos.endLine == cpos.line) = true) :
    PE X (.Call (.Attribute o name apos) [] [] cpos) (upE X.K fun ρ μ Q => wo ρ μ fun d μ1 => mOkM m μ1 d = true ∧ opMth m d [] μ1 Q) :=
  (pe_bm0 PySem.F.plainAttrs_list slot hty hm ho (base_of hb) hline).imp fun σ H Q' ⟨ρ, μ, Z, B, Q, hs, h, fin⟩ => upE_i hs h fun d μ1 v H1 Z1 l1 hs1 r1 q1 => ⟨mok_ty hs1.1 (hmm _ _ ▸ q1.1) r1,
    d, [], μ1, Z1, B, Q, hs1.1, r1, .nil, q1.2, fin.later l1⟩
theorem e_join {o e : Expr} {es : List Expr} {wo : WE} {name : Str} {apos cpos : Pos} {id : String} (slot : Slot "str" name id) (hty : typeOf (.builtin id) = pure (.type "method_descriptor")) (hm : MtR X id (upM X.K .join))
    (ho : PE X o (upE X.K wo)) (ha : PA X (e :: es) (upA X.K was)) (hb : notCall o = true) (hl : (e :: es).length < 30) (hst : (e :: es).all notSt = true) (hline : (apos.endLine == cpos.line) = true) :
    PE X (.Call (.Attribute o name apos) (e :: es) [] cpos) (upE X.K fun ρ μ Q => wo ρ μ fun d μ1 => mOkM .join μ1 d = true ∧ was ρ μ1 fun ds μ2 => opMth .join d ds μ2 Q) := by
  have hst' := hst
  simp only [List.all_cons, Bool.and_eq_true] at hst'
  refine (pe_bm PySem.F.plainAttrs_str slot hty hm ho ha (base_of hb) (few_of hst hl) hline (star_one hst'.1) (star_any hst'.2)).imp fun σ H Q' ⟨ρ, μ, Z, B, Q, hs, h, fin⟩ => upE_i hs h fun d μ1 v H1 Z1 l1 hs1 r1 q1 => ⟨mok_str q1.1 r1, upA_i hs1 q1.2 fun ds μ2 vs H2 Z2 l2 hs2 r2 q2 => ?_⟩
  exact ⟨d, ds, μ2, Z2, B, Q, hs2.1, r1.le l2, r2, q2, fin.later (l1.trans l2)⟩
/-! ### texts with values in them -/
theorem e_fmt (ha : PE X a (upE X.K wa)) : PE X (.FormattedValue a (-1) none pos) (upE X.K fun ρ μ Q => wa ρ μ fun x μ1 => match x with
    | .int i => i.natAbs.log2 < 1920 ∧ Q (.str (toString i)) μ1
    | .str y => y.length ≤ sizeLine ∧ Q (.str y) μ1
    | _ => False) :=
  (pe_fmt ha).imp fun σ H Q' ⟨ρ, μ, Z, B, Q, hs, hw, fin⟩ => upE_i hs hw fun x μ1 v H1 Z1 l1 hs1 r1 hw1 => by
    cases x with
    | int i => cases r1; exact .inr ⟨i, rfl, hw1.1, (fin.later l1).here hs1.1 (.str _) hw1.2⟩
    | str y => cases r1; exact .inl ⟨y, rfl, hw1.1, (fin.later l1).here hs1.1 (.str _) hw1.2⟩
    | _ => exact hw1.elim
inductive UJ (K : PySem.W.Frag) : List WE → List TE → Prop where
  | nil : UJ K [] []
  | cons {w : WE} {t : TE} {ws : List WE} {ts : List TE} (h : t = upE K w) (r : UJ K ws ts) : UJ K (w :: ws) (t :: ts)
def wJs : List WE → Str → WE
  | [], acc => fun _ μ Q => Q (.str acc) μ
  | w :: ws, acc => fun ρ μ Q => w ρ μ fun d μ1 => match d with
    | .str y => (acc ++ y).length ≤ sizeLine ∧ wJs ws (acc ++ y) ρ μ1 Q
    | _ => False
theorem uj_up : ∀ {ws : List WE} {ts : List TE}, UJ K ws ts → ∀ {acc : Str} {σ : L2.St} {H : Hp} {ρ : Rho} {μ : M} {Z B : List Addr} {Q : WQ} {R : Str → Hp → Prop}, Sta K ρ μ Z B σ H → wJs ws acc ρ μ Q →
    (∀ out μ' H' Z', Le H Z H' Z' → HRel K μ' Z' B H' → Q (.str out) μ' → R out H') → tJs ts acc σ H R
  | _, _, .nil, acc, σ, H, ρ, μ, Z, B, Q, R, hs, hw, k => k _ _ _ _ LeW.refl hs.1 hw
  | _, _, .cons rfl r, acc, σ, H, ρ, μ, Z, B, Q, R, hs, hw, k => upE_i hs hw fun x μ1 v H1 Z1 l1 hs1 r1 hw1 => by
    cases x with
    | str y =>
      cases r1
      exact ⟨y, rfl, hw1.1, uj_up r hs1 hw1.2 fun out μ' H' Z' l hr q => k _ _ _ _ (l1.trans l) hr q⟩
    | _ => exact hw1.elim
theorem e_fst {v1 v2 : Expr} {rest : List Expr} {ws : List WE} {ts : List TE} (hp : PJ X (v1 :: v2 :: rest) ts) (hu : UJ X.K ws ts) : PE X (.JoinedStr (v1 :: v2 :: rest) pos) (upE X.K (wJs ws Str.empty)) :=
  (pe_joined hp).imp fun σ H Q' ⟨ρ, μ, Z, B, Q, hs, hw, fin⟩ => uj_up hu hs hw fun out μ' H' Z' l hr q => fin _ _ _ _ _ l hr (.str _) q
end
end Rf

set_option Elab.async false
set_option linter.all false
set_option maxRecDepth 100000
/-! Rs1: set comprehensions of ints, sorted sets of any size -/
namespace L2
open PySem PySem.Spec PyProof.Rows
theorem compTurn_setR (elt target iter : Expr) (ifs : List Expr) (scope : Scope) (pos : Pos) (it acc : Value) (env : Env) :
    compTurn (.SetComp elt [⟨target, iter, ifs, 0⟩] scope pos) 0 it acc env = (do
      standAt iter.pos
      match ← pyNext it with
      | none => pure (.done .next)
      | some v =>
        letOwnedTupleGo target it v
        assign target env v
        let mut ok := true
        for c in ifs do
          if ok then ok ← isTrue c env (eval c env)
        if ok then
          (do
            let v ← eval elt env
            standAt elt.pos
            let _ ← call (.builtin "set.add") [acc, v])
        again (.compLoop (.SetComp elt [⟨target, iter, ifs, 0⟩] scope pos) 0 it acc env)) := by rfl
theorem codeAny_compStart_setR {prog : Program} {w : World} {A : Around} {R : Result → Shared → Prop} {s : Shared} {elt target iter ifs rest scope pos it acc env}
    (h0 : codeAny (model prog w) A (.compLoop (.SetComp elt (⟨target, iter, ifs, 0⟩ :: rest) scope pos) 0 it acc env) R s)
    (h : wpAny (model prog w) A (pyIter it) (fun it' s' => codeAny (model prog w) A (.compLoop (.SetComp elt (⟨target, iter, ifs, 0⟩ :: rest) scope pos) 0 it' acc env) R s')
      (notedBy (model prog w) A env fun x s' => R (.error x) s') s) :
    codeAny (model prog w) A (.compStart (.SetComp elt (⟨target, iter, ifs, 0⟩ :: rest) scope pos) 0 it acc env) R s := by
  refine codeAny_of_tree ?_
  show wpAny _ A ((compStart (.SetComp elt (⟨target, iter, ifs, 0⟩ :: rest) scope pos) 0 it acc env).onRaise (fun x => do noteFrame x env; standAt theWindowsPlace)) _ _ s
  refine wpAny_notedAt ?_
  unfold compStart
  show wpAny _ A (ask >>= _) _ _ s
  refine wpAny_bind (wpAny_askSetting (wpAny_ite ?_))
  split
  · first
      | exact wpAny_bind (wpAny_pure (wpAny_pure (And.intro rfl h0)))
      | exact wpAny_pure (And.intro rfl h0)
  · first
      | exact wpAny_bind (wpAny_rule (wpAny_bind (wpAny_standAt (wpAny_bind (wpAny_mono h (fun it' s' h' => wpAny_pure (And.intro rfl h')) fun _ _ x => x)))))
      | (refine wpAny_bind (wpAny_rule ?_); show wpAny _ _ (standAt iter.pos >>= _) _ _ s; exact wpAny_bind (wpAny_standAt (wpAny_bind (wpAny_mono h (fun it' s' h' => wpAny_pure (And.intro rfl h')) fun _ _ x => x))))
theorem compLoop_anyS {prog : Program} {w : World} {A : Around} {R : Result → Shared → Prop} {s : Shared} {elt target iter : Expr} {ifs : List Expr} {scope : Scope} {pos : Pos} {it : Value} {acc : Value} {env : Env} (I : Nat → Shared → Prop)
    (turn : ∀ n s, I n s → wpAny (model prog w) A (pyNext it) (fun r s₁ => match r with
      | none => R (.ok .next) s₁
      | some v => wpAny (model prog w) A (letOwnedTupleGo target it v) (fun _ s₁' => wpAny (model prog w) A (assign target env v) (fun _ s₂ =>
          wpAny (model prog w) A (forIn ifs true fun c r => if r = true then do let ok ← isTrue c env (eval c env); pure (ForInStep.yield ok) else pure (ForInStep.yield r)) (fun ok s₃ =>
            if ok = true then wpAny (model prog w) A (eval elt env) (fun x s₄ =>
              wpAny (model prog w) A (call (.builtin "set.add") [acc, x]) (fun _ s₆ => ∃ m, m < n ∧ I m s₆) (notedBy (model prog w) A env fun e s' => R (.error e) s') s₄) (notedBy (model prog w) A env fun e s' => R (.error e) s') s₃
            else ∃ m, m < n ∧ I m s₃) (notedBy (model prog w) A env fun e s' => R (.error e) s') s₂) (notedBy (model prog w) A env fun e s' => R (.error e) s') s₁') (notedBy (model prog w) A env fun e s' => R (.error e) s') s₁) (notedBy (model prog w) A env fun e s' => R (.error e) s') s)
    (n : Nat) (h : I n s) :
    codeAny (model prog w) A (.compLoop (.SetComp elt [⟨target, iter, ifs, 0⟩] scope pos) 0 it acc env) R s := by
  refine codeAny_loop rfl I (fun n s hI => ?_) n h
  show wpAny _ A ((compTurn (.SetComp elt [⟨target, iter, ifs, 0⟩] scope pos) 0 it acc env).onRaise (fun x => do noteFrame x env; theTreesLotGoes x)) _ _ s
  refine wpAny_noted ?_
  rw [compTurn_setR]
  refine wpAny_bind (wpAny_standAt (wpAny_bind (wpAny_mono (turn n s hI) (fun r s₁ h₁ => ?_) fun _ _ h' => h')))
  cases r with
  | none => exact wpAny_pure h₁
  | some v =>
    refine wpAny_bind (wpAny_mono h₁ (fun _ s₁' h₁' => ?_) fun _ _ h' => h')
    refine wpAny_bind (wpAny_mono h₁' (fun _ s₂ h₂ => wpAny_bind (wpAny_mono h₂ (fun ok s₃ h₃ => ?_) fun _ _ h' => h')) fun _ _ h' => h')
    cases ok with
    | false => exact wpAny_pure ⟨rfl, h₃⟩
    | true =>
      exact wpAny_bind (wpAny_bind (wpAny_mono h₃ (fun x s₄ h₄ => wpAny_bind (wpAny_standAt (wpAny_bind (wpAny_mono h₄ (fun _ s₆ h₆ => wpAny_pure (wpAny_pure ⟨rfl, h₆⟩)) fun _ _ h' => h')))) fun _ _ h' => h'))


theorem newSet_ok {P : Program} {w : World} {A : Around} {E : Value → Shared → Prop} {s : Shared} {Q : Value → Shared → Prop}
    (h : Q (.ref s.heap.objs.size) { s with heap := s.heap.push { cls := .type "set", dict := none, data := .set #[] 0 (.fresh 0 0 (!w.params.followText "set-order")) } }) :
    wpAny (model P w) A (newSet (.type "set")) Q E s := by
  unfold newSet
  refine wpAny_bind (wpAny_byText ?_)
  exact wpAny_newObj_type h
section
variable {X : Cx}
theorem sadd_ok {pins : List (Addr × Obj)} {σ : St} {H : Hp} {s : Shared} {E : Value → Shared → Prop} {D : Addr} {S : Int → Bool} {n : Nat} {k : Int} {tk : Tok} {Q : Value → Shared → Prop} (I : Inv X pins σ H s) (ha : H D = some (SetO X.w D S n)) (room : n + 1 < scanBound)
    (h : ∀ s', Inv X pins σ (upd H D (SetO X.w D (fun j => S j || decide (j = k)) (if S k = true then n else n + 1))) s' → Q .none s') : wpAny (model X.prog X.w) X.A (call (.builtin "set.add") [.ref D, .int k tk]) Q E s := by
  have R := setO_get I ha
  refine setR_add R room fun h' sb new => h _ ?_
  have he : ∃ u, h'.get? D = some u := by
    have ⟨o, _, _, _, ho, _⟩ := new
    exact ⟨o, ho⟩
  exact I.write (e := D) (t' := s.toks + 1) (by rw [ha]; trivial) (.inl rfl) (fun b u hb hu => (sb.2 b hb).trans hu) he (setO_new new)
/-- {x for target in iter if ..}, ints: D the new set -/
def tSc (w : World) (wi : TI) (g : TG) (tt : TT) (te : TE) (vs : List Nat) : TE := fun σ H Q => wi σ H fun J H1 => ∀ D, H1 D = none → ∃ W : Nat → Nat → Hp → Prop, (∃ m, W 0 m (upd H1 D (SetO w D (fun _ => false) 0))) ∧ ∀ i m H, W i m H →
  (J.stop i H ∧ Q (.ref D) H) ∨ (J.go i H ∧ ∃ Nx : Hp → Prop, (∀ H', Nx H' → ∃ m', m' < m ∧ W (i + 1) m' H') ∧ ∀ x H', J.yld i H x H' → g x (wipe σ vs) H' fun σ2 H2 => wipe σ2 vs = wipe σ vs ∧ tt σ2 H2 fun b H3 =>
    if b = true then te σ2 H3 fun y H5 => ∃ (k : Int) (S : Int → Bool) (n : Nat), y = V.int k ∧ H5 D = some (SetO w D S n) ∧ n + 1 < scanBound ∧ Nx (upd H5 D (SetO w D (fun j => S j || decide (j = k)) (if S k = true then n else n + 1))) else Nx H3)
theorem sc_core {pins : List (Addr × Obj)} {s : Shared} {σ : St} {H : Hp} {Q : VK} {elt tg iter : Expr} {ifs : List Expr} {scope : Scope} {own : List (Str × Nat)} {pos pos' : Pos} {wi : TI} {g : TG} {tt : TT} {te : TE} {use : Option (Value → Sem Unit)} {Qf : Value → Shared → Prop}
    (hc : X.calm = true) (hN : X.N.Nodup) (I : Inv X pins σ H s) (hi : PI X tg iter wi) (ok : BlkOk X.N X.env.scope scope own)
    (hg : ∀ (s : Shared) (H : Hp) (C : Addr) (cl : List (Str × Addr)) (fp : List Addr), PG (X.blk s H scope (compEnvC scope cl C X.env) fp) tg g) (ht : ∀ (s : Shared) (H : Hp) (C : Addr) (cl : List (Str × Addr)) (fp : List Addr), PTs (X.blk s H scope (compEnvC scope cl C X.env) fp) ifs tt)
    (he : ∀ (s : Shared) (H : Hp) (C : Addr) (cl : List (Str × Addr)) (fp : List Addr), PE (X.blk s H scope (compEnvC scope cl C X.env) fp) elt te) (hs : ∀ x, foldedSetIterable iter X.env x = pure x)
    (h : tSc X.w wi g tt te (own.map (·.2)) σ H Q)
    (hRR : ∀ D C s' m H', Inv X pins σ H' s' → Q (.ref D) H' → s'.heap.Ns C m → FpOk X pins H' C → compPost (model X.prog X.w) X.A X.xe use Qf (.ref D) C (.ok .next) s') :
    wpAny (model X.prog X.w) X.A (comprehension (.SetComp elt [⟨tg, iter, ifs, 0⟩] scope pos) scope X.env pos' (newSet (.type "set")) false (eval iter X.env) use) Qf X.xe s := by
  have hfree : ∀ y ∈ scope.names, y.2 = .free → ∃ c, X.env.cells.lookup y.1 = some c := fun y hy e => by
    rcases ok.free y hy e with k | k
    · exact I.ok.has _ (.inl k)
    · exact I.ok.has _ (.inr k)
  refine wpAny_comprehension_free (use := use) rfl hs (closure_ok hfree) ok.kind (fun y hy e => by rw [ok.uniq y hy, e])
    (thn (hi.run pins s σ H _ I h) fun xv s1 hx => thn hx fun itv s2 h2 => ?_)
  obtain ⟨it, fp, tn, J, H2, e, I2, T, st2, f2, q⟩ := h2
  subst e
  refine newSet_ok (newEnv_comp ?_)
  generalize hD : s2.heap.objs.size = D
  have hDn : H2 D = none := I2.hok.fresh (Nat.le_of_eq hD)
  obtain ⟨W, ⟨m0, w0⟩, turn⟩ := q D hDn
  -- the new list
  generalize hs3 : ({ s2 with heap := s2.heap.push { cls := .type "set", dict := none, data := .set #[] 0 (.fresh 0 0 (!X.w.params.followText "set-order")) } } : Shared) = s3
  have I3 : Inv X pins σ (upd H2 D (SetO X.w D (fun _ => false) 0)) s3 := by
    rw [← hs3]
    refine I2.laid (t' := s2.toks) (fun b o e => Heap.get?_push_of_some _ e) (Nat.le_of_eq hD) ?_
    rw [← hD]
    exact setO_new (setR_fresh X.w)
  have h3 : s3.heap = s2.heap.push { cls := .type "set", dict := none, data := .set #[] 0 (.fresh 0 0 (!X.w.params.followText "set-order")) } := by rw [← hs3]
  have sz : ∀ b ∈ fp, b < s2.heap.objs.size := fun b hb => by
    obtain ⟨o, e, _⟩ := T.obj _ _ st2 b hb
    exact Heap.lt_size e
  have f3 : ∀ b ∈ fp, FpOk X pins (upd H2 D (SetO X.w D (fun _ => false) 0)) b ∧ b < s3.heap.objs.size := fun b hb => by
    have hlt := sz b hb
    refine ⟨⟨?_, (f2 b hb).2⟩, by rw [h3, Heap.size_push]; exact Nat.lt_succ_of_lt hlt⟩
    rw [upd_ne (by rw [← hD]; exact Nat.ne_of_lt hlt)]
    exact (f2 b hb).1
  have st3 : tn 0 s3.heap := T.keep _ _ _ st2 fun b _ o e => by rw [h3]; exact Heap.get?_push_of_some _ e
  have I4 := block_start I3 ok hN f3
  have pg := hg s3 (upd H2 D (SetO X.w D (fun _ => false) 0)) s3.heap.objs.size (cellsFrom (s3.heap.objs.size + 1) scope.names (cloFrom X.env.cells scope.names [])) fp
  have pt := ht s3 (upd H2 D (SetO X.w D (fun _ => false) 0)) s3.heap.objs.size (cellsFrom (s3.heap.objs.size + 1) scope.names (cloFrom X.env.cells scope.names [])) fp
  have pe := he s3 (upd H2 D (SetO X.w D (fun _ => false) 0)) s3.heap.objs.size (cellsFrom (s3.heap.objs.size + 1) scope.names (cloFrom X.env.cells scope.names [])) fp
  show codeAny _ _ (.compStart (.SetComp elt [⟨tg, iter, ifs, 0⟩] scope pos) 0 (.ref it) (.ref D) (compEnvC scope (cellsFrom (s3.heap.objs.size + 1) scope.names (cloFrom X.env.cells scope.names [])) s3.heap.objs.size X.env)) (compPost (model X.prog X.w) X.A X.xe use Qf (.ref D) s3.heap.objs.size) { s3 with heap := pushCells (s3.heap.push { cls := .type "dict", data := .dict #[] }) scope.names }
  have nfp : ∀ b ∈ fp, (upd H2 D (SetO X.w D (fun _ => false) 0)) b = none := fun b hb => (f3 b hb).1.1
  generalize hce : compEnvC scope (cellsFrom (s3.heap.objs.size + 1) scope.names (cloFrom X.env.cells scope.names [])) s3.heap.objs.size X.env = ce at I4 pg pt pe ⊢
  have cL : ce.locals = s3.heap.objs.size := by subst hce; rfl
  generalize hH3 : upd H2 D (SetO X.w D (fun _ => false) 0) = H3 at I3 I4 pg pt pe w0 nfp f3
  generalize hs4 : ({ s3 with heap := pushCells (s3.heap.push { cls := .type "dict", data := .dict #[] }) scope.names } : Shared) = s4 at I4 ⊢
  have st4 : tn 0 s4.heap := T.keep _ _ _ st3 fun b _ o e => by rw [← hs4]; exact pushCells_keeps _ _ _ _ (Heap.get?_push_of_some _ e)
  have stat : ∀ {σ' : St} {H' : Hp} {s' : Shared}, Inv (X.blk s3 H3 scope ce fp) [] σ' H' s' → (∀ b ∈ fp, H' b = none) → ∀ b ∈ fp, FpOk (X.blk s3 H3 scope ce fp) [] H' b := fun {σ' H' s'} I' hn b hb =>
    ⟨hn b hb, (I'.ok.exf b hb).1, I'.ok.exfs b hb, .inl hb, fun x c e => (I'.ok.exf b hb).2 x c e, fun p hp => absurd (show p ∈ ([] : List (Addr × Obj)) ++ [] from hp) (by simp)⟩
  have loop : codeAny (model X.prog X.w) X.A (.compLoop (.SetComp elt [⟨tg, iter, ifs, 0⟩] scope pos) 0 (.ref it) (.ref D) ce) (compPost (model X.prog X.w) X.A X.xe use Qf (.ref D) s3.heap.objs.size) s4 := by
    refine compLoop_anyS (fun n s' => ∃ i H', Inv (X.blk s3 H3 scope ce fp) [] (wipe σ (own.map (·.2))) H' s' ∧ tn i s'.heap ∧ (∀ b ∈ fp, H' b = none) ∧ W i n H') ?_ m0 ⟨0, H3, I4, st4, nfp, w0⟩
    rintro n s5 ⟨i, H5, I5, st5, n5, w5⟩
    rcases turn i n H5 w5 with ⟨stop, qq⟩ | ⟨go, Nx, hNx, step⟩
    · have td := T.done (X.blk s3 H3 scope ce fp) rfl rfl rfl hc i [] s5 _ H5 (fun _ _ => False) I5 (stat I5 n5) st5 stop
      refine thnF td fun r s6 ⟨hr, I6⟩ => ?_
      subst hr
      -- back in the def's context
      have I7 : Inv X pins σ H5 s6 := I3.call' (ch := fp) I6.os I6.base I6.hok I6.bare fun b hb => ⟨(f3 b hb).1.2.2.2.1, (f3 b hb).1.2.1, (f3 b hb).1.2.2.2.2.1, (f3 b hb).1.2.2.2.2.2⟩
      have nC : H5 s3.heap.objs.size = none := by
        have z : H5 ce.locals = none := I6.free
        rw [cL] at z
        exact z
      obtain ⟨m, hn, _⟩ := I6.loc
      have hn : s6.heap.Ns ce.locals m := hn
      rw [cL] at hn
      exact hRR D s3.heap.objs.size s6 m H5 I7 qq hn (I3.fpOk (Nat.le_refl _) nC)
    · have ti := T.item (X.blk s3 H3 scope ce fp) rfl rfl rfl hc i [] s5 _ H5 (fun _ _ => False) I5 (stat I5 n5) st5 go
      refine thnF ti fun r s6 ⟨u, hr, h6⟩ => ?_
      subst hr
      refine thnF h6 fun _ s7 ⟨x, H7, I7, r7, y7, st7, n7⟩ => ?_
      have I7' := I7.pinned (stat I7 n7) (T.obj _ _ st7)
      refine thnF (pg.run _ s7 _ H7 x u _ I7' r7 (step x H7 y7)) fun _ s8 ⟨σ8, H8, I8, hw8, q8⟩ => ?_
      refine thnF (pt.run _ s8 σ8 H8 _ I8 q8) fun b s9 ⟨H9, I9, q9⟩ => ?_
      -- the turn's end
      have fin : ∀ {s' : Shared} {H' : Hp}, Inv (X.blk s3 H3 scope ce fp) ([] ++ pinsAt fp s7.heap) σ8 H' s' → Nx H' → ∃ m, m < n ∧ ∃ i H', Inv (X.blk s3 H3 scope ce fp) [] (wipe σ (own.map (·.2))) H' s' ∧ tn i s'.heap ∧ (∀ b ∈ fp, H' b = none) ∧ W i m H' := fun {s' H'} I' nx => by
        obtain ⟨m', hm, w'⟩ := hNx H' nx
        have pin' : ∀ b ∈ fp, ∀ o, s7.heap.get? b = some o → s'.heap.get? b = some o ∧ H' b = none := fun b hb o e =>
          let z := I'.pin (b, o) (List.mem_append_right _ (List.mem_append_right _ (mem_pinsAt hb e)))
          ⟨z.1, z.2.1⟩
        have hl : (wipe σ (own.map (·.2))).length = σ8.length := by rw [← hw8, wipe_length]
        refine ⟨m', hm, i + 1, H', (I'.unpinned (pins := [])).weak hl (fun j v e => ?_), T.keep _ _ _ st7 fun b hb o e => (pin' b hb o e).1, fun b hb => ?_, w'⟩
        · rw [← hw8] at e
          exact (wipe_some e).1
        · obtain ⟨o, e, _⟩ := T.obj _ _ st7 b hb
          exact (pin' b hb o e).2
      cases b with
      | false =>
        simp only [Bool.false_eq_true, if_false] at q9 ⊢
        exact fin I9 q9
      | true =>
        simp only [if_true] at q9 ⊢
        refine thnF (pe.run _ s9 σ8 H9 _ I9 q9) fun z2 s11 ⟨yv, H11, I11, r11, k, S, m, ek, hD11, hz11, nx⟩ => ?_
        subst ek
        obtain ⟨tk, rfl⟩ := r11
        exact sadd_ok (X := X.blk s3 H3 scope ce fp) I11 hD11 hz11 fun s12 I12 => fin I12 nx
  exact codeAny_compStart_setR loop (T.self X.A 0 _ _ _ st4 loop)
/-- as a value -/
theorem pe_sc {elt tg iter : Expr} {ifs : List Expr} {scope : Scope} {own : List (Str × Nat)} {pos : Pos} {wi : TI} {g : TG} {tt : TT} {te : TE} (hc : X.calm = true) (hN : X.N.Nodup) (hi : PI X tg iter wi) (ok : BlkOk X.N X.env.scope scope own)
    (hg : ∀ (s : Shared) (H : Hp) (C : Addr) (cl : List (Str × Addr)) (fp : List Addr), PG (X.blk s H scope (compEnvC scope cl C X.env) fp) tg g) (ht : ∀ (s : Shared) (H : Hp) (C : Addr) (cl : List (Str × Addr)) (fp : List Addr), PTs (X.blk s H scope (compEnvC scope cl C X.env) fp) ifs tt)
    (he : ∀ (s : Shared) (H : Hp) (C : Addr) (cl : List (Str × Addr)) (fp : List Addr), PE (X.blk s H scope (compEnvC scope cl C X.env) fp) elt te) (hs : ∀ x, foldedSetIterable iter X.env x = pure x := by intro _; rfl) :
    PE X (.SetComp elt [⟨tg, iter, ifs, 0⟩] scope pos) (tSc X.w wi g tt te (own.map (·.2))) := by
  refine ⟨fun pins s σ H Q I h => ?_⟩
  rw [arm_eval_SetComp]
  refine sc_core hc hN I hi ok hg ht he hs h fun D C s' m H' I' q hn f => ⟨m, hn, fun h'' sb => ?_⟩
  obtain ⟨f0, f1, f2, f3, f4, f5⟩ := f
  exact ⟨.ref D, H', I'.turned (t' := s'.toks) (fun b o hb e => (sb.2 b hb).trans e) f0 f1 f3 f4 f5, rfl, q⟩

end
end L2

set_option Elab.async false
set_option linter.all false
set_option maxRecDepth 100000
/-! Rs2: set(list), sorted of sets of any size, lcm, sum, max, min of a list, slices with a step, defs as values -/
namespace L2
open PySem PySem.Spec PyProof.Rows
section
variable {P : Program} {w : World} {A : Around} {E : Value → Shared → Prop} {s : Shared}
set_option maxRecDepth 100000 in
set_option maxHeartbeats 3200000 in
theorem call_set_lstI {l : Addr} {items : Array Value} (ns : List Int) {Q : Value → Shared → Prop} (hh : A.handled = none) (hl : s.heap.IsList l items) (hit : IntsAre items.toList ns) (hb : ns.length + 1 < scanBound)
    (h : ∀ (h' : Heap) (tk c : Nat), SetR w h' s.heap.objs.size (fun j => decide (j ∈ ns)) c → c ≤ ns.length → (∀ b o, s.heap.get? b = some o → h'.get? b = some o) → Q (.ref s.heap.objs.size) { s with heap := h', toks := tk }) :
    wpAny (model P w) A (call (.type "set") [.ref l]) Q E s := by
  have hisz : items.size = ns.length := by
    have q := IntsAre.length hit
    rw [Array.length_toList] at q
    exact q
  obtain ⟨c, tl, hmro⟩ := F.called_set.mro
  have hmade := F.called_set.made
  have hsub := F.called_set.sub
  refine wpAny_call (codeAny_of_tree ?_)
  show wpAny _ _ (callAny (.type "set") _) _ _ _
  refine wpAny_pure ⟨Code.quiet_builtin _ (by decide +kernel), codeAny_builtin F.entry_type_call ?_⟩
  rw [Around.under_plain (weight_type_call_type "set" [.ref l] []) rfl]
  have h1 := F.called_set.notType
  have h2 := F.called_set.canCreate
  have hct := F.typeCall_set_1 (.ref l)
  repeat (any_goals (first | assumption | wp_step))

  refine codeAny_mono (code_set_led1 (.ref l) (E := E) (Q₁ := fun obj s₁ => obj = .ref s.heap.objs.size ∧ s₁ = { s with heap := s.heap.push { cls := .type "set", dict := none, data := .set #[] 0 (.fresh 0 0 (!w.params.followText "set-order")) } }) ⟨rfl, rfl⟩) fun r s₁ hr => ?_
  cases r with
  | error e => exact hr
  | ok fl =>
    cases fl with
    | ret obj =>
      obtain ⟨rfl, rfl⟩ := hr
      have hS : (s.heap.push { cls := .type "set", dict := none, data := .set #[] 0 (.fresh 0 0 (!w.params.followText "set-order")) }).get? s.heap.objs.size = some { cls := .type "set", dict := none, data := .set #[] 0 (.fresh 0 0 (!w.params.followText "set-order")) } := Heap.get?_push_size _ rfl
      have hT : Shared.TypeIs { s with heap := s.heap.push { cls := .type "set", dict := none, data := .set #[] 0 (.fresh 0 0 (!w.params.followText "set-order")) } } (.ref s.heap.objs.size) "set" := ⟨_, hS, rfl⟩
      have hli := F.called_set.init.lookup
      have hbi := F.called_set.init.bind (.ref s.heap.objs.size)
      repeat (any_goals (first | assumption | wp_step))

      refine codeAny_mono (codeAny_call_builtin (R := wants (fun r s₂ => r = .none ∧ ∃ h' tk c, s₂ = { s with heap := h', toks := tk } ∧ SetR w h' s.heap.objs.size (fun j => decide (j ∈ ns)) c ∧ c ≤ ns.length ∧
          (∀ b o, s.heap.get? b = some o → h'.get? b = some o)) E) F.called_set.init.plain F.entry_set_init (check_set_init_1 hT ?_)) fun r₂ s₂ hr₂ => ?_
      · obtain ⟨ol, hol, hcl, nl, hdl⟩ := hl
        obtain ⟨ocls, odict, odata, oslots⟩ := ol
        simp only at hcl hdl
        subst hcl; subst hdl
        have hol' : (s.heap.push { cls := .type "set", dict := none, data := .set #[] 0 (.fresh 0 0 (!w.params.followText "set-order")) }).get? l = some { cls := .type "list", dict := odict, data := .seq items nl, slots := oslots } := Heap.get?_push_of_some _ hol
        have hsls := F.sub_list_set
        have hslf := F.sub_list_frozenset
        have hne : (Value.type "list" == Value.type "dict") = false := by decide
        have hl1 : (s.heap.push { cls := .type "set", dict := none, data := .set #[] 0 (.fresh 0 0 (!w.params.followText "set-order")) }).IsList l items := ⟨_, hol', rfl, nl, rfl⟩
        unfold Builtin.«set.__init__» noKeywords Builtin.Frozenset.updateFrom
        generalize hPI : pyIter = PI
        wp_walk
        subst hPI

        refine wpAny_pyIter_list hl1 ?_
        refine wpAny_bind (wpAny_runValue ?_)
        have hlS : l < s.heap.objs.size := Heap.lt_size hol
        have hh3 : A.in1.in1.in1.handled = none := by simp [hh]
        have hz1 : (s.heap.push { cls := .type "set", dict := none, data := .set #[] 0 (.fresh 0 0 (!w.params.followText "set-order")) }).objs.size = s.heap.objs.size + 1 := Heap.size_push ..
        have hneI : l ≠ (s.heap.push { cls := .type "set", dict := none, data := .set #[] 0 (.fresh 0 0 (!w.params.followText "set-order")) }).objs.size := by
          rw [Heap.size_push]; exact Nat.ne_of_lt (Nat.lt_succ_of_lt hlS)
        have hSf : s.heap.objs.size ∉ [(s.heap.push { cls := .type "set", dict := none, data := .set #[] 0 (.fresh 0 0 (!w.params.followText "set-order")) }).objs.size, l] := by
          rw [Heap.size_push]; simp only [List.mem_cons, List.mem_singleton, List.not_mem_nil, or_false, not_or]
          exact ⟨Nat.ne_of_lt (Nat.lt_succ_self _), Nat.ne_of_gt hlS⟩
        have hval : ∀ (i : Nat) (v : Value), items[i]? = some v → ∃ k t, ns[i]? = some k ∧ v = .int k t := fun i v hv => by
          have hi : i < ns.length := by rw [← hisz]; exact (Array.getElem?_eq_some_iff.mp hv).1
          obtain ⟨t, e⟩ := PyProof.Rows.IntsAre.int_at hit i v (by rw [Array.getElem?_toList]; exact hv)
          refine ⟨ns[i], t, List.getElem?_eq_getElem hi, ?_⟩
          rw [e, List.getD_eq_getElem?_getD, List.getElem?_eq_getElem hi] <;> rfl
        refine set_update_ints ((Walks.list hh3 _ l hneI items).toS) s.heap.objs.size
          hSf ns hisz hb hval (items.size - 0) 0 _ (by omega) (Nat.zero_le _)
          ⟨⟨_, Heap.get?_push_size _ rfl, rfl, rfl⟩, (hl1.push _)⟩ ?hS0 ?hR
        case hS0 =>
          have hget : ((s.heap.push { cls := .type "set", dict := none, data := .set #[] 0 (.fresh 0 0 (!w.params.followText "set-order")) }).push { cls := .type "list_iterator", data := .fields #[.ref l, .int 0 0] }).get? s.heap.objs.size
              = some { cls := .type "set", dict := none, data := .set #[] 0 (.fresh 0 0 (!w.params.followText "set-order")) } := Heap.get?_push_of_some _ hS
          exact ⟨0, Nat.le_refl 0, setR_new_at hget⟩
        case hR =>
          intro s' c' hm hc' hS'
          obtain ⟨h', g2, d', tk', os'⟩ := s'
          have eg : g2 = s.gens := hm.gens
          have ed : d' = s.drawn := hm.drawn
          have eo : os' = s.os := hm.os
          subst eg; subst ed; subst eo
          show wpAny _ _ _ _ _ _
          refine wpAny_pure ?_
          show wpAny _ _ (ret Value.none) _ _ _
          rw [hisz] at hc'
          refine wpAny_pure ⟨rfl, h', tk', c', rfl, hS', hc', fun b o e => ?_⟩
          have hb0 : b < s.heap.objs.size := Heap.lt_size e
          have hb1 : b ≠ s.heap.objs.size := Nat.ne_of_lt hb0
          have hb2 : b ≠ (s.heap.push { cls := .type "set", dict := none, data := .set #[] 0 (.fresh 0 0 (!w.params.followText "set-order")) }).objs.size := by
            rw [Heap.size_push]; exact Nat.ne_of_lt (Nat.lt_succ_of_lt hb0)
          exact hm.heap b o (by simp only [List.mem_cons, List.mem_singleton, List.not_mem_nil, or_false, not_or]; exact ⟨hb1, hb2⟩) (Heap.get?_push_of_some _ (Heap.get?_push_of_some _ e))

      · cases r₂ with
        | error e => exact hr₂
        | ok fl₂ =>
          cases fl₂ with
          | ret r =>
            obtain ⟨rfl, h', tk, c', rfl, hS', hc', hk'⟩ := hr₂
            repeat (any_goals (first | assumption | wp_step))
            exact h _ _ _ hS' hc' hk'
          | _ => exact hr₂.elim
    | _ => exact hr.elim

theorem sorted_setR {a : Addr} {S : Int → Bool} {n : Nat} {Q : Value → Shared → Prop} (R : SetR w s.heap a S n) (hh : A.handled = none)
    (hQ : ∀ s' p (out : Array Value) (c : Nat) (ns : List Int), (∀ b o, s.heap.get? b = some o → s'.heap.get? b = some o) → s'.gens = s.gens → s'.os = s.os → s.heap.objs.size ≤ p →
      s'.heap.get? p = some (seqObj "list" out c) → IntsAre out.toList ns → ns.Pairwise (· < ·) → (∀ k, k ∈ ns ↔ S k = true) → ns.length = n → Q (.ref p) s') :
    wpAny (model P w) A (call (.builtin "sorted") [.ref a]) Q E s := by
  obtain ⟨o, es, ep, t, ho, hex, hd, g, nd, hm, hb, hf, hn, hr, hl⟩ := R
  refine Calls.call_function_entry kind_sorted plain_sorted entry_sorted (args_sorted1 _) ?_
  unfold Builtin.«sorted»
  refine wpAny_bind (m := checkCount "sorted" 1 1 _) (wpAny_pure ?_)
  refine wpAny_bind (collect_set (A := A.in1) hh ⟨o, ho, hex.1, hd⟩ hf hb hr hl fun s1 vs k1 hz g1 o1 pm => ?_)
  have hvl : vs.length = n := by rw [pm.length_eq, List.length_map, Array.length_toList]; exact hn
  have hnb : n < 4096 := by rw [← hn]; exact hb
  have hI : IntsAre vs (vs.map Builtin.Re.reRawOf) := ints_of vs fun v hv => by
    obtain ⟨e, he, q⟩ := List.mem_map.mp (pm.mem_iff.mp hv)
    obtain ⟨k, tk, h1, _⟩ := g e he
    exact ⟨k, tk, by rw [← q]; exact h1⟩
  have pk : (vs.map Builtin.Re.reRawOf).Perm (es.toList.map keyOf) := by
    have q := pm.map Builtin.Re.reRawOf
    rw [List.map_map] at q
    exact q
  refine wpAny_bind (wpAny_newList ?_ (by rw [hvl, sizeLine_eq]; omega))
  have hoL : (s1.heap.push (seqObj "list" vs.toArray 0)).get? s1.heap.objs.size = some (seqObj "list" vs.toArray 0) := Heap.get?_push_size _ rfl
  refine wpAny_bind (wpAny_holding (wpAny_call_entry slot_list_sort ⟨_, hoL, rfl⟩ entry_list_sort (SrtO.list_sort_ord SrtO.swo_int hoL (by rw [hvl, sizeLine_eq]; omega) (fun h2 => SrtO.ints_sortable hI h2) fun out h1 h2 => ⟨_, rfl, ?_⟩) (args_list_sort _)))
  obtain ⟨a1, a2, a3⟩ := SrtO.ints_out hI h1 h2
  obtain ⟨c, hc⟩ := sortedHeap_at (vs := vs) (out := out.toArray) hoL
  generalize out.map SrtO.iv = ns' at a1 a2 a3
  have pn : ns'.Perm (es.toList.map keyOf) := a2.trans pk
  refine wpAny_pure ⟨_, rfl, hQ _ s1.heap.objs.size out.toArray c ns' (fun b u e => ?_) g1 o1 hz hc a1 (lt_of_le_nodup ns' a3 (pn.nodup_iff.mpr nd)) (fun k => by rw [pn.mem_iff, ← hm k]) ?_⟩
  · have q := k1 b u e
    have hlt := Heap.lt_size q
    show (sortedHeap (s1.heap.push (seqObj "list" vs.toArray 0)) s1.heap.objs.size vs out.toArray).get? b = some u
    rw [sortedHeap_old (Nat.ne_of_lt hlt) (by rw [size_push']; exact Nat.lt_succ_of_lt hlt)]
    exact Heap.get?_push_of_some _ q
  · rw [pn.length_eq, List.length_map, Array.length_toList]; exact hn
end
section
variable {X : Cx}
/-- sorted(a set of ints) -/
def rSortedSX (w : World) : List V → Hp → VK → Prop := fun vs H Q => ∃ (a : Addr) (S : Int → Bool) (n : Nat), vs = [V.ref a] ∧ H a = some (SetO w a S n) ∧
  ∀ (ns : List Int) (p : Addr), ns.Pairwise (· < ·) → (∀ k : Int, k ∈ ns ↔ S k = true) → ns.length = n → H p = none → Q (.ref p) (upd H p (.lst (ns.map V.int)))
theorem cr_sortedSX (hc : X.calm = true) : CallR X (.builtin "sorted") (rSortedSX X.w) := by
  intro pins s σ H vs us Q I r h
  obtain ⟨a, S, n, rfl, ha, q⟩ := h
  have R := setO_get I ha
  have hnb : n < 4096 := by
    obtain ⟨o, es, ep, t, ho, hex, hd, g, nd, hm, hb, hf, hn, hr, hl⟩ := R
    rw [← hn]; exact hb
  rw [Vals.ref1 r]
  refine sorted_setR R (I.ok.hd hc) fun s' p out c ns k g o hp hg hi hs hm hl => ?_
  have hlen : (ns.map V.int).length ≤ sizeLine := by rw [List.length_map, hl, sizeLine_eq]; omega
  have hn : H p = none := I.hok.fresh hp
  have J : Inv X pins σ (upd H p (.lst (ns.map V.int))) { s with heap := s'.heap, gens := s'.gens, drawn := s'.drawn, toks := s'.toks } :=
    I.call (ch := []) (Un.laid k hp hn) (I.hok.laid k hp ⟨hlen, out.toList, c, vals_of_ints hi, hg⟩) (by rw [g]; exact I.bare) (fun _ z => nomatch z)
  have e : s' = { s with heap := s'.heap, gens := s'.gens, drawn := s'.drawn, toks := s'.toks } := by
    cases s'
    cases s
    cases o
    rfl
  rw [e]
  exact ⟨.ref p, _, J, rfl, q ns p hs hm hl hn⟩
/-- set(list of ints) -/
def rSetLX (K : PySem.W.Frag) (w : World) : List V → Hp → VK → Prop := fun vs H Q => ∃ (a : Addr) (ns : List Int), vs = [V.ref a] ∧ SqL K H a (ns.map V.int) ∧ ns.length + 1 < scanBound ∧
  ∀ (p : Addr) (n : Nat), H p = none → Q (.ref p) (upd H p (SetO w p (fun j => decide (j ∈ ns)) n))
theorem cr_setLX (hc : X.calm = true) : CallR X (.type "set") (rSetLX X.K X.w) := by
  intro pins s σ H vs us Q I r h
  obtain ⟨a, ns, rfl, hs, hb, q⟩ := h
  obtain ⟨its, rv, hl, hz⟩ := I.list hs
  rw [Vals.ref1 r]
  refine call_set_lstI ns (I.ok.hd hc) hl.isList (by simpa using rv.ints) hb fun h' tk c new hcl k => ?_
  have hn : H s.heap.objs.size = none := I.hok.fresh (Nat.le_refl _)
  exact ⟨.ref _, upd H s.heap.objs.size (SetO X.w s.heap.objs.size (fun j => decide (j ∈ ns)) c), I.laid (t' := tk) k (Nat.le_refl _) (setO_new new), rfl, q _ c hn⟩
def rLcm : List V → Hp → VK → Prop := fun vs H Q => ∃ a b : Int, vs = [.int a, .int b] ∧ (a.natAbs.log2 < 13000 ∧ b.natAbs.log2 < 13000) ∧ Q (.int ((Nat.lcm a.natAbs b.natAbs : Nat) : Int)) H
theorem log_mx {a b k : Nat} (ha : a.log2 ≤ k) (hb : b.log2 ≤ k) : (max a b).log2 ≤ k := by
  by_cases h : a ≤ b
  · rw [Nat.max_eq_right h]; exact hb
  · rw [Nat.max_eq_left (by omega)]; exact ha
theorem cr_lcm : CallR X (.builtin "math.lcm") rLcm := by
  intro pins s σ H vs us Q I r h
  obtain ⟨a, b, rfl, ⟨ha, hb⟩, q⟩ := h
  obtain ⟨t, u, rfl⟩ := Vals.int2 r
  have e : Nat.lcm 1 a.natAbs = a.natAbs := by simp [Nat.lcm]
  have h1 : (max 1 a.natAbs).log2 ≤ 13000 := log_mx (by decide) (by omega)
  have h2 : (max a.natAbs b.natAbs).log2 ≤ 13000 := log_mx (by omega) (by omega)
  have h3 : a.natAbs < 2 ^ 13000 := Nat.lt_of_lt_of_le Nat.lt_log2_self (Nat.pow_le_pow_right (by decide) (by omega))
  have h4 : b.natAbs < 2 ^ 13000 := Nat.lt_of_lt_of_le Nat.lt_log2_self (Nat.pow_le_pow_right (by decide) (by omega))
  have h5 : a.natAbs.lcm b.natAbs < 2 ^ 26000 := by
    refine Nat.lt_of_le_of_lt (PySem.W.mc_lcm_le _ _) ?_
    rw [show (26000 : Nat) = 13000 + 13000 from rfl, Nat.pow_add]
    exact Nat.mul_lt_mul'' h3 h4
  have hsz : ((((Nat.lcm 1 a.natAbs).lcm b.natAbs : Nat) : Int)).natAbs.log2 < bitsLine := by
    rw [e, Int.natAbs_natCast]
    by_cases h0 : a.natAbs.lcm b.natAbs = 0
    · rw [h0]; decide
    · exact Nat.lt_of_lt_of_le ((Nat.log2_lt h0).mpr h5) (by decide)
  refine call_function_meets PySem.W.MGF.kind_lcm PySem.W.MGF.plain_lcm PySem.W.MGF.entry_lcm (PySem.W.MGF.args_lcm _ _) (PySem.W.mg_run_lcm a t b u (by omega) (by omega) hsz).meets ?_
  rw [e]
  exact ⟨.int _, H, I.tok _, ⟨_, rfl⟩, q⟩
end
end L2

set_option Elab.async false
set_option linter.all false
set_option maxRecDepth 100000
/-! Rf6: displays of dicts, what is walked, comprehensions -/
namespace Rf
open PySem L2 PySem.Spec PyProof.Rows
variable {K : PySem.W.Frag} {H H1 H2 H' : Hp} {Z Z1 Z' B : List Addr} {μ μ' : M} {ρ ρ' : Rho} {σ : L2.St}

/-! ### dicts -/
/-- pairs evaluated from the left -/
def upPr (K : PySem.W.Frag) (w : Rho → M → (List (Key × D) → M → Prop) → Prop) (trs : List (TE × TE)) : Prop :=
  ∀ (σ : L2.St) (H : Hp) (Q' : List (V × V) → Hp → Prop) (ρ : Rho) (μ : M) (Z B : List Addr) (Q : List (Key × D) → M → Prop), Sta K ρ μ Z B σ H → w ρ μ Q →
    (∀ kvs μ' kws H' Z', Le H Z H' Z' → HRel K μ' Z' B H' → RKs K H' Z' B kvs kws → Q kvs μ' → Q' (kws.map fun kv => (kV kv.1, kv.2)) H') → tPairs trs σ H Q'
theorem pr_nil : upPr K (fun _ μ Q => Q [] μ) [] := fun σ H Q' ρ μ Z B Q hs hw fin => fin [] μ [] H Z LeW.refl hs.1 .nil hw
theorem pr_cons {wk wv : WE} {w : Rho → M → (List (Key × D) → M → Prop) → Prop} {trs : List (TE × TE)} (h : upPr K w trs) :
    upPr K (fun ρ μ Q => wk ρ μ fun x μ1 => wv ρ μ1 fun d μ2 => match keyD x with | some key => w ρ μ2 fun kvs μ3 => Q ((key, d) :: kvs) μ3 | none => False) ((upE K wk, upE K wv) :: trs) := by
  intro σ H Q' ρ μ Z B Q hs hw fin
  refine upE_i hs hw fun x μ1 v H1 Z1 l1 hs1 r1 hw1 => upE_i hs1 hw1 fun d μ2 u H2 Z2 l2 hs2 r2 hw2 => ?_
  cases e : keyD x with
  | none => rw [e] at hw2; exact hw2.elim
  | some key =>
    rw [e] at hw2
    have ev := keyD_rel e r1
    subst ev
    refine h σ H2 _ ρ μ2 Z2 B _ hs2 hw2 fun kvs μ3 kws H3 Z3 l3 hr3 r3 q => ?_
    exact fin ((key, d) :: kvs) μ3 ((key, u) :: kws) H3 Z3 ((l1.trans l2).trans l3) hr3 (.cons ⟨rfl, r2.le l3⟩ r3) q
theorem Le.celled {p : Addr} {o o' : HO} (n : H p = none) (l : Le (upd H p o) Z H1 Z1) (e : H1 p = some o) : Le H Z (upd H1 p o') (Z1 ++ [p]) := by
  refine ⟨fun a u ea nz _ => ?_, ?_, fun a u ea => ?_⟩
  · have hne : a ≠ p := ne_of_none ea n
    obtain ⟨h1, h2⟩ := l.keep a u (by rw [upd_ne hne]; exact ea) nz (by simp)
    refine ⟨by rw [upd_ne hne]; exact h1, fun z => ?_⟩
    rcases List.mem_append.mp z with z | z
    · exact h2 z
    · exact hne (by simpa using z)
  · obtain ⟨Y, rfl⟩ := l.pre
    exact ⟨Y ++ [p], by simp⟩
  · have hne : a ≠ p := ne_of_none ea n
    obtain ⟨u', h1⟩ := l.there a u (by rw [upd_ne hne]; exact ea)
    exact ⟨u', by rw [upd_ne hne]; exact h1⟩
theorem Le.frozen {p : Addr} {o o' : HO} (n : H p = none) (l : Le (upd H p o) Z H1 Z1) : Le H Z (upd H1 p o') Z1 := by
  refine ⟨fun a u ea nz _ => ?_, l.pre, fun a u ea => ?_⟩
  · have hne : a ≠ p := ne_of_none ea n
    obtain ⟨h1, h2⟩ := l.keep a u (by rw [upd_ne hne]; exact ea) nz (by simp)
    exact ⟨by rw [upd_ne hne]; exact h1, h2⟩
  · have hne : a ≠ p := ne_of_none ea n
    obtain ⟨u', h1⟩ := l.there a u (by rw [upd_ne hne]; exact ea)
    exact ⟨u', by rw [upd_ne hne]; exact h1⟩
section
variable {X : Cx} {pos : Pos}
theorem e_dct {w : Rho → M → (List (Key × D) → M → Prop) → Prop} {keys : List (Option Expr)} {values : List Expr} {trs : List (TE × TE)} (h : PPs X pos keys values trs) (hu : upPr X.K w trs) (hall : keys.all (·.isSome) = true)
    (hl : keys.length = values.length) (h0 : keys ≠ []) (hle : keys.length ≤ 15) : PE X (.Dict keys values pos) (upE X.K fun ρ μ Q => w ρ μ fun kvs μ1 => kvs.length ≤ 15 ∧ kvs ≠ [] ∧ Q (.cel μ1.length) (μ1 ++ [.dK (dmerge [] kvs)])) := by
  refine (pe_disp h hall hl h0 (by omega)).imp fun σ H Q' ⟨ρ, μ, Z, B, Q, hs, hw, fin⟩ => fun p n => ?_
  have hr1 := hs.1.lay (o := .dK []) n
  have l0 : Le H Z (upd H p (.dK [])) Z := Le.new n
  have hs1 : Sta X.K ρ μ Z (p :: B) σ (upd H p (.dK [])) := ⟨hr1, (hs.2.busy n).mono l0.weak⟩
  refine hu σ _ _ ρ μ Z (p :: B) _ hs1 hw fun kvs μ1 kws H1 Z1 l1 hr r q => ?_
  obtain ⟨q1, q2, q3⟩ := q
  have hp : p ∉ Z := (hs.1.fresh n).1
  have hpB : p ∉ B := (hs.1.fresh n).2
  have e1 : H1 p = some (.dK []) := (l1.keep p _ upd_same hp (by simp)).1
  refine ⟨e1, kws, rfl, by rw [← r.length]; exact q1, ?_⟩
  have l2 : Le H Z (upd H1 p (.dK (mergeK [] kws))) (Z1 ++ [p]) := Le.celled n l1 e1
  have lw : LeW (p :: B) H1 Z1 (upd H1 p (.dK (mergeK [] kws))) Z1 := LeW.wr (List.mem_cons_self)
  have nz1 : p ∉ Z1 := fun z => hr.zb p z (List.mem_cons_self)
  have hr2 : HRel X.K μ1 Z1 (p :: B) (upd H1 p (.dK (mergeK [] kws))) := hr.keep lw fun a za => upd_ne fun z => nz1 (z ▸ za)
  exact fin (.cel μ1.length) _ (.ref p) _ _ l2 (hr2.celled hpB (c := .dK (dmerge [] kvs)) ⟨_, upd_same, RKs.free (RKs.mono LeW.cell (RKs.mono lw (r.merge .nil)))⟩) (.cel (by rw [← hr.len]; simp)) q3

/-! ### what is walked -/
def Serves (K : PySem.W.Frag) (J : It) (s : Src) (H0 : Hp) (Z0 B : List Addr) : Prop :=
  ∀ (Bx : List Addr), (Bx = B ∨ ∃ p, H0 p = none ∧ Bx = p :: B) → ∀ (H' : Hp) (Z' : List Addr) (μ' : M), LeW Bx H0 Z0 H' Z' → HRel K μ' Z' Bx H' → s.ok μ' →
    (∀ i, i < s.items.length → J.go i H') ∧ (∀ i v H'' d, J.yld i H' v H'' → s.items[i]? = some d → Le H' Z' H'' Z' ∧ HRel K μ' Z' Bx H'' ∧ RD K H'' Z' Bx d v) ∧ ∀ i, s.items.length ≤ i → J.stop i H'
def upI (K : PySem.W.Frag) (w : WI) : TI := fun σ H R => ∃ (ρ : Rho) (μ : M) (Z B : List Addr) (Q : Src → M → Prop), Sta K ρ μ Z B σ H ∧ w ρ μ Q ∧ ∀ s μ' J H' Z', Le H Z H' Z' → HRel K μ' Z' B H' → s.ok μ' → Serves K J s H' Z' B → Q s μ' → R J H'
variable {e : Expr} {we : WE} {tg : Expr}
def iSeq (K : PySem.W.Frag) (tl : TE) : TI := fun σ H R => tl σ H fun x H1 => ∃ a, x = .ref a ∧ (((∃ xs, SqL K H1 a xs) ∧ R (Itl K a) H1) ∨ ((∃ xs, SqT K H1 a xs) ∧ R (Itt K a) H1))
theorem pi_seq {tl : TE} (hl : PE X e tl) : PI X tg e (iSeq X.K tl) := by
  refine ⟨fun pins s σ H R I h => ?_⟩
  refine thn (hl.run pins s σ H _ I h) fun v s1 ⟨x, H1, I1, r1, q1⟩ => ?_
  obtain ⟨a, ex, q1⟩ := q1
  subst ex
  cases r1
  rcases q1 with ⟨⟨xs, hq⟩, q⟩ | ⟨⟨xs, hq⟩, q⟩
  · obtain ⟨its, rv, p, hz⟩ := I1.list hq
    refine wpAny_pyIter_list p.isList ?_
    refine ⟨s1.heap.objs.size, [s1.heap.objs.size], _, _, H1, rfl, I1.kept (t' := s1.toks) fun b o e => Heap.get?_push_of_some _ e, turn_list a _, ⟨_, Heap.get?_push_size _ rfl, rfl, rfl⟩, fun b hb => ?_, q⟩
    have e : b = s1.heap.objs.size := by simpa using hb
    subst e
    exact I1.fpOk (Nat.le_refl _) (I1.hok.fresh (Nat.le_refl _))
  · obtain ⟨its, rv, p, hz⟩ := I1.tuple hq
    refine wpAny_pyIter_tuple (show s1.heap.IsTuple a its.toArray from p) ?_
    refine ⟨s1.heap.objs.size, [s1.heap.objs.size], _, _, H1, rfl, I1.kept (t' := s1.toks) fun b o e => Heap.get?_push_of_some _ e, turn_tuple a _, ⟨_, Heap.get?_push_size _ rfl, rfl, rfl⟩, fun b hb => ?_, q⟩
    have e : b = s1.heap.objs.size := by simpa using hb
    subst e
    exact I1.fpOk (Nat.le_refl _) (I1.hok.fresh (Nat.le_refl _))
theorem sq_inj {a : Addr} {xs ys : List V} {Hx : Hp} (h1 : SqL K Hx a xs) (hn : Hx a = some (.lst xs) ∨ ∃ o, Hx a = some (.frz o (.lst xs))) (h2 : Rd Hx a (.lst ys)) : xs = ys := by
  rcases hn with hn | ⟨o, hn⟩ <;> rcases h2 with h2 | ⟨o', h2⟩ <;> (rw [hn] at h2; cases h2; try rfl)
theorem serves_list {a : Addr} {vs : List V} {s : Src} (h : ∀ (Bx : List Addr), (Bx = B ∨ ∃ p, H p = none ∧ Bx = p :: B) → ∀ (H' : Hp) (Z' : List Addr) (μ' : M), LeW Bx H Z H' Z' → HRel K μ' Z' Bx H' → s.ok μ' → ∃ vs, SqL K H' a vs ∧ RDs K H' Z' Bx s.items vs) : Serves K (Itl K a) s H Z B := by
  intro Bx hB H' Z' μ' l hr ok
  obtain ⟨vs, sq, rs⟩ := h Bx hB H' Z' μ' l hr ok
  refine ⟨fun i hi => ?_, fun i v H'' d y e => ?_, fun i hi => ⟨vs, sq, by rw [← rs.length]; exact hi⟩⟩
  · obtain ⟨v, e, _⟩ := rs.get (List.getElem?_eq_getElem hi)
    exact ⟨vs, v, sq, e⟩
  · obtain ⟨e1, e2⟩ := y
    subst e1
    obtain ⟨w, e3, r⟩ := rs.get e
    have := e2 vs sq
    rw [e3] at this
    cases this
    exact ⟨LeW.refl, hr, r⟩
theorem serves_tup {a : Addr} {s : Src} (h : ∀ (Bx : List Addr), (Bx = B ∨ ∃ p, H p = none ∧ Bx = p :: B) → ∀ (H' : Hp) (Z' : List Addr) (μ' : M), LeW Bx H Z H' Z' → HRel K μ' Z' Bx H' → s.ok μ' → ∃ vs, SqT K H' a vs ∧ RDs K H' Z' Bx s.items vs) : Serves K (Itt K a) s H Z B := by
  intro Bx hB H' Z' μ' l hr ok
  obtain ⟨vs, sq, rs⟩ := h Bx hB H' Z' μ' l hr ok
  refine ⟨fun i hi => ?_, fun i v H'' d y e => ?_, fun i hi => ⟨vs, sq, by rw [← rs.length]; exact hi⟩⟩
  · obtain ⟨v, e, _⟩ := rs.get (List.getElem?_eq_getElem hi)
    exact ⟨vs, v, sq, e⟩
  · obtain ⟨e1, e2⟩ := y
    subst e1
    obtain ⟨w, e3, r⟩ := rs.get e
    have := e2 vs sq
    rw [e3] at this
    cases this
    exact ⟨LeW.refl, hr, r⟩
theorem rds_bx {Bx : List Addr} (hB : Bx = B ∨ ∃ p, H p = none ∧ Bx = p :: B) {ds : List D} {vs : List V} (r : RDs K H Z B ds vs) : RDs K H Z Bx ds vs := by
  rcases hB with rfl | ⟨p, n, rfl⟩
  · exact r
  · exact r.busy n
theorem fzt_bx {Bx : List Addr} (hB : Bx = B ∨ ∃ p, H p = none ∧ Bx = p :: B) {a : Addr} {vs : List V} (r : FzT K H Z B a vs) : FzT K H Z Bx a vs := by
  rcases hB with rfl | ⟨p, n, rfl⟩
  · exact r
  · exact r.busy n
theorem fzs_bx {Bx : List Addr} (hB : Bx = B ∨ ∃ p, H p = none ∧ Bx = p :: B) {a : Addr} {vs : List V} (r : FzS K H Z B a vs) : FzS K H Z Bx a vs := by
  rcases hB with rfl | ⟨p, n, rfl⟩
  · exact r
  · exact r.busy n
theorem nbx {Bx : List Addr} (hB : Bx = B ∨ ∃ p, H p = none ∧ Bx = p :: B) {a : Addr} {o : HO} (f : H a = some o) (b : a ∉ B) : a ∉ Bx := by
  rcases hB with rfl | ⟨p, n, rfl⟩
  · exact b
  · intro z
    rcases List.mem_cons.mp z with z | z
    · exact ne_of_none f n z
    · exact b z
theorem src_ok {d : D} {s : Src} {v : V} (hr : HRel K μ Z B H) (e : srcOf μ d = some s) (r : RD K H Z B d v) : s.ok μ ∧ ∃ a, v = .ref a ∧ ((∃ vs, SqL K H a vs) ∧ Serves K (Itl K a) s H Z B ∨ (∃ vs, SqT K H a vs) ∧ Serves K (Itt K a) s H Z B) := by
  cases d with
  | cel n =>
    simp only [srcOf] at e
    split at e
    · rename_i xs q
      cases e
      refine ⟨fun m ys em => by cases em; exact q, ?_⟩
      obtain ⟨a, rfl, ea, vs, h1, rs⟩ := hr.at_ q r
      refine ⟨a, rfl, .inl ⟨⟨vs, .of h1⟩, serves_list (vs := vs) fun Bx hB H' Z' μ' l hr' ok => ?_⟩⟩
      have q' := ok n _ rfl
      obtain ⟨a', ea', vs', h1', rs'⟩ := hr'.cel n _ q'
      rw [l.at_ ea] at ea'
      cases ea'
      exact ⟨vs', .of h1', rs'⟩
    · cases e
  | tup xs =>
    cases e
    refine ⟨fun m ys em => (by cases em), ?_⟩
    cases r with
    | tup f rs => exact ⟨_, rfl, .inr ⟨⟨_, f.sq⟩, serves_tup fun Bx hB H' Z' μ' l hr' ok => ⟨_, (FzT.mono l (fzt_bx hB f)).sq, RDs.mono l (rds_bx hB rs)⟩⟩⟩
  | lst xs =>
    cases e
    refine ⟨fun m ys em => (by cases em), ?_⟩
    cases r with
    | lst f n b rs => exact ⟨_, rfl, .inl ⟨⟨_, .of f⟩, serves_list (vs := []) fun Bx hB H' Z' μ' l hr' ok => by
        exact ⟨_, .of (l.keep _ _ f n (nbx hB f b)).1, RDs.mono l (rds_bx hB rs)⟩⟩⟩
  | scr xs =>
    cases e
    refine ⟨fun m ys em => (by cases em), ?_⟩
    cases r with
    | scr f rs => exact ⟨_, rfl, .inl ⟨⟨_, f.sq⟩, serves_list (vs := []) fun Bx hB H' Z' μ' l hr' ok => ⟨_, (FzS.mono l (fzs_bx hB f)).sq, RDs.mono l (rds_bx hB rs)⟩⟩⟩
  | _ => cases e
theorem i_sq (ha : PE X e (upE X.K we)) : PI X tg e (upI X.K fun ρ μ Q => we ρ μ fun d μ1 => match srcOf μ1 d with | some s => Q s μ1 | none => False) :=
  (pi_seq ha).imp fun σ H R ⟨ρ, μ, Z, B, Q, hs, h, fin⟩ => upE_i hs h fun d μ1 v H1 Z1 l1 hs1 r1 q1 => by
    cases es : srcOf μ1 d with
    | none => rw [es] at q1; exact q1.elim
    | some s =>
      rw [es] at q1
      obtain ⟨ok, a, rfl, ⟨q, sv⟩ | ⟨q, sv⟩⟩ := src_ok hs1.1 es r1
      · exact ⟨a, rfl, .inl ⟨q, fin s μ1 _ H1 Z1 l1 hs1.1 ok sv q1⟩⟩
      · exact ⟨a, rfl, .inr ⟨q, fin s μ1 _ H1 Z1 l1 hs1.1 ok sv q1⟩⟩
theorem serves_range {lo : Int} {n : Nat} : Serves K (Itr lo n) ⟨none, rangeD lo n⟩ H Z B := by
  intro Bx hB H' Z' μ' l hr ok
  have hl : (rangeD lo n).length = n := by simp [rangeD]
  refine ⟨fun i hi => ?_, fun i v H'' d y e => ?_, fun i hi => ?_⟩
  · show i < n
    rw [← hl]; exact hi
  · obtain ⟨e1, e2⟩ := y
    subst e1 e2
    refine ⟨LeW.refl, hr, ?_⟩
    have e : (rangeD lo n)[i]? = some d := e
    unfold rangeD at e
    rw [List.getElem?_map] at e
    cases q : (List.range n)[i]? with
    | none => rw [q] at e; cases e
    | some j =>
      rw [q] at e
      cases e
      have : j = i := by
        have hi := (List.getElem?_eq_some_iff.mp q).1
        rw [List.getElem?_range (by simpa using hi)] at q
        exact (Option.some.inj q).symm
      subst this
      exact .int _
  · show n ≤ i
    rw [← hl]; exact hi
theorem zip_get {xs ys : List D} {i : Nat} {d : D} (h : (List.zipWith (fun x y => D.tup [x, y]) xs ys)[i]? = some d) : ∃ x y, xs[i]? = some x ∧ ys[i]? = some y ∧ d = .tup [x, y] := by
  rw [List.getElem?_zipWith] at h
  cases e1 : xs[i]? with
  | none => rw [e1] at h; cases h
  | some x =>
    cases e2 : ys[i]? with
    | none => rw [e1, e2] at h; cases h
    | some y => rw [e1, e2] at h; cases h; exact ⟨x, y, rfl, rfl, rfl⟩
theorem zip_yld {μ' : M} {Bx : List Addr} {H' H'' : Hp} {Z' : List Addr} {T : Addr} {x y : V} {dx dy : D} (hr : HRel K μ' Z' Bx H') (n : H' T = none) (e : H'' = upd H' T (.tup [x, y])) (r1 : RD K H' Z' Bx dx x) (r2 : RD K H' Z' Bx dy y) :
    Le H' Z' H'' Z' ∧ HRel K μ' Z' Bx H'' ∧ RD K H'' Z' Bx (.tup [dx, dy]) (.ref T) := by
  subst e
  have l : Le H' Z' (upd H' T (.tup [x, y])) Z' := Le.new n
  obtain ⟨n1, n2⟩ := hr.fresh n
  exact ⟨l, hr.new n, .tup (.inl ⟨upd_same, n1, n2⟩) (.cons (r1.le l) (.cons (r2.le l) .nil))⟩
theorem serves_zipT {a b : Addr} {xs ys : List D} (h : ∀ (Bx : List Addr), (Bx = B ∨ ∃ p, H p = none ∧ Bx = p :: B) → ∀ (H' : Hp) (Z' : List Addr) (μ' : M), LeW Bx H Z H' Z' → HRel K μ' Z' Bx H' → ∃ vs ws, SqT K H' a vs ∧ RDs K H' Z' Bx xs vs ∧ SqT K H' b ws ∧ RDs K H' Z' Bx ys ws) :
    Serves K (RZ.ItzT K a b) ⟨none, List.zipWith (fun x y => D.tup [x, y]) xs ys⟩ H Z B := by
  intro Bx hB H' Z' μ' l hr ok
  obtain ⟨vs, ws, s1, r1, s2, r2⟩ := h Bx hB H' Z' μ' l hr
  refine ⟨fun i hi => ?_, fun i v H'' d y e => ?_, fun i hi => ⟨vs, ws, s1, s2, ?_⟩⟩
  · have hi : i < (List.zipWith (fun x y => D.tup [x, y]) xs ys).length := hi
    obtain ⟨x, y, e1, e2, _⟩ := zip_get (List.getElem?_eq_getElem hi)
    obtain ⟨v, q1, _⟩ := r1.get e1
    obtain ⟨w, q2, _⟩ := r2.get e2
    exact ⟨vs, ws, v, w, s1, s2, q1, q2⟩
  · obtain ⟨x, y', e1, e2, rfl⟩ := zip_get e
    obtain ⟨T, u, w, rfl, n, e3, k1, k2⟩ := y
    obtain ⟨v1, q1, p1⟩ := r1.get e1
    obtain ⟨v2, q2, p2⟩ := r2.get e2
    have a1 := k1 vs s1
    rw [q1] at a1; cases a1
    have a2 := k2 ws s2
    rw [q2] at a2; cases a2
    exact zip_yld hr n e3 p1 p2
  · have hi : (List.zipWith (fun x y => D.tup [x, y]) xs ys).length ≤ i := hi
    rw [List.length_zipWith, r1.length, r2.length] at hi
    omega
theorem serves_zipL {a b : Addr} {xs ys : List D} (h : ∀ (Bx : List Addr), (Bx = B ∨ ∃ p, H p = none ∧ Bx = p :: B) → ∀ (H' : Hp) (Z' : List Addr) (μ' : M), LeW Bx H Z H' Z' → HRel K μ' Z' Bx H' → ∃ vs ws, SqL K H' a vs ∧ RDs K H' Z' Bx xs vs ∧ SqL K H' b ws ∧ RDs K H' Z' Bx ys ws) :
    Serves K (Itz K a b) ⟨none, List.zipWith (fun x y => D.tup [x, y]) xs ys⟩ H Z B := by
  intro Bx hB H' Z' μ' l hr ok
  obtain ⟨vs, ws, s1, r1, s2, r2⟩ := h Bx hB H' Z' μ' l hr
  refine ⟨fun i hi => ?_, fun i v H'' d y e => ?_, fun i hi => ⟨vs, ws, s1, s2, ?_⟩⟩
  · have hi : i < (List.zipWith (fun x y => D.tup [x, y]) xs ys).length := hi
    obtain ⟨x, y, e1, e2, _⟩ := zip_get (List.getElem?_eq_getElem hi)
    obtain ⟨v, q1, _⟩ := r1.get e1
    obtain ⟨w, q2, _⟩ := r2.get e2
    exact ⟨vs, ws, v, w, s1, s2, q1, q2⟩
  · obtain ⟨x, y', e1, e2, rfl⟩ := zip_get e
    obtain ⟨T, u, w, rfl, n, e3, k1, k2⟩ := y
    obtain ⟨v1, q1, p1⟩ := r1.get e1
    obtain ⟨v2, q2, p2⟩ := r2.get e2
    have a1 := k1 vs s1
    rw [q1] at a1; cases a1
    have a2 := k2 ws s2
    rw [q2] at a2; cases a2
    exact zip_yld hr n e3 p1 p2
  · have hi : (List.zipWith (fun x y => D.tup [x, y]) xs ys).length ≤ i := hi
    rw [List.length_zipWith, r1.length, r2.length] at hi
    omega
variable {a b : Expr} {wa wb : WE} {p : Pos}
theorem i_zp {elts : List Expr} {kk : Nat} {tpos : Pos} (hg : Gl X "zip") (hm : X.mg "zip" = none) (hst : notSt a = true) (hst2 : notSt b = true) (ha : PE X a (upE X.K wa)) (hb : PE X b (upE X.K wb)) : PI X (.Tuple elts kk tpos) (.Call (.Name "zip" p) [a, b] [] pos) (upI X.K fun ρ μ Q => wa ρ μ fun d μ1 => wb ρ μ1 fun e μ2 => match d, e with
    | .tup xs, .tup ys => Q ⟨none, List.zipWith (fun x y => .tup [x, y]) xs ys⟩ μ2
    | .lst xs, .lst ys => Q ⟨none, List.zipWith (fun x y => .tup [x, y]) xs ys⟩ μ2
    | _, _ => False) :=
  (RZ.pi_zipA hg hm (pa_cons ha (pa_cons hb pa_nil (star_one hst2)) (star_one hst)) (by rw [star_one hst, star_one hst2] <;> rfl) (by first | (rw [star_one hst2]; rfl) | rw [star_one hst2] | exact star_any (es := [b]) (by simp [hst2]))).imp fun σ H R ⟨ρ, μ, Z, B, Q, hs, h, fin⟩ => upE_i hs h fun d μ1 v H1 Z1 l1 hs1 r1 q1 => upE_i hs1 q1 fun e μ2 w H2 Z2 l2 hs2 r2 q2 => by
    have r1 := r1.le l2
    split at q2
    · cases r1 with
      | tup f1 s1 =>
        cases r2 with
        | tup f2 s2 =>
          refine ⟨_, _, _, _, rfl, .inr ⟨f1.sq, f2.sq, fin _ _ _ _ _ (l1.trans l2) hs2.1 (fun m ys em => by cases em) (serves_zipT fun Bx hB H' Z' μ' l hr => ?_) q2⟩⟩
          exact ⟨_, _, (FzT.mono l (fzt_bx hB f1)).sq, RDs.mono l (rds_bx hB s1), (FzT.mono l (fzt_bx hB f2)).sq, RDs.mono l (rds_bx hB s2)⟩
    · cases r1 with
      | lst f1 n1 b1 s1 =>
        cases r2 with
        | lst f2 n2 b2 s2 =>
          refine ⟨_, _, _, _, rfl, .inl ⟨.of f1, .of f2, fin _ _ _ _ _ (l1.trans l2) hs2.1 (fun m ys em => by cases em) (serves_zipL fun Bx hB H' Z' μ' l hr => ?_) q2⟩⟩
          exact ⟨_, _, .of (l.keep _ _ f1 n1 (nbx hB f1 b1)).1, RDs.mono l (rds_bx hB s1), .of (l.keep _ _ f2 n2 (nbx hB f2 b2)).1, RDs.mono l (rds_bx hB s2)⟩
    · exact q2.elim
theorem i_r1 (hg : Gl X "range") (hm : X.mg "range" = none) (hst : notSt a = true) (ha : PE X a (upE X.K wa)) : PI X tg (.Call (.Name "range" p) [a] [] pos) (upI X.K fun ρ μ Q => wa ρ μ fun d μ1 => match d with | .int j => bnd j ∧ Q ⟨none, rangeD 0 j.toNat⟩ μ1 | _ => False) :=
  (pi_range1 hg hm (pa_cons ha pa_nil (star_one hst)) (star_one hst)).imp fun σ H R ⟨ρ, μ, Z, B, Q, hs, h, fin⟩ => upE_i hs h fun d μ1 v H1 Z1 l1 hs1 r1 q1 => by
    cases d with
    | int j =>
      obtain ⟨⟨b1, b2⟩, q⟩ := q1
      cases r1
      exact ⟨j, rfl, b1, b2, fin _ _ _ _ _ l1 hs1.1 (fun m ys em => by cases em) serves_range q⟩
    | _ => exact q1.elim
theorem i_r2 (hg : Gl X "range") (hm : X.mg "range" = none) (hst : notSt a = true) (hst2 : notSt b = true) (ha : PE X a (upE X.K wa)) (hb : PE X b (upE X.K wb)) : PI X tg (.Call (.Name "range" p) [a, b] [] pos) (upI X.K fun ρ μ Q => wa ρ μ fun d μ1 => wb ρ μ1 fun e μ2 => match d with
    | .int i => match e with
      | .int j => bnd i ∧ bnd j ∧ Q ⟨none, rangeD i (j - i).toNat⟩ μ2
      | _ => False
    | _ => False) :=
  (pi_range2 hg hm (pa_cons ha (pa_cons hb pa_nil (star_one hst2)) (star_one hst)) (by rw [star_one hst, star_one hst2]; rfl) (star_one hst2)).imp fun σ H R ⟨ρ, μ, Z, B, Q, hs, h, fin⟩ => upE_i hs h fun d μ1 v H1 Z1 l1 hs1 r1 q1 => upE_i hs1 q1 fun e μ2 w H2 Z2 l2 hs2 r2 q2 => by
    cases d with
    | int i =>
      cases e with
      | int j =>
        obtain ⟨⟨b1, b2⟩, ⟨b3, b4⟩, q⟩ := q2
        cases r1
        cases r2
        exact ⟨i, j, rfl, ⟨b1, b2, b3, b4⟩, fin _ _ _ _ _ (l1.trans l2) hs2.1 (fun m ys em => by cases em) serves_range q⟩
      | _ => exact q2.elim
    | _ => exact q2.elim

/-! ### targets -/
theorem wipe_in {σ : L2.St} {j : Nat} : ∀ {vs : List Nat}, j ∈ vs → j < σ.length → (L2.wipe σ vs)[j]? = some none
  | v :: vs, h, hl => by
    unfold L2.wipe
    by_cases e : v = j
    · subst e
      rw [List.getElem?_set_self (by rw [L2.wipe_length]; exact hl)]
    · rw [List.getElem?_set_ne e]
      exact wipe_in ((List.mem_cons.mp h).resolve_left fun z => e z.symm) hl
theorem wipe_ext {σ σ' : L2.St} {own : List Nat} (hl : σ.length = σ'.length) (h : ∀ j, j ∉ own → σ[j]? = σ'[j]?) : L2.wipe σ own = L2.wipe σ' own := by
  apply List.ext_getElem?
  intro j
  by_cases hj : j ∈ own
  · by_cases hl' : j < σ.length
    · rw [wipe_in hj hl', wipe_in hj (by rw [← hl]; exact hl')]
    · rw [List.getElem?_eq_none (by rw [L2.wipe_length]; omega), List.getElem?_eq_none (by rw [L2.wipe_length]; omega)]
  · rw [L2.wipe_out hj, L2.wipe_out hj]
    exact h j hj
/-- only these slots differ -/
def Dif (is : List Nat) (σ σ' : L2.St) : Prop := σ.length = σ'.length ∧ ∀ j, j ∉ is → σ[j]? = σ'[j]?
theorem Dif.wipe {is own : List Nat} {σ σ' : L2.St} (d : Dif is σ σ') (h : ∀ i ∈ is, i ∈ own) : L2.wipe σ' own = L2.wipe σ own :=
  (wipe_ext d.1 fun j hj => d.2 j fun z => hj (h j z)).symm
theorem wipe_wipe {σ : L2.St} {own : List Nat} : L2.wipe (L2.wipe σ own) own = L2.wipe σ own :=
  wipe_ext (L2.wipe_length _ _) fun j hj => L2.wipe_out hj
/-- a name, a tuple of names: what is bound -/
def upG (K : PySem.W.Frag) (tg : CT) (g : TG) : Prop := ∀ (v : V) (σ : L2.St) (H : Hp) (R : L2.St → Hp → Prop) (d : D) (ρ ρ2 : Rho) (μ : M) (Z B : List Addr), RR K H Z B ρ σ → RD K H Z B d v → bindT μ tg d ρ = some ρ2 →
  (∀ σ2, RR K H Z B ρ2 σ2 → Dif tg.slots σ σ2 → R σ2 H) → g v σ H R
theorem Dif.set {i : Nat} {σ : L2.St} {v : V} : Dif [i] σ (σ.set i (some v)) := ⟨by rw [List.length_set], fun j hj => by rw [List.getElem?_set_ne (fun z => hj (by simp [z]))]⟩
theorem g_nm {i : Nat} : upG K (.nm i) (gName i) := fun v σ H R d ρ ρ2 μ Z B hr r e k => by
  cases e
  exact k _ (hr.set r i) Dif.set
def gNames : List Nat → TGs
  | [] => gNil
  | i :: is => gCons (gName i) (gNames is)
theorem gNames_ok : ∀ {is : List Nat} {ds : List D} {vs : List V} {ρ ρ2 : Rho} {σ : L2.St} {R : L2.St → Hp → Prop}, RR K H Z B ρ σ → RDs K H Z B ds vs → setsD is ds ρ = some ρ2 → (∀ σ2, RR K H Z B ρ2 σ2 → Dif is σ σ2 → R σ2 H) → gNames is vs σ H R
  | [], [], vs, ρ, ρ2, σ, R, hr, r, e, k => by cases e; cases r; exact ⟨rfl, k _ hr ⟨rfl, fun _ _ => rfl⟩⟩
  | [], _ :: _, vs, ρ, ρ2, σ, R, hr, r, e, k => by cases e
  | _ :: _, [], vs, ρ, ρ2, σ, R, hr, r, e, k => by cases e
  | i :: is, d :: ds, vs, ρ, ρ2, σ, R, hr, r, e, k => by
    cases r with
    | cons r1 r2 =>
      refine ⟨_, _, rfl, gNames_ok (hr.set r1 i) r2 e fun σ2 h1 h2 => k σ2 h1 ⟨by rw [← h2.1, List.length_set], fun j hj => ?_⟩⟩
      rw [← h2.2 j fun z => hj (List.mem_cons_of_mem _ z), List.getElem?_set_ne (fun z => hj (by rw [z]; exact List.mem_cons_self))]
theorem setsD_len : ∀ {is : List Nat} {ds : List D} {ρ ρ2 : Rho}, setsD is ds ρ = some ρ2 → ds.length = is.length ∧ ρ2.length = ρ.length
  | [], [], ρ, ρ2, e => by cases e; exact ⟨rfl, rfl⟩
  | [], _ :: _, ρ, ρ2, e => by cases e
  | _ :: _, [], ρ, ρ2, e => by cases e
  | i :: is, d :: ds, ρ, ρ2, e => by
    obtain ⟨h1, h2⟩ := setsD_len (is := is) (ds := ds) e
    exact ⟨by simp [h1], by rw [h2, List.length_set]⟩
theorem g_tp {is : List Nat} : upG K (.tp is) (gTup K is.length (gNames is)) := fun v σ H R d ρ ρ2 μ Z B hr r e k => by
  cases d with
  | tup ds =>
    cases r with
    | tup f rs => exact ⟨_, _, rfl, f.sq, by rw [← rs.length]; exact (setsD_len (show setsD is ds ρ = some ρ2 from e)).1, gNames_ok hr rs e k⟩
  | _ => cases e

/-! ### comprehensions -/
theorem LeW.strong {p : Addr} (n : H p = none) (l : LeW [p] H Z H1 Z1) : Le H Z H1 Z1 := ⟨fun a o e nz _ => l.keep a o e nz (by
  have := ne_of_none e n
  simpa using this), l.pre, l.there⟩
theorem LeW.strongc {p : Addr} (n : H p = none) (l : LeW [p] H Z H1 Z1) : Le H Z H1 (Z1 ++ [p]) := by
  refine ⟨fun a o e nz _ => ?_, ?_, l.there⟩
  · have hne := ne_of_none e n
    obtain ⟨h1, h2⟩ := l.keep a o e nz (by simpa using hne)
    refine ⟨h1, fun z => ?_⟩
    rcases List.mem_append.mp z with z | z
    · exact h2 z
    · exact hne (by simpa using z)
  · obtain ⟨Y, rfl⟩ := l.pre
    exact ⟨Y ++ [p], by simp⟩
theorem lc_up {ct : CT} {wi : WI} {wf : WT} {wel : WE} {own : List Nat} {ti : TI} {g : TG} {tf : TT} {te : TE} (hi : ∀ σ H R, upI K wi σ H R → ti σ H R) (hg : upG K ct g) (hsl : ∀ i ∈ ct.slots, i ∈ own)
    (hf : ∀ σ H R, upT K wf σ H R → tf σ H R) (he : ∀ σ H R, upE K wel σ H R → te σ H R) :
    ∀ σ H Q', upE K (fun ρ μ Q => wi ρ μ fun s μ1 => wLc ct wf wel own s ρ μ1 Q) σ H Q' → tLc ti g tf te own σ H Q' := by
  intro σ H Q' ⟨ρ, μ, Z, B, Q, hs, hw, fin⟩
  refine hi σ H _ ⟨ρ, μ, Z, B, _, hs, hw, fun s μ1 J H1 Z1 l1 hr1 ok sv hw1 => ?_⟩
  intro L hL
  obtain ⟨P, p0, pok, step, done⟩ := hw1
  have hB : (L :: B) = B ∨ ∃ p, H1 p = none ∧ L :: B = p :: B := .inr ⟨L, hL, rfl⟩
  have hs1 : Sta K ρ μ1 Z1 B σ H1 := hs.le l1 hr1
  have hLB : L ∉ B := (hr1.fresh hL).2
  have mo : ∀ x ∈ [L], x ∈ L :: B := fun x hx => by simp at hx; simp [hx]
  -- the state of the turn
  let G : Nat → Hp → Prop := fun i H' => ∃ (acc : List D) (vs : List V) (μ' : M) (Z' : List Addr), P i acc μ' ∧ H' L = some (.lst vs) ∧ RDs K H' Z' (L :: B) acc vs ∧ LeW [L] H1 Z1 H' Z' ∧ HRel K μ' Z' (L :: B) H'
  have l0 : Le H1 Z1 (upd H1 L (.lst [])) Z1 := Le.new hL
  refine ⟨fun i m H' => m = s.items.length - i ∧ i ≤ s.items.length ∧ G i H', ⟨s.items.length, by simp, Nat.zero_le _, [], [], μ1, Z1, p0, upd_same, .nil, l0.weak, hr1.lay hL⟩, ?_⟩
  rintro i m H' ⟨rfl, hi, acc, vs, μ', Z', p, eL, racc, l, hr⟩
  obtain ⟨sgo, syld, sstop⟩ := sv (L :: B) hB H' Z' μ' (l.mono mo) hr (pok i acc μ' p hi)
  have nzL : L ∉ Z' := fun z => hr.zb L z List.mem_cons_self
  by_cases hlt : i < s.items.length
  · refine .inr ⟨sgo i hlt, G (i + 1), fun H2 h2 => ⟨s.items.length - (i + 1), by omega, rfl, hlt, h2⟩, fun x H'' y => ?_⟩
    obtain ⟨ly, hr, rx⟩ := syld i x H'' _ y (List.getElem?_eq_getElem hlt)
    have eL := (ly.keep L _ eL nzL (by simp)).1
    have racc := racc.le ly
    have l := l.trans ly.weak
    obtain ⟨ρ2, eb, hw2⟩ := step i _ acc μ' (List.getElem?_eq_getElem hlt) p
    have hrr : RR K H'' Z' (L :: B) (wipeD ρ own) (L2.wipe σ own) := ((hs1.2.busy hL).mono (l.mono mo)).wipe own
    refine hg x (L2.wipe σ own) H'' _ _ (wipeD ρ own) ρ2 μ' Z' (L :: B) hrr rx eb fun σ2 rr2 dif => ⟨(dif.wipe hsl).trans wipe_wipe, ?_⟩
    refine hf σ2 H'' _ (upT_i (⟨hr, rr2⟩ : Sta K ρ2 μ' Z' (L :: B) σ2 H'') hw2 fun b μ2 H2 Z2 l2 hs2 q2 => ?_)
    cases b with
    | true =>
      rw [if_pos rfl] at q2 ⊢
      refine he σ2 H2 _ (upE_i hs2 q2 fun y μ3 v H3 Z3 l3 hs3 r3 q3 => ?_)
      have l23 := l2.trans l3
      have lw : LeW (L :: B) H3 Z3 (upd H3 L (.lst (vs ++ [v]))) Z3 := LeW.wr List.mem_cons_self
      have lw' : LeW [L] H3 Z3 (upd H3 L (.lst (vs ++ [v]))) Z3 := LeW.wr List.mem_cons_self
      have nz3 : L ∉ Z3 := fun z => hs3.1.zb L z List.mem_cons_self
      have racc3 : RDs K H3 Z3 (L :: B) acc vs := racc.le l23
      refine ⟨vs, (l23.keep L _ eL nzL (by simp)).1, by rw [← racc.length]; exact q3.1, acc ++ [y], vs ++ [v], μ3, Z3, q3.2, upd_same, RDs.mono lw (racc3.append (.cons r3 .nil)), l.trans (l23.weak.trans lw'), ?_⟩
      exact hs3.1.keep lw fun a za => upd_ne fun z => nz3 (z ▸ za)
    | false =>
      rw [if_neg Bool.false_ne_true] at q2 ⊢
      exact ⟨acc, vs, μ2, Z2, q2, (l2.keep L _ eL nzL (by simp)).1, racc.le l2, l.trans l2.weak, hs2.1⟩
  · have e : i = s.items.length := by omega
    subst e
    refine .inl ⟨sstop _ (Nat.le_refl _), ?_⟩
    obtain ⟨hlen, q⟩ := done acc μ' p
    rcases q with q | q
    · exact fin _ _ _ _ _ (l1.trans (l.strong hL)) hr.unlay (.lst eL nzL hLB racc.free) q
    · exact fin _ _ _ _ _ (l1.trans (l.strongc hL)) (hr.celled hLB (c := .lst acc) ⟨vs, eL, (RDs.mono LeW.cell racc).free⟩) (.cel (by rw [← hr.len]; simp)) q
end
end Rf

set_option Elab.async false
set_option linter.all false
set_option maxRecDepth 100000
/-! Rx6: more expressions: defs as values, slices with a step, sets sorted, dict comprehensions, reversed -/
namespace Rf
open PySem L2 PySem.Spec PyProof.Rows
variable {K : PySem.W.Frag} {H H1 H2 H' : Hp} {Z Z1 Z' B : List Addr} {μ μ' : M} {ρ ρ' : Rho} {σ : L2.St}
section
variable {X : Cx} {a : Expr} {wa : WE} {was : WA} {pos : Pos}
theorem lcm_ok : CallR X (.builtin "math.lcm") (upL X.K (opBlt .lcm)) := by
  intro pins s σ H xs us Q I r hw
  obtain ⟨ds, μ, Z, B, Q0, hr, rs, ho, fin⟩ := hw
  obtain ⟨i, j, rfl, q⟩ : ∃ i j, ds = [.int i, .int j] ∧ ((i.natAbs.log2 < 13000 ∧ j.natAbs.log2 < 13000) ∧ Q0 (.int ((Nat.lcm i.natAbs j.natAbs : Nat) : Int)) μ) := by
    match ds, ho with
    | [], h => exact h.elim
    | [d], h => cases d <;> simp [opBlt] at h
    | [d, e], h =>
      cases d with
      | int i =>
        cases e with
        | int j => exact ⟨i, j, rfl, h⟩
        | _ => simp [opBlt] at h
      | _ => cases e <;> simp [opBlt] at h
    | _ :: _ :: _ :: _, h => simp [opBlt] at h
  obtain ⟨v, w, rfl, r1, r2⟩ := rds2 rs
  cases r1
  cases r2
  exact cr_lcm pins s σ H _ us Q I r ⟨i, j, rfl, q.1, fin.here hr (.int _) q.2⟩
theorem ints_of1 {b : BI} {ds : List D} {μ : M} {Q : WQ} (hb : b = .sum ∨ b = .maxL ∨ b = .minL) (h : opBlt b ds μ Q) : ∃ d ys ns, ds = [d] ∧ asR μ d = some ys ∧ intsD ys = some ns ∧ (match b with
    | .sum => Q (.int ns.sum) μ
    | .maxL => 0 < ns.length ∧ ∀ m, m ∈ ns → (∀ y, y ∈ ns → y ≤ m) → Q (.int m) μ
    | _ => 0 < ns.length ∧ ∀ m, m ∈ ns → (∀ y, y ∈ ns → m ≤ y) → Q (.int m) μ) := by
  match ds, h with
  | [], h => rcases hb with rfl | rfl | rfl <;> exact h.elim
  | [d], h =>
    rcases hb with rfl | rfl | rfl <;> simp only [opBlt] at h <;> (
      cases e : asR μ d with
      | none => rw [e] at h; exact h.elim
      | some ys =>
        rw [e] at h
        cases e2 : intsD ys with
        | none => simp [e2] at h
        | some ns =>
          simp only [Option.bind_some, e2] at h
          exact ⟨d, ys, ns, rfl, e, e2, h⟩)
  | _ :: _ :: _, h => rcases hb with rfl | rfl | rfl <;> simp [opBlt] at h
theorem sum_ok (hc : X.calm = true) : CallR X (.builtin "sum") (upL X.K (opBlt .sum)) := by
  intro pins s σ H xs us Q I r hw
  obtain ⟨ds, μ, Z, B, Q0, hr, rs, ho, fin⟩ := hw
  obtain ⟨d, ys, ns, rfl, e1, e2, q⟩ := ints_of1 (.inl rfl) ho
  obtain ⟨v, rfl, rv⟩ := rds1 rs
  obtain ⟨a, vs, rfl, sq, rs'⟩ := asR_ok hr e1 rv
  have := intsD_ok e2 rs'
  subst this
  exact cr_sum hc pins s σ H _ us Q I r ⟨a, ns, rfl, sq, fin.here hr (.int _) q⟩
theorem maxL_ok (hc : X.calm = true) : CallR X (.builtin "max") (upL X.K (opBlt .maxL)) := by
  intro pins s σ H xs us Q I r hw
  obtain ⟨ds, μ, Z, B, Q0, hr, rs, ho, fin⟩ := hw
  obtain ⟨d, ys, ns, rfl, e1, e2, q⟩ := ints_of1 (.inr (.inl rfl)) ho
  obtain ⟨v, rfl, rv⟩ := rds1 rs
  obtain ⟨a, vs, rfl, sq, rs'⟩ := asR_ok hr e1 rv
  have := intsD_ok e2 rs'
  subst this
  exact cr_max hc pins s σ H _ us Q I r ⟨a, ns, rfl, sq, q.1, fun m h1 h2 => fin.here hr (.int _) (q.2 m h1 h2)⟩
theorem minL_ok (hc : X.calm = true) : CallR X (.builtin "min") (upL X.K (opBlt .minL)) := by
  intro pins s σ H xs us Q I r hw
  obtain ⟨ds, μ, Z, B, Q0, hr, rs, ho, fin⟩ := hw
  obtain ⟨d, ys, ns, rfl, e1, e2, q⟩ := ints_of1 (.inr (.inr rfl)) ho
  obtain ⟨v, rfl, rv⟩ := rds1 rs
  obtain ⟨a, vs, rfl, sq, rs'⟩ := asR_ok hr e1 rv
  have := intsD_ok e2 rs'
  subst this
  exact cr_min hc pins s σ H _ us Q I r ⟨a, ns, rfl, sq, q.1, fun m h1 h2 => fin.here hr (.int _) (q.2 m h1 h2)⟩
/-- a def of the module as a value -/
theorem e_fnv {f : Nat} {x : Str} {fa : Addr} (hg : Gl X x) (hm : X.mg x = some (.ref fa)) (hn : PySem.W.nsIn X.K mainGlobals x = some (some (.ref fa))) (hd : (x == ("__debug__" : Str)) = false) :
    PE X (.Name x pos) (upE X.K fun _ μ Q => Q (.fn f x) μ) :=
  e_con (pe_glob (v := .ref fa) hg hm rfl hd) fun _ _ _ => .fn hn
/-- a call of a local that holds one of some defs -/
theorem e_calv {i k : Nat} {x : Str} {p : Pos} {e : Expr} {es : List Expr} {fs : List (Nat × Str)} {Γ : Tab} (hN : X.N[i]? = some x) (hv : Vis X.env.scope x) (hd : (x == ("__debug__" : Str)) = false) (hcd : (x == ("__classdict__" : Str)) = false) (hr : Room k X.A)
    (hf : ∀ f y, fs.contains (f, y) = true → ∃ (a : Addr) (fd : FuncData) (ps : List Str), PySem.W.nsIn X.K mainGlobals y = some (some (.ref a)) ∧ PySem.W.keepIn X.K (.ref a) = true ∧ FnOk X.prog X.w X.K X.mg X.base CX0 k a fd ps (lift X.K (Γ f)) ∧ Binds X.K fd ps [])
    (hst : (e :: es).all notSt = true) (ha : PA X (e :: es) (upA X.K was)) :
    PE X (.Call (.Name x p) (e :: es) [] pos) (upE X.K fun ρ μ Q => match getV ρ i with | some (.fn f y) => fs.contains (f, y) = true ∧ was ρ μ fun ds μ1 => Γ f ds μ1 Q | _ => False) := by
  simp only [List.all_cons, Bool.and_eq_true] at hst
  refine ⟨fun pins s σ H Q' I ⟨ρ, μ, Z, B, Q, hs, h, fin⟩ => ?_⟩
  cases e1 : getV ρ i with
  | none => simp only [e1] at h
  | some d =>
    simp only [e1] at h
    cases d with
    | fn f y =>
      obtain ⟨hc, h⟩ := h
      obtain ⟨a, fd, ps, q1, q2, F, hb⟩ := hf f y hc
      unfold getV at e1
      split at e1
      · rename_i d' e'
        cases e1
        obtain ⟨v, h1, h2⟩ := hs.2.2 i _ e'
        cases h2 with
        | fn hn =>
          have ea := q1.symm.trans hn
          cases ea
          refine wpAny_Call_Name_kw (thn ((pe_var (pos := p) hN hv hd hcd).run pins s σ H (fun v H1 => v = .ref a ∧ H1 = H) I ⟨.ref a, h1, rfl, rfl⟩) fun u s1 ⟨v, H1, I1, r1, q1⟩ => ?_)
          obtain ⟨rfl, rfl⟩ := q1
          cases r1
          refine PySem.W.callWith_K (h₀ := X.base) I.ok.mod.kin q2 (thn (ha.run pos pins s1 σ _ _ I1 (upA_i (R := fun vs H1 => lift X.K (Γ f) vs H1 Q' E0) hs h fun ds μ1 vs H1 Z1 l1 hs1 r1 q => ⟨ds, μ1, Z1, B, Q, hs1.1, r1, q, fin.later l1⟩)) fun us s2 ⟨vs, H2, I2, r, q⟩ => ⟨I2.kIn, ?_⟩) (star_one hst.1) (star_any hst.2)
          exact run_fn F hr hb .nil pass0 I2 r (by rw [List.append_nil]; exact q)
      · cases e1
    | _ => exact h.elim
/-! ### slices with a step -/
theorem RDs.pick {ds : List D} {vs : List V} (r : RDs K H Z B ds vs) : ∀ ix : List Nat, RDs K H Z B (ix.filterMap (ds[·]?)) (ix.filterMap (vs[·]?))
  | [] => .nil
  | i :: ix => by
    rw [List.filterMap_cons, List.filterMap_cons]
    cases e : ds[i]? with
    | none =>
      have : vs[i]? = none := by
        rw [List.getElem?_eq_none_iff] at e ⊢
        rw [← r.length]
        exact e
      rw [this]
      exact r.pick ix
    | some d =>
      obtain ⟨v, e2, r2⟩ := r.get e
      rw [e2]
      exact .cons r2 (r.pick ix)
theorem vals_pick {vs : List V} {us : List Value} (r : Vals vs us) : ∀ ix : List Nat, Vals (ix.filterMap (vs[·]?)) (ix.filterMap (us[·]?))
  | [] => .nil
  | i :: ix => by
    rw [List.filterMap_cons, List.filterMap_cons]
    cases e : vs[i]? with
    | none =>
      rw [Vals.none_of r e]
      exact vals_pick r ix
    | some d =>
      obtain ⟨v, e2, r2⟩ := r.get e
      rw [e2]
      exact .cons r2 (vals_pick r ix)
theorem e_sls {lo : Option Expr} {st : Expr} {k : Int} {p3 : Pos} {wl : Rho → M → (Option Int → M → Prop) → Prop} (h0 : k ≠ 0) (ha : PE X a (upE X.K wa)) (hl : PO X lo (upO' X.K wl)) (hst : PO X (some st) (fun _ H Q => Q (some k) H)) :
    PE X (.Subscript a (.Slice lo none (some st) p3) pos) (upE X.K fun ρ μ Q => wa ρ μ fun x μ1 => wl ρ μ1 fun l μ2 => match asR μ2 x with
      | some xs => newL (pickD xs l (some k)) μ2 Q
      | none => False) := by
  refine ⟨fun pins s σ H Q' I ⟨ρ, μ, Z, B, Q, hs, h, fin⟩ => ?_⟩
  refine Subscript_ (thn (ha.run pins s σ H _ I (upE_i (R := fun v H1 => upO' X.K wl σ H1 fun l H2 => ∃ a xs, v = .ref a ∧ SqL X.K H2 a xs ∧ ∀ p, H2 p = none → Q' (.ref p) (upd H2 p (.lst ((sliceRange (sliceBounds l none (some k) xs.length).1 (sliceBounds l none (some k) xs.length).2.1 (sliceBounds l none (some k) xs.length).2.2).filterMap (xs[·]?))))) hs h fun x μ1 v H1 Z1 l1 hs1 r1 hw1 => upO_i hs1 hw1 fun l μ2 H2 Z2 l2 hs2 hw2 => ?_)) fun v s1 ⟨x, H1, I1, r1, q1⟩ => ?_)
  · cases e : asR μ2 x with
    | none => rw [e] at hw2; exact hw2.elim
    | some xs =>
      rw [e] at hw2
      obtain ⟨a, vs, rfl, sq, rs⟩ := asR_ok hs2.1 e (r1.le l2)
      refine ⟨a, vs, rfl, sq, fun p n => ?_⟩
      have hp := rs.pick (sliceRange (sliceBounds l none (some k) xs.length).1 (sliceBounds l none (some k) xs.length).2.1 (sliceBounds l none (some k) xs.length).2.2)
      rw [← rs.length]
      exact (newL_ok (fin.later (l1.trans l2)) hs2.1 hp hw2).2 p n
  refine wpAny_Slice (thn (hl.run pins s1 σ H1 _ I1 q1) fun vl s2 ⟨l, H2, I2, pl, q2⟩ => ?_)
  obtain ⟨a, xs, ex, hx, q⟩ := q2
  subst ex
  cases r1
  refine thn (po_none.run pins s2 σ H2 (fun o H3 => o = none ∧ H3 = H2) I2 ⟨rfl, rfl⟩) fun vu s3 ⟨u, H3, I3, pu, eu, e3⟩ => ?_
  subst eu e3
  refine thn (hst.run pins s3 σ H3 (fun o H4 => o = some k ∧ H4 = H3) I3 ⟨rfl, rfl⟩) fun vs s4 ⟨o, H4, I4, ps, eo, e4⟩ => ?_
  subst eo e4
  have I5 : Inv X pins σ H4 { s4 with heap := s4.heap.push { cls := .type "slice", data := .fields #[vl, vu, vs] } } := I4.kept (t' := s4.toks) fun b ob q => Heap.get?_push_of_some _ q
  obtain ⟨its, r, ht, hz⟩ := I5.list hx
  have hlen := r.length
  show wpAny (model X.prog X.w) X.A (subscriptTail _ (.Slice lo none (some st) p3) (.ref a) (.ref s4.heap.objs.size)) (EP X pins σ Q') X.xe { s4 with heap := s4.heap.push { cls := .type "slice", data := .fields #[vl, vu, vs] } }
  refine tail_any (ops := [.ref a, .ref s4.heap.objs.size]) ht.isList.typeIs (PySem.slot_list_getitem.lookup) ?_ (by with_unfolding_all rfl)
  refine wpAny_getItem_list_slice ht.isList (Heap.IsSliceOf.new _ vl vu vs) pl pu ps (by simpa using h0) ?_ (by rw [List.size_toArray]; omega)
  have ep : (slicePick its.toArray l none (some k)).toList = (sliceRange (sliceBounds l none (some k) xs.length).1 (sliceBounds l none (some k) xs.length).2.1 (sliceBounds l none (some k) xs.length).2.2).filterMap (its[·]?) := by
    unfold slicePick
    rw [List.size_toArray, ← hlen]
    simp
  have hp := vals_pick r (sliceRange (sliceBounds l none (some k) xs.length).1 (sliceBounds l none (some k) xs.length).2.1 (sliceBounds l none (some k) xs.length).2.2)
  rw [← ep] at hp
  have hsz : (slicePick its.toArray l none (some k)).size ≤ its.toArray.size := slicePick_size_le _ _ _ _
  refine ⟨.ref _, _, I5.laid (t' := s4.toks) (o := .lst ((sliceRange (sliceBounds l none (some k) xs.length).1 (sliceBounds l none (some k) xs.length).2.1 (sliceBounds l none (some k) xs.length).2.2).filterMap (xs[·]?))) (fun b ob q => Heap.get?_push_of_some _ q) (Nat.le_refl _) ?_, rfl, q _ (I5.hok.fresh (Nat.le_refl _))⟩
  refine ⟨?_, _, 0, hp, (Heap.get?_push_size _ rfl).trans (by simp [seqObj])⟩
  have e3 : (slicePick its.toArray l none (some k)).toList.length = (slicePick its.toArray l none (some k)).size := Array.length_toList
  have e4 := List.size_toArray (as := its)
  have e5 := hp.length
  omega
/-! ### sets sorted -/
theorem srt_fin {ns : List Int} {Q : WQ} {Q' : VK} {w : World} {p : Addr} {S : Int → Bool} {n : Nat} (fin : Fin K H Z B Q Q') (hr : HRel K μ Z B H) (h : srtS ns μ Q) (hS : ∀ k, S k = true ↔ k ∈ ns) (hp : H p = some (SetO w p S n)) : rSortedSX w [.ref p] H Q' :=
  ⟨p, S, n, rfl, hp, fun ms q h1 h2 _ hq => (newL_ok fin hr ints_rd (h ms h1 fun k => (h2 k).trans (hS k))).2 q hq⟩
theorem e_sset {e : Expr} {p1 p2 pos1 pos2 : Pos} (hc : X.calm = true) (hg1 : Gl X "sorted") (hm1 : X.mg "sorted" = none) (hg2 : Gl X "set") (hm2 : X.mg "set" = none) (hst : notSt e = true) (he : PE X e (upE X.K wa)) :
    PE X (.Call (.Name "sorted" p1) [.Call (.Name "set" p2) [e] [] pos2] [] pos1) (upE X.K fun ρ μ Q => wa ρ μ fun x μ1 => match (asR μ1 x).bind intsD with | some ns => ns.length < 4000 ∧ srtS ns μ1 Q | none => False) := by
  have h1 : PE X (.Call (.Name "set" p2) [e] [] pos2) _ := pe_callTy (cr_setLX hc) hg2 hm2 (by rfl) (pa_cons he pa_nil (star_one hst)) (by decide) (by decide) (star_one hst) (by first | rfl | (rw [star_one hst]; rfl))
  refine (pe_callB (cr_sortedSX hc) hg1 hm1 (by rfl) (pa_cons h1 pa_nil (star_one rfl)) (by decide) (by decide) (star_one rfl) rfl).imp fun σ H Q' ⟨ρ, μ, Z, B, Q, hs, h, fin⟩ => ?_
  refine upE_i hs h fun x μ1 v H1 Z1 l1 hs1 r1 q1 => ?_
  cases e1 : asR μ1 x with
  | none => rw [e1] at q1; exact q1.elim
  | some ys =>
    rw [e1] at q1
    cases e2 : intsD ys with
    | none => simp [e2] at q1
    | some ns =>
      simp only [Option.bind_some, e2] at q1
      obtain ⟨a, vs, rfl, sq, rs'⟩ := asR_ok hs1.1 e1 r1
      have := intsD_ok e2 rs'
      subst this
      refine ⟨a, ns, rfl, sq, by have := q1.1; show ns.length + 1 < 4096; omega, fun p n hp => ?_⟩
      exact srt_fin (Fin.later fin (l1.trans (Le.new hp))) (hs1.1.new hp) q1.2 (fun k => by simp) upd_same
theorem sc_up {ct : CT} {wi : WI} {wf : WT} {wel : WE} {own : List Nat} {ti : TI} {g : TG} {tf : TT} {te : TE} {w : World} (hi : ∀ σ H R, upI K wi σ H R → ti σ H R) (hg : upG K ct g) (hsl : ∀ i ∈ ct.slots, i ∈ own)
    (hf : ∀ σ H R, upT K wf σ H R → tf σ H R) (he : ∀ σ H R, upE K wel σ H R → te σ H R) :
    ∀ σ H Q', upE K (fun ρ μ Q => wi ρ μ fun s μ1 => wSc ct wf wel own s ρ μ1 Q) σ H Q' → tSc w ti g tf te own σ H fun v H1 => rSortedSX w [v] H1 Q' := by
  intro σ H Q' ⟨ρ, μ, Z, B, Q, hs, hw, fin⟩
  refine hi σ H _ ⟨ρ, μ, Z, B, _, hs, hw, fun s μ1 J H1 Z1 l1 hr1 ok sv hw1 => ?_⟩
  intro L hL
  obtain ⟨P, p0, pok, step, done⟩ := hw1
  have hB : (L :: B) = B ∨ ∃ p, H1 p = none ∧ L :: B = p :: B := .inr ⟨L, hL, rfl⟩
  have hs1 : Sta K ρ μ1 Z1 B σ H1 := hs.le l1 hr1
  have hLB : L ∉ B := (hr1.fresh hL).2
  have mo : ∀ x ∈ [L], x ∈ L :: B := fun x hx => by simp at hx; simp [hx]
  let G : Nat → Hp → Prop := fun i H' => ∃ (acc : List Int) (n : Nat) (μ' : M) (Z' : List Addr), P i acc μ' ∧ n ≤ acc.length ∧ H' L = some (SetO w L (fun j => decide (j ∈ acc)) n) ∧ LeW [L] H1 Z1 H' Z' ∧ HRel K μ' Z' (L :: B) H'
  have l0 : Le H1 Z1 (upd H1 L (SetO w L (fun _ => false) 0)) Z1 := Le.new hL
  refine ⟨fun i m H' => m = s.items.length - i ∧ i ≤ s.items.length ∧ G i H', ⟨s.items.length, by simp, Nat.zero_le _, [], 0, μ1, Z1, p0, Nat.le_refl _, by rw [upd_same]; simp, l0.weak, hr1.lay hL⟩, ?_⟩
  rintro i m H' ⟨rfl, hi, acc, n, μ', Z', p, hn, eL, l, hr⟩
  obtain ⟨sgo, syld, sstop⟩ := sv (L :: B) hB H' Z' μ' (l.mono mo) hr (pok i acc μ' p hi)
  have nzL : L ∉ Z' := fun z => hr.zb L z List.mem_cons_self
  by_cases hlt : i < s.items.length
  · refine .inr ⟨sgo i hlt, G (i + 1), fun H2 h2 => ⟨s.items.length - (i + 1), by omega, rfl, hlt, h2⟩, fun x H'' y => ?_⟩
    obtain ⟨ly, hr, rx⟩ := syld i x H'' _ y (List.getElem?_eq_getElem hlt)
    have eL := (ly.keep L _ eL nzL (by simp)).1
    have l := l.trans ly.weak
    obtain ⟨ρ2, eb, hw2⟩ := step i _ acc μ' (List.getElem?_eq_getElem hlt) p
    have hrr : RR K H'' Z' (L :: B) (wipeD ρ own) (L2.wipe σ own) := ((hs1.2.busy hL).mono (l.mono mo)).wipe own
    refine hg x (L2.wipe σ own) H'' _ _ (wipeD ρ own) ρ2 μ' Z' (L :: B) hrr rx eb fun σ2 rr2 dif => ⟨(dif.wipe hsl).trans wipe_wipe, ?_⟩
    refine hf σ2 H'' _ (upT_i (⟨hr, rr2⟩ : Sta K ρ2 μ' Z' (L :: B) σ2 H'') hw2 fun b μ2 H2 Z2 l2 hs2 q2 => ?_)
    cases b with
    | true =>
      rw [if_pos rfl] at q2 ⊢
      refine he σ2 H2 _ (upE_i hs2 q2 fun y μ3 v H3 Z3 l3 hs3 r3 q3 => ?_)
      have l23 := l2.trans l3
      cases y with
      | int k =>
        cases r3
        have eL3 := (l23.keep L _ eL nzL (by simp)).1
        have nz3 : L ∉ Z3 := fun z => hs3.1.zb L z List.mem_cons_self
        generalize ho : SetO w L (fun j => decide (j ∈ acc) || decide (j = k)) (if decide (k ∈ acc) = true then n else n + 1) = o
        have lw : LeW (L :: B) H3 Z3 (upd H3 L o) Z3 := LeW.wr List.mem_cons_self
        have lw' : LeW [L] H3 Z3 (upd H3 L o) Z3 := LeW.wr List.mem_cons_self
        have hlen : n + 1 < scanBound := by
          have := q3.1
          show n + 1 < 4096
          omega
        refine ⟨k, _, n, rfl, eL3, hlen, ?_⟩
        rw [ho]
        refine ⟨acc ++ [k], (if decide (k ∈ acc) = true then n else n + 1), μ3, Z3, q3.2, ?_, ?_, l.trans (l23.weak.trans lw'), hs3.1.keep lw fun a za => upd_ne fun z => nz3 (z ▸ za)⟩
        · rw [List.length_append, List.length_singleton]; split <;> omega
        · rw [upd_same, ← ho]
          congr 2
          funext j
          simp
      | _ => exact q3.elim
    | false =>
      rw [if_neg Bool.false_ne_true] at q2 ⊢
      exact ⟨acc, n, μ2, Z2, q2, hn, (l2.keep L _ eL nzL (by simp)).1, l.trans l2.weak, hs2.1⟩
  · have e : i = s.items.length := by omega
    subst e
    refine .inl ⟨sstop _ (Nat.le_refl _), ?_⟩
    exact srt_fin (fin.later (l1.trans (l.strong hL))) hr.unlay (done acc μ' p) (fun k => by simp) eL
theorem dc_up {ct : CT} {wi : WI} {wf : WT} {wk wv : WE} {own : List Nat} {ti : TI} {g : TG} {tf : TT} {tk tv : TE} (hi : ∀ σ H R, upI K wi σ H R → ti σ H R) (hg : upG K ct g) (hsl : ∀ i ∈ ct.slots, i ∈ own)
    (hf : ∀ σ H R, upT K wf σ H R → tf σ H R) (hk : ∀ σ H R, upE K wk σ H R → tk σ H R) (he : ∀ σ H R, upE K wv σ H R → tv σ H R) :
    ∀ σ H Q', upE K (fun ρ μ Q => wi ρ μ fun s μ1 => wDc ct wf wk wv own s ρ μ1 Q) σ H Q' → tDc ti g tf tk tv own σ H Q' := by
  intro σ H Q' ⟨ρ, μ, Z, B, Q, hs, hw, fin⟩
  refine hi σ H _ ⟨ρ, μ, Z, B, _, hs, hw, fun s μ1 J H1 Z1 l1 hr1 ok sv hw1 => ?_⟩
  intro L hL
  obtain ⟨P, p0, pok, step, done⟩ := hw1
  have hB : (L :: B) = B ∨ ∃ p, H1 p = none ∧ L :: B = p :: B := .inr ⟨L, hL, rfl⟩
  have hs1 : Sta K ρ μ1 Z1 B σ H1 := hs.le l1 hr1
  have hLB : L ∉ B := (hr1.fresh hL).2
  have mo : ∀ x ∈ [L], x ∈ L :: B := fun x hx => by simp at hx; simp [hx]
  let G : Nat → Hp → Prop := fun i H' => ∃ (acc : List (Key × D)) (vs : List (Key × V)) (μ' : M) (Z' : List Addr), P i acc μ' ∧ H' L = some (.dK vs) ∧ RKs K H' Z' (L :: B) acc vs ∧ LeW [L] H1 Z1 H' Z' ∧ HRel K μ' Z' (L :: B) H'
  have l0 : Le H1 Z1 (upd H1 L (.dK [])) Z1 := Le.new hL
  refine ⟨fun i m H' => m = s.items.length - i ∧ i ≤ s.items.length ∧ G i H', ⟨s.items.length, by simp, Nat.zero_le _, [], [], μ1, Z1, p0, upd_same, .nil, l0.weak, hr1.lay hL⟩, ?_⟩
  rintro i m H' ⟨rfl, hi, acc, vs, μ', Z', p, eL, racc, l, hr⟩
  obtain ⟨sgo, syld, sstop⟩ := sv (L :: B) hB H' Z' μ' (l.mono mo) hr (pok i acc μ' p hi)
  have nzL : L ∉ Z' := fun z => hr.zb L z List.mem_cons_self
  by_cases hlt : i < s.items.length
  · refine .inr ⟨sgo i hlt, G (i + 1), fun H2 h2 => ⟨s.items.length - (i + 1), by omega, rfl, hlt, h2⟩, fun x H'' y => ?_⟩
    obtain ⟨ly, hr, rx⟩ := syld i x H'' _ y (List.getElem?_eq_getElem hlt)
    have eL := (ly.keep L _ eL nzL (by simp)).1
    have racc := RKs.mono ly.weak racc
    have l := l.trans ly.weak
    obtain ⟨ρ2, eb, hw2⟩ := step i _ acc μ' (List.getElem?_eq_getElem hlt) p
    have hrr : RR K H'' Z' (L :: B) (wipeD ρ own) (L2.wipe σ own) := ((hs1.2.busy hL).mono (l.mono mo)).wipe own
    refine hg x (L2.wipe σ own) H'' _ _ (wipeD ρ own) ρ2 μ' Z' (L :: B) hrr rx eb fun σ2 rr2 dif => ⟨(dif.wipe hsl).trans wipe_wipe, ?_⟩
    refine hf σ2 H'' _ (upT_i (⟨hr, rr2⟩ : Sta K ρ2 μ' Z' (L :: B) σ2 H'') hw2 fun b μ2 H2 Z2 l2 hs2 q2 => ?_)
    cases b with
    | true =>
      rw [if_pos rfl] at q2 ⊢
      refine hk σ2 H2 _ (upE_i hs2 q2 fun y μ3 u H3 Z3 l3 hs3 r3 q3 => he σ2 H3 _ (upE_i hs3 q3 fun z μ4 v H4 Z4 l4 hs4 r4 q4 => ?_))
      have l24 := (l2.trans l3).trans l4
      cases ek : keyD y with
      | none => rw [ek] at q4; exact q4.elim
      | some kk =>
        rw [ek] at q4
        have ev := keyD_rel ek r3
        have lw : LeW (L :: B) H4 Z4 (upd H4 L (.dK (putK vs kk v))) Z4 := LeW.wr List.mem_cons_self
        have lw' : LeW [L] H4 Z4 (upd H4 L (.dK (putK vs kk v))) Z4 := LeW.wr List.mem_cons_self
        have nz4 : L ∉ Z4 := fun z => hs4.1.zb L z List.mem_cons_self
        have racc4 : RKs K H4 Z4 (L :: B) acc vs := RKs.mono l24.weak racc
        refine ⟨vs, kk, ev, (l24.keep L _ eL nzL (by simp)).1, by rw [← racc4.length]; exact q4.1, dput acc kk z, putK vs kk v, μ4, Z4, q4.2, upd_same, RKs.mono lw (racc4.put r4), l.trans (l24.weak.trans lw'), ?_⟩
        exact hs4.1.keep lw fun a za => upd_ne fun z => nz4 (z ▸ za)
    | false =>
      rw [if_neg Bool.false_ne_true] at q2 ⊢
      exact ⟨acc, vs, μ2, Z2, q2, (l2.keep L _ eL nzL (by simp)).1, RKs.mono l2.weak racc, l.trans l2.weak, hs2.1⟩
  · have e : i = s.items.length := by omega
    subst e
    refine .inl ⟨sstop _ (Nat.le_refl _), ?_⟩
    exact fin _ _ _ _ _ (l1.trans (l.strongc hL)) (hr.celled hLB (c := .dK acc) ⟨vs, eL, RKs.free (RKs.mono LeW.cell racc)⟩) (.cel (by rw [← hr.len]; simp)) (done acc μ' p)
/-! ### reversed -/
theorem serves_rev {a : Addr} {s : Src} {n : Nat} (hn : s.items.length = n) (h : ∀ (Bx : List Addr), (Bx = B ∨ ∃ p, H p = none ∧ Bx = p :: B) → ∀ (H' : Hp) (Z' : List Addr) (μ' : M), LeW Bx H Z H' Z' → HRel K μ' Z' Bx H' → s.ok μ' → ∃ vs, SqL K H' a vs ∧ RDs K H' Z' Bx s.items vs) : Serves K (Itv K a n) ⟨s.at_, s.items.reverse⟩ H Z B := by
  intro Bx hB H' Z' μ' l hr ok
  obtain ⟨vs, sq, rs⟩ := h Bx hB H' Z' μ' l hr ok
  have hl := rs.length
  have hv : ∀ i, i < n → ∃ v d, vs[n - 1 - i]? = some v ∧ s.items[n - 1 - i]? = some d ∧ s.items.reverse[i]? = some d ∧ RD K H' Z' Bx d v := by
    intro i hi
    have h1 : n - 1 - i < s.items.length := by omega
    obtain ⟨v, e, r⟩ := rs.get (List.getElem?_eq_getElem h1)
    refine ⟨v, _, e, List.getElem?_eq_getElem h1, ?_, r⟩
    rw [List.getElem?_reverse (by omega), hn, List.getElem?_eq_getElem h1]
  refine ⟨fun i hi => ?_, fun i v H'' d y e => ?_, fun i hi => ?_⟩
  · have hi : i < n := by simpa [hn] using hi
    obtain ⟨v, d, e1, _⟩ := hv i hi
    exact ⟨hi, vs, v, sq, e1⟩
  · obtain ⟨e1, e2⟩ := y
    subst e1
    have hi : i < n := by
      have := (List.getElem?_eq_some_iff.mp e).1
      simpa [hn] using this
    obtain ⟨w, d', e3, e4, e5, r⟩ := hv i hi
    have e : s.items.reverse[i]? = some d := e
    rw [e5] at e
    cases e
    have := e2 vs sq
    rw [e3] at this
    cases this
    exact ⟨LeW.refl, hr, r⟩
  · have : n ≤ i := by simpa [hn] using hi
    exact this
theorem src_list {d : D} {s : Src} {v : V} (hr : HRel K μ Z B H) (ht : ∀ xs, d ≠ .tup xs) (e : srcOf μ d = some s) (r : RD K H Z B d v) : s.ok μ ∧ ∃ a vs, v = .ref a ∧ SqL K H a vs ∧ s.items.length = vs.length ∧
    ∀ (Bx : List Addr), (Bx = B ∨ ∃ p, H p = none ∧ Bx = p :: B) → ∀ (H' : Hp) (Z' : List Addr) (μ' : M), LeW Bx H Z H' Z' → HRel K μ' Z' Bx H' → s.ok μ' → ∃ vs, SqL K H' a vs ∧ RDs K H' Z' Bx s.items vs := by
  cases d with
  | cel n =>
    simp only [srcOf] at e
    split at e
    · rename_i xs q
      cases e
      refine ⟨fun m ys em => by cases em; exact q, ?_⟩
      obtain ⟨a, rfl, ea, vs, h1, rs⟩ := hr.at_ q r
      refine ⟨a, vs, rfl, .of h1, rs.length, fun Bx hB H' Z' μ' l hr' ok => ?_⟩
      have q' := ok n _ rfl
      obtain ⟨a', ea', vs', h1', rs'⟩ := hr'.cel n _ q'
      rw [l.at_ ea] at ea'
      cases ea'
      exact ⟨vs', .of h1', rs'⟩
    · cases e
  | tup xs => exact absurd rfl (ht xs)
  | lst xs =>
    cases e
    refine ⟨fun m ys em => (by cases em), ?_⟩
    cases r with
    | lst f n b rs => exact ⟨_, _, rfl, .of f, rs.length, fun Bx hB H' Z' μ' l hr' ok => ⟨_, .of (l.keep _ _ f n (nbx hB f b)).1, RDs.mono l (rds_bx hB rs)⟩⟩
  | scr xs =>
    cases e
    refine ⟨fun m ys em => (by cases em), ?_⟩
    cases r with
    | scr f rs => exact ⟨_, _, rfl, f.sq, rs.length, fun Bx hB H' Z' μ' l hr' ok => ⟨_, (FzS.mono l (fzs_bx hB f)).sq, RDs.mono l (rds_bx hB rs)⟩⟩
  | _ => cases e
theorem i_rv {tg e : Expr} {we : WE} {p pos : Pos} (hg : Gl X "reversed") (hm : X.mg "reversed" = none) (hst : notSt e = true) (ha : PE X e (upE X.K we)) : PI X tg (.Call (.Name "reversed" p) [e] [] pos) (upI X.K fun ρ μ Q => we ρ μ fun d μ1 => match d with
    | .tup _ => False
    | d => match srcOf μ1 d with
      | some s => Q ⟨s.at_, s.items.reverse⟩ μ1
      | none => False) :=
  (pi_reversed hg hm (pa_cons ha pa_nil (star_one hst)) (star_one hst)).imp fun σ H R ⟨ρ, μ, Z, B, Q, hs, h, fin⟩ => upE_i hs h fun d μ1 v H1 Z1 l1 hs1 r1 q1 => by
    have go : ∀ {d : D}, (∀ xs, d ≠ .tup xs) → RD X.K H1 Z1 B d v → (match srcOf μ1 d with | some s => Q ⟨s.at_, s.items.reverse⟩ μ1 | none => False) → ∃ (a : Addr) (xs : List V), [v] = [.ref a] ∧ SqL X.K H1 a xs ∧ R (Itv X.K a xs.length) H1 := by
      intro d ht r1 q1
      cases es : srcOf μ1 d with
      | none => rw [es] at q1; exact q1.elim
      | some s =>
        rw [es] at q1
        obtain ⟨ok, a, vs, rfl, sq, hl, sv⟩ := src_list hs1.1 ht es r1
        exact ⟨a, vs, rfl, sq, fin ⟨s.at_, s.items.reverse⟩ μ1 _ H1 Z1 l1 hs1.1 ok (serves_rev hl sv) q1⟩
    cases d with
    | tup xs => exact q1.elim
    | _ => exact go (fun xs z => by cases z) r1 q1
end
end Rf

set_option Elab.async false
set_option linter.all false
set_option maxRecDepth 100000
/-! Rf7: a text against the core language: a look that decides, and that what passes it is so -/
namespace Rf
open PySem L2 PySem.Spec PyProof.Rows

structure SC where
  N : List Str
  sc : Scope
  blk : Option Scope
  FN : List Str
  KW : List (Nat × Nat × List Str × List Nat)
  BN : List Str
  GC : Bool
  GD : Bool
  LC : Bool := false
  GL : List (Str × D) := []
def SC.inBlk (S : SC) (scope : Scope) : SC := { S with sc := relS scope S.sc, blk := some scope }
def visB (sc : Scope) (x : Str) : Bool := match sc.names.lookup x with
  | some .local => true
  | some .cell => true
  | some .free => true
  | _ => false
def locB (sc : Scope) (x : Str) : Bool := match sc.names.lookup x with
  | some .local => true
  | some .cell => true
  | _ => false
def gloB (sc : Scope) (x : Str) : Bool := match sc.names.lookup x with
  | some .globalImplicit => true
  | _ => false
def isLocB (sc : Scope) (x : Str) : Bool := match sc.names.lookup x with
  | some .local => true
  | _ => false
def SC.fnB (S : SC) (x : Str) : Bool := match S.blk with
  | none => true
  | some scope => (match scope.names.lookup x with | some .cell => true | _ => false) || isLocB S.sc x
def biName : BI → Str
  | .len => "len" | .abs => "abs" | .int => "int" | .isi => "isinstance" | .all => "all" | .any => "any" | .tuple => "tuple" | .list => "list" | .gcd => "gcd" | .max2 => "max" | .min2 => "min" | .str => "str" | .sorted => "sorted" | .repr => "repr" | .lcm => "lcm" | .sum => "sum" | .maxL => "max" | .minL => "min"
def tyL : List String := ["int", "bool", "str", "tuple", "list", "dict"]
def miName : MI → Str
  | .append => "append" | .extend => "extend" | .pop => "pop" | .join => "join"
def miArity : MI → Nat
  | .append => 1 | .extend => 1 | .pop => 0 | .join => 1
def cstB : D → Const → Bool
  | .non, .none => true
  | .bl a, .bool b => a == b
  | .int a, .int b => a == b
  | .str a, .str b => a == b
  | _, _ => false
def okName (x : Str) : Bool := !(x == ("__debug__" : Str)) && !(x == ("__classdict__" : Str))
def notSet : Expr → Bool
  | .Set .. => false
  | _ => true
def ownOf (S : SC) (own : List Nat) : List (Str × Nat) := own.map fun j => (S.N.getD j Str.empty, j)
def chkT (S : SC) : CT → Expr → Bool
  | .nm i, .Name x _ => S.N[i]? == some x && locB S.sc x && S.fnB x
  | .tp is, .Tuple es _ _ => is.length == es.length && (is.zip es).all fun p => match p.2 with
    | .Name x _ => S.N[p.1]? == some x && locB S.sc x && S.fnB x
    | _ => false
  | _, _ => false
mutual
def dEq : D → D → Bool
  | .non, .non => true
  | .bl a, .bl b => a == b
  | .int a, .int b => a == b
  | .str a, .str b => a == b
  | .tup xs, .tup ys => dEqs xs ys
  | _, _ => false
def dEqs : List D → List D → Bool
  | [], [] => true
  | x :: xs, y :: ys => dEq x y && dEqs xs ys
  | _, _ => false
end
mutual
theorem dEq_ok : ∀ {a b : D}, dEq a b = true → a = b
  | .non, .non, _ => rfl
  | .bl a, .bl b, h => by simp only [dEq, beq_iff_eq] at h; rw [h]
  | .int a, .int b, h => by simp only [dEq, beq_iff_eq] at h; rw [h]
  | .str a, .str b, h => by simp only [dEq, beq_iff_eq] at h; rw [h]
  | .tup xs, .tup ys, h => by simp only [dEq] at h; rw [dEqs_ok h]
theorem dEqs_ok : ∀ {a b : List D}, dEqs a b = true → a = b
  | [], [], _ => rfl
  | x :: xs, y :: ys, h => by simp only [dEqs, Bool.and_eq_true] at h; rw [dEq_ok h.1, dEqs_ok h.2]
end
def stepB (st : Int) : Expr → Bool
  | .Constant (.int k) _ _ => st == k
  | .UnaryOp .USub (.Constant (.int k) _ _) _ => st == -k
  | _ => false
mutual
def chkE : CE → SC → Expr → Bool
  | .var i => fun S e => match e with
    | .Name x _ => S.N[i]? == some x && visB S.sc x && okName x
    | _ => false
  | .cst d => fun _ e => match e with
    | .Constant c _ _ => cstB d c
    | _ => false
  | .typ n => fun S e => match e with
    | .Name x _ => x == Str.ofString n && tyL.contains n && S.BN.contains x && gloB S.sc x
    | _ => false
  | .bin op a b => fun S e => match e with
    | .BinOp x op' y _ => op == op' && chkE a S x && chkE b S y
    | _ => false
  | .neg a => fun S e => match e with
    | .UnaryOp .USub x _ => chkE a S x
    | _ => false
  | .not a => fun S e => match e with
    | .UnaryOp .Not x _ => chkE a S x
    | _ => false
  | .cmp op a b => fun S e => match e with
    | .Compare x [op'] [y] _ => op == op' && !behindInMarks op y && chkE a S x && chkE b S y
    | _ => false
  | .chn o p a b c => fun S e => match e with
    | .Compare x [o', p'] [y, z] _ => o == o' && p == p' && !lastMarks [o, p] [y, z] && chkE a S x && chkE b S y && chkE c S z
    | _ => false
  | .and a b => fun S e => match e with
    | .BoolOp .And [x, y] _ => chkE a S x && chkE b S y
    | .BoolOp .And (x :: y :: z :: r) pos => chkE a S x && chkE b S (.BoolOp .And (y :: z :: r) pos)
    | _ => false
  | .or a b => fun S e => match e with
    | .BoolOp .Or [x, y] _ => chkE a S x && chkE b S y
    | .BoolOp .Or (x :: y :: z :: r) pos => chkE a S x && chkE b S (.BoolOp .Or (y :: z :: r) pos)
    | _ => false
  | .ife c a b => fun S e => match e with
    | .IfExp t x y _ => chkE c S t && chkE a S x && chkE b S y
    | _ => false
  | .tup es => fun S e => match e with
    | .Tuple xs _ _ => chkEs es S xs
    | _ => false
  | .lst es => fun S e => match e with
    | .List xs _ => chkEs es S xs
    | _ => false
  | .dct ps => fun S e => match e with
    | .Dict ks vs _ => chkPs ps S ks vs && !ks.isEmpty && decide (ks.length ≤ 15)
    | _ => false
  | .idx a b => fun S e => match e with
    | .Subscript x y _ => chkE a S x && chkE b S y
    | _ => false
  | .slc a lo hi => fun S e => match e with
    | .Subscript x (.Slice l h none _) _ => chkE a S x && chkO lo S l && chkO hi S h
    | _ => false
  | .cal f es => fun S e => match e with
    | .Call (.Name x _) args [] _ => S.FN[f]? == some x && gloB S.sc x && okName x && chkEs es S args
    | _ => false
  | .cak f es ks kes perm n => fun S e => match e with
    | .Call (.Name x _) args kws _ => S.FN[f]? == some x && gloB S.sc x && okName x && chkEs es S args && !kws.isEmpty && kws.all (fun k => k.arg.isSome) && kws.filterMap (·.arg) == ks && S.KW.contains (f, n, ks, perm) &&
      chkEs kes S (kws.map (·.value))
    | _ => false
  | .gl x d => fun S e => match e with
    | .Name y _ => x == y && gloB S.sc x && okName x && S.GL.any fun p => p.1 == x && dEq d p.2
    | _ => false
  | .fnv f x => fun S e => match e with
    | .Name y _ => x == y && S.FN[f]? == some x && gloB S.sc x && okName x
    | _ => false
  | .calv i es fs => fun S e => match e with
    | .Call (.Name x _) args [] _ => S.N[i]? == some x && visB S.sc x && okName x && fs.all (fun p => S.FN[p.1]? == some p.2) && chkEs es S args && !args.isEmpty
    | _ => false
  | .sls a lo st => fun S e => match e with
    | .Subscript x (.Slice l none (some se) _) _ => stepB st se && st != 0 && chkE a S x && chkO lo S l
    | _ => false
  | .dc tg it ifs k v own => fun S e => match e with
    | .DictComp k' v' [⟨tg', it', ifs', 0⟩] scope _ => blkC S.N S.sc scope (ownOf S own) && tg.slots.all (own.contains ·) && notSet it' && chkI it S tg' it' && chkT (S.inBlk scope) tg tg' && chkF ifs (S.inBlk scope) ifs' && chkE k (S.inBlk scope) k' && chkE v (S.inBlk scope) v'
    | _ => false
  | .ssc tg it ifs elt own => fun S e => match e with
    | .Call (.Name x _) [.SetComp elt' [⟨tg', it', ifs', 0⟩] scope _] [] _ => x == ("sorted" : Str) && S.BN.contains x && gloB S.sc x && blkC S.N S.sc scope (ownOf S own) && tg.slots.all (own.contains ·) && notSet it' && chkI it S tg' it' && chkT (S.inBlk scope) tg tg' && chkF ifs (S.inBlk scope) ifs' && chkE elt (S.inBlk scope) elt'
    | _ => false
  | .sset a => fun S e => match e with
    | .Call (.Name x _) [.Call (.Name y _) [z] [] _] [] _ => x == ("sorted" : Str) && S.BN.contains x && gloB S.sc x && y == ("set" : Str) && S.BN.contains y && gloB S.sc y && chkE a S z
    | _ => false
  | .blt b es => fun S e => match e with
    | .Call (.Name x _) args [] _ => x == biName b && gloB S.sc x && (match b with | .gcd => S.GC | .lcm => S.LC | .repr => S.GD && S.BN.contains x | _ => S.BN.contains x) && chkEs es S args && !args.isEmpty
    | _ => false
  | .mth m o es => fun S e => match e with
    | .Call (.Attribute x name apos) args [] cpos => name == miName m && apos.endLine == cpos.line && notCall x && args.length == miArity m && chkE o S x && chkEs es S args
    | _ => false
  | .fmt a => fun S e => match e with
    | .FormattedValue x (-1) none _ => chkE a S x
    | .JoinedStr [.FormattedValue x (-1) none _] _ => chkE a S x
    | _ => false
  | .fst es => fun S e => match e with
    | .JoinedStr xs _ => decide (2 ≤ xs.length) && chkEs es S xs
    | _ => false
  | .lc tg it ifs elt own => fun S e => match e with
    | .ListComp elt' [⟨tg', it', ifs', 0⟩] scope _ => blkC S.N S.sc scope (ownOf S own) && tg.slots.all (own.contains ·) && notSet it' && chkI it S tg' it' && chkT (S.inBlk scope) tg tg' && chkF ifs (S.inBlk scope) ifs' && chkE elt (S.inBlk scope) elt'
    | _ => false
def chkEs : CEs → SC → List Expr → Bool
  | .nil => fun _ es => es.isEmpty
  | .cons c r => fun S es => match es with
    | e :: es => chkE c S e && chkEs r S es
    | [] => false
def chkPs : CPs → SC → List (Option Expr) → List Expr → Bool
  | .nil => fun _ ks vs => ks.isEmpty && vs.isEmpty
  | .cons k v r => fun S ks vs => match ks, vs with
    | some a :: ks, b :: vs => chkE k S a && chkE v S b && chkPs r S ks vs
    | _, _ => false
def chkO : CEs → SC → Option Expr → Bool
  | .nil => fun _ o => o.isNone
  | .cons c r => fun S o => match o with
    | some e => chkE c S e && (match r with | .nil => true | _ => false)
    | none => false
def chkF : CEs → SC → List Expr → Bool
  | .nil => fun _ es => es.isEmpty
  | .cons c r => fun S es => match es with
    | [e] => chkE c S e && (match r with | .nil => true | _ => false)
    | _ => false
def chkI : CI → SC → Expr → Expr → Bool
  | .sq c => fun S _ e => chkE c S e
  | .r1 a => fun S _ e => match e with
    | .Call (.Name x _) [y] [] _ => x == ("range" : Str) && S.BN.contains x && gloB S.sc x && chkE a S y
    | _ => false
  | .r2 a b => fun S _ e => match e with
    | .Call (.Name x _) [y, z] [] _ => x == ("range" : Str) && S.BN.contains x && gloB S.sc x && chkE a S y && chkE b S z
    | _ => false
  | .zp a b => fun S tg e => match e with
    | .Call (.Name x _) [y, z] [] _ => x == ("zip" : Str) && S.BN.contains x && gloB S.sc x && (match tg with | .Tuple .. => true | _ => false) && chkE a S y && chkE b S z
    | _ => false
  | .rv a => fun S _ e => match e with
    | .Call (.Name x _) [y] [] _ => x == ("reversed" : Str) && S.BN.contains x && gloB S.sc x && chkE a S y
    | _ => false
end

/-! ### the context -/
structure FnAt (X : Cx) (Γ : Tab) (k : Nat) (KW : List (Nat × Nat × List Str × List Nat)) (f : Nat) (x : Str) : Prop where
  ex : ∃ (a : Addr) (fd : FuncData) (ps : List Str), X.mg x = some (.ref a) ∧ PySem.W.keepIn X.K (.ref a) = true ∧ FnOk X.prog X.w X.K X.mg X.base CX0 k a fd ps (lift X.K (Γ f)) ∧ Binds X.K fd ps [] ∧
    (∀ n ks perm, (f, n, ks, perm) ∈ KW → KBinds X.K fd ps ks (permU perm n ks.length) (permV perm n ks.length)) ∧ PySem.W.nsIn X.K mainGlobals x = some (some (.ref a))
structure Ctx (X : Cx) (S : SC) (Γ : Tab) (k : Nat) : Prop where
  N : X.N = S.N
  nd : S.N.Nodup
  sc : X.env.scope = S.sc
  calm : X.calm = true
  room : Room k X.A
  xe : X.xe = fun _ _ => False
  bn : ∀ n ∈ S.BN, X.mg n = none
  gc : S.GC = true → X.mg "gcd" = some (.builtin "math.gcd")
  gd : S.GD = true → X.A.guards = some []
  lc : S.LC = true → X.mg "lcm" = some (.builtin "math.lcm")
  gl : ∀ p ∈ S.GL, ∃ (v : V) (u : Value), X.mg p.1 = some u ∧ RelV v u ∧ ∀ H Z B, RD X.K H Z B p.2 v
  fn : ∀ x, S.fnB x = true → X.fn x = true ∨ X.env.scope.names.lookup x = some .local
  fs : ∀ f x, S.FN[f]? = some x → FnAt X Γ k S.KW f x
theorem Ctx.hu {X : Cx} {S : SC} {Γ : Tab} {k : Nat} (C : Ctx X S Γ k) : X.A.units + 64 < cLine := C.room.units
theorem Ctx.blk {X : Cx} {S : SC} {Γ : Tab} {k : Nat} (C : Ctx X S Γ k) (s : Shared) (H : Hp) (scope : Scope) (cl : List (Str × Addr)) (c : Addr) (fp : List Addr) : Ctx (X.blk s H scope (compEnvC scope cl c X.env) fp) (S.inBlk scope) Γ k where
  N := C.N
  nd := C.nd
  sc := by
    show relS scope X.env.scope = relS scope S.sc
    rw [C.sc]
  calm := C.calm
  room := C.room
  xe := rfl
  bn := C.bn
  gc := C.gc
  gd := C.gd
  lc := C.lc
  gl := C.gl
  fn := fun x h => by
    have h : ((match scope.names.lookup x with | some .cell => true | _ => false) || isLocB (relS scope S.sc) x) = true := h
    rcases (Bool.or_eq_true _ _).mp h with h | h
    · refine .inl ?_
      show (scope.names.lookup x == some .cell) = true
      split at h
      · rename_i e
        rw [e]; rfl
      · cases h
    · refine .inr ?_
      show (relS scope X.env.scope).names.lookup x = some .local
      rw [C.sc]
      unfold isLocB at h
      split at h
      · assumption
      · cases h
  fs := fun f x h => ⟨(C.fs f x h).ex⟩
section
variable {X : Cx} {S : SC} {Γ : Tab} {k : Nat}
theorem vis_ok (C : Ctx X S Γ k) {x : Str} (h : visB S.sc x = true) : Vis X.env.scope x := by
  rw [C.sc]
  unfold visB at h
  unfold Vis
  split at h
  · exact .inl (by assumption)
  · exact .inr (.inl (by assumption))
  · exact .inr (.inr (by assumption))
  · cases h
theorem loc_ok (C : Ctx X S Γ k) {x : Str} (h : locB S.sc x = true) : L2.Loc X.env.scope x := by
  rw [C.sc]
  unfold locB at h
  unfold L2.Loc
  split at h
  · exact .inl (by assumption)
  · exact .inr (by assumption)
  · cases h
theorem glo_ok (C : Ctx X S Γ k) {x : Str} (h : gloB S.sc x = true) : Gl X x := by
  show X.env.scope.names.lookup x = some .globalImplicit
  rw [C.sc]
  unfold gloB at h
  split at h
  · assumption
  · cases h
theorem okn1 {x : Str} (h : okName x = true) : (x == ("__debug__" : Str)) = false := by
  unfold okName at h
  simp only [Bool.and_eq_true, Bool.not_eq_true'] at h
  exact h.1
theorem okn2 {x : Str} (h : okName x = true) : (x == ("__classdict__" : Str)) = false := by
  unfold okName at h
  simp only [Bool.and_eq_true, Bool.not_eq_true'] at h
  exact h.2
theorem boot_ty : ∀ n ∈ tyL, bootBuiltins (Str.ofString n) = some (.type n) ∧ Str.ofString n ≠ "__name__" ∧ (Str.ofString n == ("__debug__" : Str)) = false := by decide +kernel
theorem st_of {c : CE} {S : SC} {e : Expr} (h : chkE c S e = true) : notSt e = true := by
  cases e with
  | Starred v p => cases c <;> cases h
  | _ => rfl
theorem sts_of : ∀ {cs : CEs} {S : SC} {es : List Expr}, chkEs cs S es = true → es.all notSt = true
  | .nil, S, [], _ => rfl
  | .nil, S, _ :: _, h => by cases h
  | .cons c r, S, [], h => by cases h
  | .cons c r, S, e :: es, h => by
    have h : (chkE c S e && chkEs r S es) = true := h
    rw [Bool.and_eq_true] at h
    rw [List.all_cons, st_of h.1, sts_of h.2]; rfl
theorem pix_of {c : CE} {S : SC} {e : Expr} (h : chkE c S e = true) : PlainIx e := by
  cases e with
  | Slice l u s p => cases c <;> cases h
  | _ => intro o i; rfl
theorem fold_of {e : Expr} (h : notSet e = true) (env : Env) (x : Value) : foldedSetIterable e env x = pure x := by
  cases e <;> first
    | rfl
    | cases h
def gOf (K : PySem.W.Frag) : CT → TG
  | .nm i => gName i
  | .tp is => gTup K is.length (gNames is)
theorem gOf_ok {K : PySem.W.Frag} : ∀ {tg : CT}, upG K tg (gOf K tg)
  | .nm _ => g_nm
  | .tp _ => g_tp
theorem tgt_ok (C : Ctx X S Γ k) {tg : CT} {e : Expr} (h : chkT S tg e = true) : PG X e (gOf X.K tg) := by
  cases tg with
  | nm i =>
    cases e <;> first
      | (rename_i x p
         simp only [chkT, Bool.and_eq_true, beq_iff_eq] at h
         exact pg_name (by rw [C.N]; exact C.nd) (by rw [C.N]; exact h.1.1) (loc_ok C h.1.2) (C.fn x h.2))
      | cases h
  | tp is =>
    cases e with
    | Tuple es kk p =>
      have h : (is.length == es.length && (is.zip es).all fun p => match p.2 with | .Name x _ => S.N[p.1]? == some x && locB S.sc x && S.fnB x | _ => false) = true := h
      rw [Bool.and_eq_true, beq_iff_eq] at h
      obtain ⟨hl, ha⟩ := h
      have plain : ∀ (is : List Nat) (es : List Expr), is.length = es.length → ((is.zip es).all fun p => match p.2 with | .Name x _ => S.N[p.1]? == some x && locB S.sc x && S.fnB x | _ => false) = true →
          PGs X es (gNames is) ∧ (assignEach es X.env).length = is.length ∧ (assignEach es X.env).findIdx? (·.1) = none := by
        intro is
        induction is with
        | nil =>
          intro es hl _
          cases es with
          | nil => exact ⟨pgs_nil, rfl, rfl⟩
          | cons _ _ => cases hl
        | cons i is ih =>
          intro es hl ha
          cases es with
          | nil => cases hl
          | cons e es =>
            simp only [List.zip_cons_cons, List.all_cons, Bool.and_eq_true] at ha
            obtain ⟨h1, h2⟩ := ha
            obtain ⟨i1, i2, i3⟩ := ih es (by simpa using hl) h2
            cases e with
            | Name x p =>
              simp only [Bool.and_eq_true, beq_iff_eq] at h1
              refine ⟨pgs_cons (pg_name (by rw [C.N]; exact C.nd) (by rw [C.N]; exact h1.1.1) (loc_ok C h1.1.2) (C.fn x h1.2)) i1, ?_, ?_⟩
              · show (assignEach es X.env).length + 1 = _
                rw [i2]; rfl
              · show List.findIdx? (·.1) ((false, assign (.Name x p) X.env) :: assignEach es X.env) = none
                rw [List.findIdx?_cons, i3]; rfl
            | _ => cases h1
      obtain ⟨p1, p2, p3⟩ := plain is es hl ha
      exact pg_tup C.calm p1 p2 p3
    | _ => cases h
end
end Rf

set_option Elab.async false
set_option linter.all false
set_option maxRecDepth 100000
/-! Rf8: expressions that pass the look -/
namespace Rf
open PySem L2 PySem.Spec PyProof.Rows
variable {Γ : Tab} {k : Nat}

def isBoth (c : CE) : Bool := match c with
  | .ife .. | .bin .. | .typ .. | .neg .. | .tup .. | .lst .. | .dct .. | .slc .. | .mth .. | .lc .. | .fmt .. | .fst .. => true
  | _ => false
theorem t_of {X : Cx} {S : SC} {c : CE} {e : Expr} (hE : PE X e (upE X.K (wE Γ c))) (hc : ∀ whole, isTrue e X.env whole = (do let v ← whole; standAt e.pos; holding [v] (truthy v))) (hT : wT Γ c = ofE (wE Γ c)) : PT X e (upT X.K (wT Γ c)) := by
  rw [hT]
  exact t_tru hE hc
/-- a clause's tests -/
def fOf (K : PySem.W.Frag) (Γ : Tab) : CEs → TT
  | .nil => tYes
  | .cons c .nil => upT K (wT Γ c)
  | .cons _ (.cons _ _) => tYes
theorem fOf_up {K : PySem.W.Frag} {cs : CEs} {σ : L2.St} {H : Hp} {R : Bool → Hp → Prop} (h : upT K (wF Γ cs) σ H R) : fOf K Γ cs σ H R := by
  cases cs with
  | nil =>
    obtain ⟨ρ, μ, Z, B, Q, hs, hw, fin⟩ := h
    exact fin _ _ _ _ LeW.refl hs.1 hw
  | cons c r =>
    cases r with
    | nil => exact h
    | cons _ _ =>
      obtain ⟨ρ, μ, Z, B, Q, hs, hw, fin⟩ := h
      exact hw.elim
mutual
theorem sndE : ∀ (c : CE) (X : Cx) (S : SC) (e : Expr), Ctx X S Γ k → chkE c S e = true → PE X e (upE X.K (wE Γ c)) ∧ PT X e (upT X.K (wT Γ c))
  | .var i, X, S, e, C, h => by
    simp only [chkE] at h
    split at h
    · rename_i x p
      simp only [Bool.and_eq_true, beq_iff_eq] at h
      have hE : PE X (.Name x p) (upE X.K (wE Γ (.var i))) := e_var (by rw [C.N]; exact h.1.1) (vis_ok C h.1.2) (okn1 h.2) (okn2 h.2)
      exact ⟨hE, t_of (S := S) hE (fun _ => rfl) rfl⟩
    · cases h
  | .cst d, X, S, e, C, h => by
    simp only [chkE] at h
    split at h
    · rename_i c n p
      have hE : PE X (.Constant c n p) (upE X.K (wE Γ (.cst d))) := by
        cases d with
        | non =>
          cases c <;> first
            | exact e_con pe_non fun _ _ _ => .non
            | cases h
        | bl b =>
          cases c <;> first
            | (simp only [cstB, beq_iff_eq] at h; subst h; exact e_con pe_bl fun _ _ _ => .bl _)
            | cases h
        | int b =>
          cases c <;> first
            | (simp only [cstB, beq_iff_eq] at h; subst h; exact e_con pe_int fun _ _ _ => .int _)
            | cases h
        | str b =>
          cases c <;> first
            | (simp only [cstB, beq_iff_eq] at h; subst h; exact e_con pe_str fun _ _ _ => .str _)
            | cases h
        | _ => cases c <;> cases h
      exact ⟨hE, t_of (S := S) hE (fun _ => rfl) rfl⟩
    · cases h
  | .typ n, X, S, e, C, h => by
    simp only [chkE] at h
    split at h
    · rename_i x p
      simp only [Bool.and_eq_true, beq_iff_eq] at h
      obtain ⟨⟨⟨h1, h2⟩, h3⟩, h4⟩ := h
      subst h1
      obtain ⟨b1, b2, b3⟩ := boot_ty n (by simpa using h2)
      have hE : PE X (.Name (Str.ofString n) p) (upE X.K (wE Γ (.typ n))) := e_con (pe_bltn (v := .ty n) (glo_ok C h4) (C.bn _ (by simpa using h3)) b1 rfl b2 b3) fun _ _ _ => .ty n
      exact ⟨hE, PT.falls⟩
    · cases h
  | .bin op a b, X, S, e, C, h => by
    simp only [chkE] at h
    split at h
    · rename_i x op' y p
      simp only [Bool.and_eq_true, beq_iff_eq] at h
      obtain ⟨⟨rfl, h1⟩, h2⟩ := h
      exact ⟨e_bin op (sndE a X S x C h1).1 (sndE b X S y C h2).1, PT.falls⟩
    · cases h
  | .neg a, X, S, e, C, h => by
    simp only [chkE] at h
    split at h
    · exact ⟨e_neg (sndE a X S _ C h).1, PT.falls⟩
    · cases h
  | .not a, X, S, e, C, h => by
    simp only [chkE] at h
    split at h
    · exact ⟨e_not (sndE a X S _ C h).1, t_not (sndE a X S _ C h).2⟩
    · cases h
  | .cmp op a b, X, S, e, C, h => by
    simp only [chkE] at h
    split at h
    · simp only [Bool.and_eq_true, beq_iff_eq, Bool.not_eq_true'] at h
      obtain ⟨⟨⟨rfl, hm⟩, h1⟩, h2⟩ := h
      exact ⟨e_cmp C.hu op hm (sndE a X S _ C h1).1 (sndE b X S _ C h2).1, t_cmp C.hu op hm (sndE a X S _ C h1).1 (sndE b X S _ C h2).1⟩
    · cases h
  | .chn o p a b c, X, S, e, C, h => by
    simp only [chkE] at h
    split at h
    · simp only [Bool.and_eq_true, beq_iff_eq, Bool.not_eq_true'] at h
      obtain ⟨⟨⟨⟨⟨rfl, rfl⟩, hm⟩, h1⟩, h2⟩, h3⟩ := h
      exact ⟨e_chn C.hu o p hm (sndE a X S _ C h1).1 (sndE b X S _ C h2).1 (sndE c X S _ C h3).1, t_chn C.hu o p hm (sndE a X S _ C h1).1 (sndE b X S _ C h2).1 (sndE c X S _ C h3).1⟩
    · cases h
  | .and a b, X, S, e, C, h => by
    simp only [chkE] at h
    split at h
    · simp only [Bool.and_eq_true] at h
      obtain ⟨h1, h2⟩ := h
      refine ⟨e_and (sndE a X S _ C h1).1 (pe_one (sndE b X S _ C h2).1), ?_⟩
      exact t_and (sndE a X S _ C h1).2 (PW.pt (pw_and1 (sndE b X S _ C h2).2))
    · simp only [Bool.and_eq_true] at h
      obtain ⟨h1, h2⟩ := h
      exact ⟨e_and (sndE a X S _ C h1).1 (sndE b X S _ C h2).1, t_and (sndE a X S _ C h1).2 (sndE b X S _ C h2).2⟩
    · cases h
  | .or a b, X, S, e, C, h => by
    simp only [chkE] at h
    split at h
    · simp only [Bool.and_eq_true] at h
      obtain ⟨h1, h2⟩ := h
      refine ⟨e_or (sndE a X S _ C h1).1 (pe_one (sndE b X S _ C h2).1), ?_⟩
      exact t_or (sndE a X S _ C h1).2 (PW.pt (pw_or1 (sndE b X S _ C h2).2))
    · simp only [Bool.and_eq_true] at h
      obtain ⟨h1, h2⟩ := h
      exact ⟨e_or (sndE a X S _ C h1).1 (sndE b X S _ C h2).1, t_or (sndE a X S _ C h1).2 (sndE b X S _ C h2).2⟩
    · cases h
  | .ife c a b, X, S, e, C, h => by
    simp only [chkE] at h
    split at h
    · simp only [Bool.and_eq_true] at h
      obtain ⟨⟨h0, h1⟩, h2⟩ := h
      exact ⟨e_ife (sndE c X S _ C h0).2 (sndE a X S _ C h1).1 (sndE b X S _ C h2).1, PT.falls⟩
    · cases h
  | .tup es, X, S, e, C, h => by
    simp only [chkE] at h
    split at h
    · exact ⟨e_tup (sndEs es X S _ C h), PT.falls⟩
    · cases h
  | .lst es, X, S, e, C, h => by
    simp only [chkE] at h
    split at h
    · exact ⟨e_lst (sndEs es X S _ C h), PT.falls⟩
    · cases h
  | .dct ps, X, S, e, C, h => by
    simp only [chkE] at h
    split at h
    · rename_i ks vs p
      simp only [Bool.and_eq_true, decide_eq_true_eq, Bool.not_eq_true'] at h
      obtain ⟨⟨h1, h2⟩, h3⟩ := h
      obtain ⟨trs, t1, t2, t3, t4⟩ := sndPs ps X S ks vs p C h1
      exact ⟨e_dct t1 t2 t3 t4 (fun z => by rw [z] at h2; cases h2) h3, PT.falls⟩
    · cases h
  | .idx a b, X, S, e, C, h => by
    simp only [chkE] at h
    split at h
    · rename_i x y p
      simp only [Bool.and_eq_true] at h
      have hE : PE X (.Subscript x y p) (upE X.K (wE Γ (.idx a b))) := e_idx C.hu (pix_of h.2) (sndE a X S _ C h.1).1 (sndE b X S _ C h.2).1
      exact ⟨hE, t_of (S := S) hE (fun _ => rfl) rfl⟩
    · cases h
  | .slc a lo hi, X, S, e, C, h => by
    simp only [chkE] at h
    split at h
    · simp only [Bool.and_eq_true] at h
      exact ⟨e_slc (sndE a X S _ C h.1.1).1 (sndO lo X S _ C h.1.2) (sndO hi X S _ C h.2), PT.falls⟩
    · cases h
  | .cal f es, X, S, e, C, h => by
    simp only [chkE] at h
    split at h
    · rename_i x p args p'
      simp only [Bool.and_eq_true, beq_iff_eq] at h
      obtain ⟨⟨⟨h1, h2⟩, h3⟩, h4⟩ := h
      obtain ⟨a, fd, ps, m1, m2, m3, m4, m5, m6⟩ := (C.fs f x h1).ex
      have hE : PE X (.Call (.Name x p) args [] p') (upE X.K (wE Γ (.cal f es))) := by
        have hA := sndEs es X S args C h4
        cases args with
        | nil =>
          cases es with
          | nil => exact e_cal0 m3 C.room (glo_ok C h2) m1 m2 m4 (okn1 h3)
          | cons _ _ => cases h4
        | cons e' es' => exact e_cal m3 C.room (glo_ok C h2) m1 m2 m4 (sts_of h4) (okn1 h3) hA
      exact ⟨hE, t_of (S := S) hE (fun _ => rfl) rfl⟩
    · cases h
  | .cak f es ks kes perm n, X, S, e, C, h => by
    simp only [chkE] at h
    split at h
    · rename_i x p args kws p'
      simp only [Bool.and_eq_true, beq_iff_eq, Bool.not_eq_true', List.contains_eq_mem, decide_eq_true_eq] at h
      obtain ⟨⟨⟨⟨⟨⟨⟨⟨h1, h2⟩, h3⟩, h4⟩, h5⟩, h6⟩, h7⟩, h8⟩, h9⟩ := h
      obtain ⟨a, fd, ps, m1, m2, m3, m4, m5, m6⟩ := (C.fs f x h1).ex
      have hK := sndKs kes X S kws C h9
      have hE : PE X (.Call (.Name x p) args kws p') (upE X.K (wE Γ (.cak f es ks kes perm n))) := by
        have hA := sndEs es X S args C h4
        cases args with
        | nil =>
          cases es with
          | nil => exact e_cak0 m3 C.room (glo_ok C h2) m1 m2 (m5 _ _ _ h8) (okn1 h3) hK h6 h7
          | cons _ _ => cases h4
        | cons e' es' => exact e_cak m3 C.room (glo_ok C h2) m1 m2 (m5 _ _ _ h8) (sts_of h4) (okn1 h3) hA hK h6 h7
      exact ⟨hE, t_of (S := S) hE (fun _ => rfl) rfl⟩
    · cases h
  | .blt b es, X, S, e, C, h => by
    simp only [chkE] at h
    split at h
    · rename_i x p args p'
      simp only [Bool.and_eq_true, beq_iff_eq, Bool.not_eq_true'] at h
      obtain ⟨⟨⟨⟨rfl, h2⟩, h3⟩, h4⟩, h5⟩ := h
      have hA := sndEs es X S args C h4
      have hE : PE X (.Call (.Name (biName b) p) args [] p') (upE X.K (wE Γ (.blt b es))) := by
        cases args with
        | nil => cases h5
        | cons e' es' =>
          have hst := sts_of h4
          have hst' := hst
          simp only [List.all_cons, Bool.and_eq_true] at hst'
          have g := glo_ok C h2
          cases b with
          | lcm => exact up_cb hA (pe_callBfun lcm_ok g (C.lc h3) hA (by decide) (star_one hst'.1) (star_any hst'.2))
          | sum => exact up_cb hA (pe_callB (sum_ok C.calm) g (C.bn _ (by simpa using h3)) (by rfl) hA (by decide) (by decide) (star_one hst'.1) (star_any hst'.2))
          | maxL => exact up_cb hA (pe_callB (maxL_ok C.calm) g (C.bn _ (by simpa using h3)) (by rfl) hA (by decide) (by decide) (star_one hst'.1) (star_any hst'.2))
          | minL => exact up_cb hA (pe_callB (minL_ok C.calm) g (C.bn _ (by simpa using h3)) (by rfl) hA (by decide) (by decide) (star_one hst'.1) (star_any hst'.2))
          | gcd => exact up_cb hA (pe_callBfun gcd_ok g (C.gc h3) hA (by decide) (star_one hst'.1) (star_any hst'.2))
          | str => exact up_cb hA (pe_callTy str_ok g (C.bn _ (by simpa using h3)) (by rfl) hA (by decide) (by decide) (star_one hst'.1) (star_any hst'.2))
          | sorted => exact up_cb hA (pe_callB sorted_ok g (C.bn _ (by simpa using h3)) (by rfl) hA (by decide) (by decide) (star_one hst'.1) (star_any hst'.2))
          | repr =>
            simp only [Bool.and_eq_true] at h3
            exact up_cb hA (pe_callB (repr_ok (C.gd h3.1) (by have := C.room.un; omega)) g (C.bn _ (by simpa using h3.2)) (by rfl) hA (by decide) (by decide) (star_one hst'.1) (star_any hst'.2))
          | len => exact up_cb hA (pe_callB len_ok g (C.bn _ (by simpa using h3)) (by rfl) hA (by decide) (by decide) (star_one hst'.1) (star_any hst'.2))
          | abs => exact up_cb hA (pe_callB abs_ok g (C.bn _ (by simpa using h3)) (by rfl) hA (by decide) (by decide) (star_one hst'.1) (star_any hst'.2))
          | isi => exact up_cb hA (pe_callB isi_ok g (C.bn _ (by simpa using h3)) (by rfl) hA (by decide) (by decide) (star_one hst'.1) (star_any hst'.2))
          | all => exact up_cb hA (pe_callB (all_ok C.calm) g (C.bn _ (by simpa using h3)) (by rfl) hA (by decide) (by decide) (star_one hst'.1) (star_any hst'.2))
          | any => exact up_cb hA (pe_callB (any_ok C.calm) g (C.bn _ (by simpa using h3)) (by rfl) hA (by decide) (by decide) (star_one hst'.1) (star_any hst'.2))
          | max2 => exact up_cb hA (pe_callB (max_ok C.calm) g (C.bn _ (by simpa using h3)) (by rfl) hA (by decide) (by decide) (star_one hst'.1) (star_any hst'.2))
          | min2 => exact up_cb hA (pe_callB (min_ok C.calm) g (C.bn _ (by simpa using h3)) (by rfl) hA (by decide) (by decide) (star_one hst'.1) (star_any hst'.2))
          | int => exact up_cb hA (pe_callTy int_ok g (C.bn _ (by simpa using h3)) (by rfl) hA (by decide) (by decide) (star_one hst'.1) (star_any hst'.2))
          | tuple => exact up_cb hA (pe_callTy tuple_ok g (C.bn _ (by simpa using h3)) (by rfl) hA (by decide) (by decide) (star_one hst'.1) (star_any hst'.2))
          | list => exact up_cb hA (pe_callTy list_ok g (C.bn _ (by simpa using h3)) (by rfl) hA (by decide) (by decide) (star_one hst'.1) (star_any hst'.2))
      exact ⟨hE, t_of (S := S) hE (fun _ => rfl) rfl⟩
    · cases h
  | .mth m o es, X, S, e, C, h => by
    simp only [chkE] at h
    split at h
    · rename_i x name apos args cpos
      simp only [Bool.and_eq_true, beq_iff_eq] at h
      obtain ⟨⟨⟨⟨⟨rfl, h1⟩, h2⟩, h3⟩, h4⟩, h5⟩ := h
      have hA := sndEs es X S args C h5
      have hO := (sndE o X S _ C h4).1
      refine ⟨?_, PT.falls⟩
      cases m with
      | append =>
        cases args with
        | nil => cases h3
        | cons e' es' => exact e_mth (fun _ _ => rfl) PySem.F.slot_list_append PySem.F.type_list_append append_ok hO hA h2 (by rw [h3]; decide) (sts_of h5) (by simpa using h1)
      | extend =>
        cases args with
        | nil => cases h3
        | cons e' es' => exact e_mth (fun _ _ => rfl) PySem.F.slot_list_extend PySem.F.type_list_extend extend_ok hO hA h2 (by rw [h3]; decide) (sts_of h5) (by simpa using h1)
      | join =>
        cases args with
        | nil => cases h3
        | cons e' es' => exact e_join PySem.F.slot_str_join PySem.F.type_str_join join_ok hO hA h2 (by rw [h3]; decide) (sts_of h5) (by simpa using h1)
      | pop =>
        cases args with
        | cons _ _ => cases h3
        | nil =>
          cases es with
          | cons _ _ => cases h5
          | nil => exact e_mth0 (fun _ _ => rfl) PySem.F.slot_list_pop PySem.F.type_list_pop pop_ok hO h2 (by simpa using h1)
    · cases h
  | .lc tg it ifs elt own, X, S, e, C, h => by
    simp only [chkE] at h
    split at h
    · rename_i elt' tg' it' ifs' scope p
      simp only [Bool.and_eq_true] at h
      obtain ⟨⟨⟨⟨⟨⟨h1, h2⟩, h3⟩, h4⟩, h5⟩, h6⟩, h7⟩ := h
      refine ⟨?_, PT.falls⟩
      have hI := sndI it X S tg' it' C h4
      have eo : (ownOf S own).map (·.2) = own := by
        unfold ownOf
        rw [List.map_map]
        exact (List.map_congr_left fun _ _ => rfl).trans (List.map_id _)
      have hL := pe_lc (pos := p) (elt := elt') (te := upE X.K (wE Γ elt)) (g := gOf X.K tg) (tt := fOf X.K Γ ifs) C.calm (by rw [C.N]; exact C.nd) hI (blkOk_by (by rw [C.N, C.sc]; exact h1)) (fun s H c cl fp => tgt_ok (C.blk s H scope cl c fp) h5) (fun s H c cl fp => sndF ifs _ _ ifs' (C.blk s H scope cl c fp) h6)
        (fun s H c cl fp => (sndE elt _ _ elt' (C.blk s H scope cl c fp) h7).1) (fun x => fold_of h3 _ x)
      rw [eo] at hL
      exact hL.imp (lc_up (fun _ _ _ q => q) gOf_ok (fun i hi => by
        rw [List.all_eq_true] at h2
        simpa using h2 i hi) (fun σ H R q => fOf_up q) (fun _ _ _ q => q))
    · cases h
  | .gl x d, X, S, e, C, h => by
    simp only [chkE] at h
    split at h
    · rename_i y p
      simp only [Bool.and_eq_true, beq_iff_eq] at h
      obtain ⟨⟨⟨rfl, h2⟩, h3⟩, h4⟩ := h
      obtain ⟨q, hq, h5⟩ := List.any_eq_true.mp h4
      simp only [Bool.and_eq_true, beq_iff_eq] at h5
      obtain ⟨v, u, m1, m2, m3⟩ := C.gl q hq
      rw [h5.1] at m1
      rw [← dEq_ok h5.2] at m3
      exact ⟨e_con (pe_glob (v := v) (glo_ok C h2) m1 m2 (okn1 h3)) m3, PT.falls⟩
    · cases h
  | .fnv f x, X, S, e, C, h => by
    simp only [chkE] at h
    split at h
    · rename_i y p
      simp only [Bool.and_eq_true, beq_iff_eq] at h
      obtain ⟨⟨⟨rfl, h2⟩, h3⟩, h4⟩ := h
      obtain ⟨a, fd, ps, m1, m2, m3, m4, m5, m6⟩ := (C.fs f _ h2).ex
      exact ⟨e_fnv (glo_ok C h3) m1 m6 (okn1 h4), PT.falls⟩
    · cases h
  | .calv i es fs, X, S, e, C, h => by
    simp only [chkE] at h
    split at h
    · rename_i x p args p'
      simp only [Bool.and_eq_true, beq_iff_eq, Bool.not_eq_true'] at h
      obtain ⟨⟨⟨⟨⟨h1, h2⟩, h3⟩, h4⟩, h5⟩, h6⟩ := h
      have hA := sndEs es X S args C h5
      have hE : PE X (.Call (.Name x p) args [] p') (upE X.K (wE Γ (.calv i es fs))) := by
        cases args with
        | nil => cases h6
        | cons e' es' =>
          refine e_calv (by rw [C.N]; exact h1) (vis_ok C h2) (okn1 h3) (okn2 h3) C.room (fun f y hc => ?_) (sts_of h5) hA
          have := List.all_eq_true.mp h4 (f, y) (by simpa using hc)
          obtain ⟨a, fd, ps, m1, m2, m3, m4, m5, m6⟩ := (C.fs f y (by simpa using this)).ex
          exact ⟨a, fd, ps, m6, m2, m3, m4⟩
      exact ⟨hE, t_of (S := S) hE (fun _ => rfl) rfl⟩
    · cases h
  | .sls a lo st, X, S, e, C, h => by
    simp only [chkE] at h
    split at h
    · rename_i x l se p p'
      simp only [Bool.and_eq_true, bne_iff_ne] at h
      obtain ⟨⟨⟨h1, h2⟩, h3⟩, h4⟩ := h
      refine ⟨e_sls h2 (sndE a X S _ C h3).1 (sndO lo X S _ C h4) ?_, PT.falls⟩
      unfold stepB at h1
      split at h1
      · simp only [beq_iff_eq] at h1
        subst h1
        exact ⟨fun pins s σ H Q I q => (po_some pe_int).run pins s σ H Q I ⟨_, rfl, q⟩⟩
      · simp only [beq_iff_eq] at h1
        subst h1
        exact ⟨fun pins s σ H Q I q => (po_some (pe_un un_neg pe_int)).run pins s σ H Q I ⟨_, rfl, _, rfl, q⟩⟩
      · cases h1
    · cases h
  | .dc tg it ifs kk vv own, X, S, e, C, h => by
    simp only [chkE] at h
    split at h
    · rename_i k' v' tg' it' ifs' scope p
      simp only [Bool.and_eq_true] at h
      obtain ⟨⟨⟨⟨⟨⟨⟨h1, h2⟩, h3⟩, h4⟩, h5⟩, h6⟩, h7⟩, h8⟩ := h
      refine ⟨?_, PT.falls⟩
      have hI := sndI it X S tg' it' C h4
      have eo : (ownOf S own).map (·.2) = own := by
        unfold ownOf
        rw [List.map_map]
        exact (List.map_congr_left fun _ _ => rfl).trans (List.map_id _)
      have hL := pe_dc (pos := p) (kx := k') (vx := v') (tk := upE X.K (wE Γ kk)) (tv := upE X.K (wE Γ vv)) (g := gOf X.K tg) (tt := fOf X.K Γ ifs) C.calm (by rw [C.N]; exact C.nd) hI (blkOk_by (by rw [C.N, C.sc]; exact h1)) (fun s H c cl fp => tgt_ok (C.blk s H scope cl c fp) h5) (fun s H c cl fp => sndF ifs _ _ ifs' (C.blk s H scope cl c fp) h6)
        (fun s H c cl fp => (sndE kk _ _ k' (C.blk s H scope cl c fp) h7).1) (fun s H c cl fp => (sndE vv _ _ v' (C.blk s H scope cl c fp) h8).1) (fun x => fold_of h3 _ x)
      rw [eo] at hL
      exact hL.imp (dc_up (fun _ _ _ q => q) gOf_ok (fun i hi => by
        rw [List.all_eq_true] at h2
        simpa using h2 i hi) (fun σ H R q => fOf_up q) (fun _ _ _ q => q) (fun _ _ _ q => q))
    · cases h
  | .ssc tg it ifs elt own, X, S, e, C, h => by
    simp only [chkE] at h
    split at h
    · rename_i x q0 elt' tg' it' ifs' scope p pos
      simp only [Bool.and_eq_true, beq_iff_eq] at h
      obtain ⟨⟨⟨⟨⟨⟨⟨⟨⟨rfl, b1⟩, b2⟩, h1⟩, h2⟩, h3⟩, h4⟩, h5⟩, h6⟩, h7⟩ := h
      refine ⟨?_, PT.falls⟩
      have hI := sndI it X S tg' it' C h4
      have eo : (ownOf S own).map (·.2) = own := by
        unfold ownOf
        rw [List.map_map]
        exact (List.map_congr_left fun _ _ => rfl).trans (List.map_id _)
      have hL := pe_sc (pos := p) (elt := elt') (te := upE X.K (wE Γ elt)) (g := gOf X.K tg) (tt := fOf X.K Γ ifs) C.calm (by rw [C.N]; exact C.nd) hI (blkOk_by (by rw [C.N, C.sc]; exact h1)) (fun s H c cl fp => tgt_ok (C.blk s H scope cl c fp) h5) (fun s H c cl fp => sndF ifs _ _ ifs' (C.blk s H scope cl c fp) h6)
        (fun s H c cl fp => (sndE elt _ _ elt' (C.blk s H scope cl c fp) h7).1) (fun x => fold_of h3 _ x)
      rw [eo] at hL
      exact (pe_callB (cr_sortedSX C.calm) (glo_ok C b2) (C.bn _ (by simpa using b1)) (by rfl) (pa_cons hL pa_nil (star_one rfl)) (by decide) (by decide) (star_one rfl) rfl).imp (sc_up (fun _ _ _ q => q) gOf_ok (fun i hi => by
        rw [List.all_eq_true] at h2
        simpa using h2 i hi) (fun σ H R q => fOf_up q) (fun _ _ _ q => q))
    · cases h
  | .sset a, X, S, e, C, h => by
    simp only [chkE] at h
    split at h
    · rename_i x q0 y q1 z q2 q3
      simp only [Bool.and_eq_true, beq_iff_eq] at h
      obtain ⟨⟨⟨⟨⟨⟨rfl, b1⟩, b2⟩, rfl⟩, b3⟩, b4⟩, h1⟩ := h
      exact ⟨e_sset C.calm (glo_ok C b2) (C.bn _ (by simpa using b1)) (glo_ok C b4) (C.bn _ (by simpa using b3)) (st_of h1) (sndE a X S _ C h1).1, PT.falls⟩
    · cases h
  | .fmt a, X, S, e, C, h => by
    simp only [chkE] at h
    split at h
    · exact ⟨e_fmt (sndE a X S _ C h).1, PT.falls⟩
    · exact ⟨pe_joined1 (e_fmt (sndE a X S _ C h).1), PT.falls⟩
    · cases h
  | .fst es, X, S, e, C, h => by
    simp only [chkE] at h
    split at h
    · rename_i xs p
      simp only [Bool.and_eq_true, decide_eq_true_eq] at h
      obtain ⟨ws, ts, h1, h2, h3⟩ := sndJ es X S xs C h.2
      refine ⟨?_, PT.falls⟩
      have e2 : wE Γ (.fst es) = wJs ws Str.empty := h3 _
      rw [e2]
      match xs, h.1 with
      | v1 :: v2 :: rest, _ => exact e_fst h1 h2
    · cases h
theorem sndJ : ∀ (cs : CEs) (X : Cx) (S : SC) (es : List Expr), Ctx X S Γ k → chkEs cs S es = true → ∃ ws ts, PJ X es ts ∧ UJ X.K ws ts ∧ ∀ acc, wJ Γ cs acc = wJs ws acc
  | .nil, X, S, es, C, h => by
    cases es with
    | nil => exact ⟨[], [], .nil, .nil, fun _ => rfl⟩
    | cons _ _ => cases h
  | .cons c r, X, S, es, C, h => by
    cases es with
    | nil => cases h
    | cons e es =>
      simp only [chkEs, Bool.and_eq_true] at h
      obtain ⟨ws, ts, h1, h2, h3⟩ := sndJ r X S es C h.2
      refine ⟨wE Γ c :: ws, _ :: ts, .cons (sndE c X S e C h.1).1 h1, .cons rfl h2, fun acc => ?_⟩
      funext ρ μ Q
      show (wE Γ c ρ μ fun d μ1 => _) = (wE Γ c ρ μ fun d μ1 => _)
      congr 1
      funext d μ1
      cases d <;> first
        | rfl
        | (simp only [h3])
theorem sndEs : ∀ (cs : CEs) (X : Cx) (S : SC) (es : List Expr), Ctx X S Γ k → chkEs cs S es = true → PA X es (upA X.K (wEs Γ cs))
  | .nil, X, S, es, C, h => by
    cases es with
    | nil => exact a_nil
    | cons _ _ => cases h
  | .cons c r, X, S, es, C, h => by
    cases es with
    | nil => cases h
    | cons e es =>
      simp only [chkEs, Bool.and_eq_true] at h
      exact a_cons (st_of h.1) (sndE c X S e C h.1).1 (sndEs r X S es C h.2)
theorem sndKs : ∀ (cs : CEs) (X : Cx) (S : SC) (kws : List Keyword), Ctx X S Γ k → chkEs cs S (kws.map (·.value)) = true → PK X kws (upA X.K (wEs Γ cs))
  | .nil, X, S, kws, C, h => by
    cases kws with
    | nil => exact k_nil
    | cons _ _ => cases h
  | .cons c r, X, S, kws, C, h => by
    cases kws with
    | nil => cases h
    | cons kw kws =>
      obtain ⟨nm, e, kp⟩ := kw
      simp only [List.map_cons, chkEs, Bool.and_eq_true] at h
      exact k_cons (sndE c X S e C h.1).1 (sndKs r X S kws C h.2)
theorem sndPs : ∀ (ps : CPs) (X : Cx) (S : SC) (ks : List (Option Expr)) (vs : List Expr) (p : Pos), Ctx X S Γ k → chkPs ps S ks vs = true → ∃ trs, PPs X p ks vs trs ∧ upPr X.K (wPr Γ ps) trs ∧ ks.all (·.isSome) = true ∧ ks.length = vs.length
  | .nil, X, S, ks, vs, p, C, h => by
    simp only [chkPs, Bool.and_eq_true, List.isEmpty_iff] at h
    obtain ⟨rfl, rfl⟩ := h
    exact ⟨[], pps_nil, pr_nil, rfl, rfl⟩
  | .cons a b r, X, S, ks, vs, p, C, h => by
    simp only [chkPs] at h
    split at h
    · rename_i x ks y vs
      simp only [Bool.and_eq_true] at h
      obtain ⟨trs, t1, t2, t3, t4⟩ := sndPs r X S ks vs p C h.2
      exact ⟨_, pps_cons (sndE a X S x C h.1.1).1 (sndE b X S y C h.1.2).1 t1, pr_cons t2, by rw [List.all_cons, t3]; rfl, by simp [t4]⟩
    · cases h
theorem sndO : ∀ (cs : CEs) (X : Cx) (S : SC) (o : Option Expr), Ctx X S Γ k → chkO cs S o = true → PO X o (upO' X.K (wO Γ cs))
  | .nil, X, S, o, C, h => by
    cases o with
    | none => exact o_none
    | some _ => cases h
  | .cons c r, X, S, o, C, h => by
    cases o with
    | none => cases h
    | some e =>
      simp only [chkO, Bool.and_eq_true] at h
      cases r with
      | nil => exact o_some (sndE c X S e C h.1).1
      | cons _ _ => cases h.2
theorem sndF : ∀ (cs : CEs) (X : Cx) (S : SC) (es : List Expr), Ctx X S Γ k → chkF cs S es = true → PTs X es (fOf X.K Γ cs)
  | .nil, X, S, es, C, h => by
    cases es with
    | nil => exact pts_nil
    | cons _ _ => cases h
  | .cons c r, X, S, es, C, h => by
    simp only [chkF] at h
    split at h
    · simp only [Bool.and_eq_true] at h
      cases r with
      | nil => exact pts_one (sndE c X S _ C h.1).2
      | cons _ _ => cases h.2
    · cases h
theorem sndI : ∀ (ci : CI) (X : Cx) (S : SC) (tg e : Expr), Ctx X S Γ k → chkI ci S tg e = true → PI X tg e (upI X.K (wI Γ ci))
  | .sq c, X, S, tg, e, C, h => i_sq (sndE c X S e C h).1
  | .r1 a, X, S, tg, e, C, h => by
    simp only [chkI] at h
    split at h
    · simp only [Bool.and_eq_true, beq_iff_eq] at h
      obtain ⟨⟨⟨rfl, h2⟩, h3⟩, h4⟩ := h
      exact i_r1 (glo_ok C h3) (C.bn _ (by simpa using h2)) (st_of h4) (sndE a X S _ C h4).1
    · cases h
  | .r2 a b, X, S, tg, e, C, h => by
    simp only [chkI] at h
    split at h
    · simp only [Bool.and_eq_true, beq_iff_eq] at h
      obtain ⟨⟨⟨⟨rfl, h2⟩, h3⟩, h4⟩, h5⟩ := h
      exact i_r2 (glo_ok C h3) (C.bn _ (by simpa using h2)) (st_of h4) (st_of h5) (sndE a X S _ C h4).1 (sndE b X S _ C h5).1
    · cases h
  | .zp a b, X, S, tg, e, C, h => by
    simp only [chkI] at h
    split at h
    · simp only [Bool.and_eq_true, beq_iff_eq] at h
      obtain ⟨⟨⟨⟨⟨rfl, h2⟩, h3⟩, h4⟩, h5⟩, h6⟩ := h
      cases tg with
      | Tuple elts kk tpos => exact i_zp (glo_ok C h3) (C.bn _ (by simpa using h2)) (st_of h5) (st_of h6) (sndE a X S _ C h5).1 (sndE b X S _ C h6).1
      | _ => cases h4
    · cases h
  | .rv a, X, S, tg, e, C, h => by
    simp only [chkI] at h
    split at h
    · simp only [Bool.and_eq_true, beq_iff_eq] at h
      obtain ⟨⟨⟨rfl, h2⟩, h3⟩, h4⟩ := h
      exact i_rv (glo_ok C h3) (C.bn _ (by simpa using h2)) (st_of h4) (sndE a X S _ C h4).1
    · cases h
end
end Rf

set_option Elab.async false
set_option linter.all false
set_option maxRecDepth 100000
/-! Rf9: statements -/
namespace Rf
open PySem L2 PySem.Spec PyProof.Rows

/-- two or three plain names on one line, stored from a display: in which order -/
def swapD (sc : Scope) (ts vs : List Expr) : Option (Option (List Str)) :=
  if (!(ts.length == 2 || ts.length == 3) || vs.length != ts.length || sc.kind != .function) = true then some none
  else if (vs.any fun | .Starred .. => true | _ => false) = true then some none
  else
    let names := ts.filterMap fun
      | .Name id pos => if (sc.names.lookup id == some .local && pos.line == (ts.head?.map (·.pos.line)).getD 0) = true then some id else none
      | _ => none
    if (names.length != ts.length || names.eraseDups.length != names.length) = true then some none
    else if vs.all (foldedForSure 8) = true then some none
    else if vs.all (constantsAlone 8) = true then none
    else some (some names)
theorem swap_ok {ts vs : List Expr} {k1 k2 : Nat} {p1 p2 : Pos} {env : Env} {r : Option (List Str)} (hk : env.scope.kind = .function) (h : swapD env.scope ts vs = some r) : swappedStores [.Tuple ts k1 p1] (.Tuple vs k2 p2) env = pure r := by
  have hb : env.blockKind = .function := by unfold Env.blockKind; rw [hk]; rfl
  unfold swapD at h
  unfold swappedStores
  simp only
  rw [hb]
  rw [hk] at h
  split at h
  · rename_i c
    cases h
    rw [if_pos c]
  · rename_i c
    rw [if_neg c]
    split at h
    · rename_i c2
      cases h
      exact if_pos c2
    · rename_i c2
      refine (if_neg c2).trans ?_
      simp only at h
      split at h
      · rename_i c3
        cases h
        exact if_pos c3
      · rename_i c3
        refine (if_neg c3).trans ?_
        split at h
        · rename_i c4
          cases h
          exact if_pos c4
        · rename_i c4
          refine (if_neg c4).trans ?_
          split at h
          · cases h
          · rename_i c5
            cases h
            exact if_neg c5
def noSwapB (sc : Scope) (ts : List Expr) (v : Expr) : Bool := match v with
  | .Tuple vs _ _ => match swapD sc ts vs with
    | some none => true
    | _ => false
  | _ => true
theorem noSwap_ok {ts : List Expr} {k1 : Nat} {p1 : Pos} {v : Expr} {env : Env} (hk : env.scope.kind = .function) (h : noSwapB env.scope ts v = true) : swappedStores [.Tuple ts k1 p1] v env = pure none := by
  cases v <;> first
    | rfl
    | (rename_i vs k2 p2
       unfold noSwapB at h
       simp only at h
       split at h
       · exact swap_ok hk (by assumption)
       · cases h)
def notLc : Expr → Bool
  | .ListComp .. => false
  | .DictComp .. => false
  | _ => true
def notDc : Expr → Bool
  | .DictComp .. => false
  | _ => true
def notName : Expr → Bool
  | .Name .. => false
  | _ => true
mutual
def chkS : CS → SC → Stmt → Bool
  | .set i e => fun S s => match s with
    | .Assign [.Name x _] v _ => S.N[i]? == some x && locB S.sc x && S.fnB x && chkE e S v && notDc v
    | _ => false
  | .unp is e => fun S s => match s with
    | .Assign [.Tuple es _ _] v _ => (is.length == es.length && (is.zip es).all fun p => match p.2 with
      | .Name x _ => S.N[p.1]? == some x && locB S.sc x && S.fnB x
      | _ => false) && noSwapB S.sc es v && chkE e S v
    | _ => false
  | .par i j a b => fun S s => match s with
    | .Assign [.Tuple [.Name x px, .Name y py] k p] (.Tuple [u, v] _ _) _ => S.N[i]? == some x && S.N[j]? == some y && !(i == j) && isLocB S.sc x && isLocB S.sc y && decide (swapD S.sc [.Name x px, .Name y py] [u, v] = some (some [x, y])) && chkE a S u && chkE b S v
    | _ => false
  | .par3 i j l a b c => fun S s => match s with
    | .Assign [.Tuple [.Name x px, .Name y py, .Name z pz] k p] (.Tuple [u, v, t] _ _) _ => S.N[i]? == some x && S.N[j]? == some y && S.N[l]? == some z && !(i == j) && !(i == l) && !(j == l) && isLocB S.sc x && isLocB S.sc y && isLocB S.sc z &&
      decide (swapD S.sc [.Name x px, .Name y py, .Name z pz] [u, v, t] = some (some [x, y, z])) && chkE a S u && chkE b S v && chkE c S t
    | _ => false
  | .put o i e => fun S s => match s with
    | .Assign [.Subscript o' i' _] v _ => chkE o S o' && chkE i S i' && chkE e S v
    | _ => false
  | .augV i op e => fun S s => match s with
    | .AugAssign (.Name x _) op' v _ => op == op' && (op == .Add || op == .Sub) && S.N[i]? == some x && locB S.sc x && S.fnB x && chkE e S v
    | _ => false
  | .augI o i op e => fun S s => match s with
    | .AugAssign (.Subscript o' i' _) op' v _ => op == op' && (op == .Add || op == .Sub) && chkE o S o' && chkE i S i' && chkE e S v
    | _ => false
  | .drop e => fun S s => match s with
    | .Expr v _ => chkE e S v && notLc v
    | _ => false
  | .ret e => fun S s => match s with
    | .Return (some v) _ => chkE e S v
    | _ => false
  | .retN => fun _ s => match s with
    | .Return none _ => true
    | _ => false
  | .iff c a b => fun S s => match s with
    | .If t x y _ => chkE c S t && chkSs a S x && chkSs b S y
    | _ => false
  | .whl c b => fun S s => match s with
    | .While t x [] _ => chkE c S t && chkSs b S x
    | _ => false
  | .for tg it b => fun S s => match s with
    | .For t e x [] _ => chkT S tg t && notSet e && chkI it S t e && chkSs b S x
    | _ => false
  | .brk => fun _ s => match s with
    | .Break _ => true
    | _ => false
  | .cnt => fun _ s => match s with
    | .Continue _ => true
    | _ => false
  | .pass => fun _ s => match s with
    | .Pass _ => true
    | _ => false
  | .dead => fun _ _ => true
def chkSs : CSs → SC → List Stmt → Bool
  | .nil => fun _ ss => ss.isEmpty
  | .cons c r => fun S ss => match ss with
    | s :: ss => chkS c S s && chkSs r S ss
    | [] => false
end
def FinS (K : PySem.W.Frag) (H : Hp) (Z B : List Addr) (E : DEnds) (D : Ends) : Prop :=
  (∀ ρ' μ' σ' H' Z', Le H Z H' Z' → Sta K ρ' μ' Z' B σ' H' → E.nx ρ' μ' → D.nx σ' H') ∧ (∀ ρ' μ' σ' H' Z', Le H Z H' Z' → Sta K ρ' μ' Z' B σ' H' → E.bk ρ' μ' → D.bk σ' H') ∧
  (∀ ρ' μ' σ' H' Z', Le H Z H' Z' → Sta K ρ' μ' Z' B σ' H' → E.ct ρ' μ' → D.ct σ' H') ∧ Fin K H Z B E.rt D.rt
def upSt (K : PySem.W.Frag) (w : DEnds → Rho → M → Prop) : TS := fun D σ H => ∃ (ρ : Rho) (μ : M) (Z B : List Addr) (E : DEnds), Sta K ρ μ Z B σ H ∧ w E ρ μ ∧ FinS K H Z B E D
variable {Γ : Tab} {k : Nat} {K : PySem.W.Frag} {H H1 H2 H' : Hp} {Z Z1 Z' B : List Addr} {μ μ' : M} {ρ ρ' : Rho} {σ : L2.St} {E : DEnds} {D : Ends}
theorem FinS.later (f : FinS K H Z B E D) (l : Le H Z H1 Z1) : FinS K H1 Z1 B E D :=
  ⟨fun ρ' μ' σ' H' Z' l' => f.1 ρ' μ' σ' H' Z' (l.trans l'), fun ρ' μ' σ' H' Z' l' => f.2.1 ρ' μ' σ' H' Z' (l.trans l'), fun ρ' μ' σ' H' Z' l' => f.2.2.1 ρ' μ' σ' H' Z' (l.trans l'), f.2.2.2.later l⟩
theorem FinS.nx (f : FinS K H Z B E D) (hs : Sta K ρ μ Z B σ H) (q : E.nx ρ μ) : D.nx σ H := f.1 ρ μ σ H Z LeW.refl hs q
theorem Sta.set (hs : Sta K ρ μ Z B σ H) {d : Rf.D} {v : V} (r : RD K H Z B d v) (i : Nat) : Sta K (ρ.set i (some d)) μ Z B (σ.set i (some v)) H := ⟨hs.1, hs.2.set r i⟩
/-- a value that is no comprehension is stored without a swap -/
theorem nosw {e : CE} {S : SC} {v : Expr} (h : chkE e S v = true) (hn : notLc v = true) (t : Option Expr) (l : Nat) (env : Env) : swapsWith v t l env = pure false := by
  cases v with
  | ListComp _ _ _ _ => cases hn
  | SetComp _ _ _ _ => cases e <;> cases h
  | DictComp _ _ _ _ _ => cases hn
  | _ => rfl
theorem nosw2 {e : CE} {S : SC} {v : Expr} (h : chkE e S v = true) (t : Expr) (ht : notName t = true) (l : Nat) (env : Env) : swapsWith v (some t) l env = pure false := by
  cases v with
  | ListComp _ _ _ _ => cases t <;> first | rfl | cases ht
  | SetComp _ _ _ _ => cases e <;> cases h
  | DictComp _ _ _ _ _ => cases t <;> first | rfl | cases ht
  | _ => rfl
section
variable {X : Cx} {S : SC}
theorem pg_either {es : List Expr} {kk : Nat} {pos : Pos} {t : TGs} {n : Nat} (hc : X.calm = true) (h : PGs X es t) (hn : (assignEach es X.env).length = n) (hst : (assignEach es X.env).findIdx? (·.1) = none) :
    PG X (.Tuple es kk pos) (fun v σ H Q => gTup X.K n t v σ H Q ∨ gUnl X.K n t v σ H Q) := by
  refine ⟨fun pins s σ H v u Q I r hw => ?_⟩
  rcases hw with hw | hw
  · exact (pg_tup hc h hn hst).run pins s σ H v u Q I r hw
  · exact (pg_unl hc h hn hst).run pins s σ H v u Q I r hw
theorem names_ok (C : Ctx X S Γ k) : ∀ (is : List Nat) (es : List Expr), is.length = es.length → ((is.zip es).all fun p => match p.2 with | .Name x _ => S.N[p.1]? == some x && locB S.sc x && S.fnB x | _ => false) = true →
    PGs X es (gNames is) ∧ (assignEach es X.env).length = is.length ∧ (assignEach es X.env).findIdx? (·.1) = none := by
  intro is
  induction is with
  | nil =>
    intro es hl _
    cases es with
    | nil => exact ⟨pgs_nil, rfl, rfl⟩
    | cons _ _ => cases hl
  | cons i is ih =>
    intro es hl ha
    cases es with
    | nil => cases hl
    | cons e es =>
      simp only [List.zip_cons_cons, List.all_cons, Bool.and_eq_true] at ha
      obtain ⟨h1, h2⟩ := ha
      obtain ⟨i1, i2, i3⟩ := ih es (by simpa using hl) h2
      cases e with
      | Name x p =>
        simp only [Bool.and_eq_true, beq_iff_eq] at h1
        refine ⟨pgs_cons (pg_name (by rw [C.N]; exact C.nd) (by rw [C.N]; exact h1.1.1) (loc_ok C h1.1.2) (C.fn x h1.2)) i1, ?_, ?_⟩
        · show (assignEach es X.env).length + 1 = _
          rw [i2]; rfl
        · show List.findIdx? (·.1) ((false, assign (.Name x p) X.env) :: assignEach es X.env) = none
          rw [List.findIdx?_cons, i3]; rfl
      | _ => cases h1
theorem s_set {i : Nat} {we : WE} {te : TE} {st : Stmt} (h : PS X st (tAsg te (gName i))) (he : ∀ σ H Q, upE X.K we σ H Q → te σ H Q) : PS X st (upSt X.K fun E ρ μ => we ρ μ fun d μ1 => E.nx (ρ.set i (some d)) μ1) :=
  h.imp fun D σ H ⟨ρ, μ, Z, B, E, hs, hw, fin⟩ => he σ H _ (upE_i hs hw fun d μ1 v H1 Z1 l1 hs1 r1 q => (fin.later l1).nx (hs1.set r1 i) q)
theorem s_unp {is : List Nat} {we : WE} {st : Stmt} (h : PS X st (tAsg (upE X.K we) (fun v σ H Q => gTup X.K is.length (gNames is) v σ H Q ∨ gUnl X.K is.length (gNames is) v σ H Q))) :
    PS X st (upSt X.K fun E ρ μ => we ρ μ fun d μ1 => match d with
    | .tup ds => match setsD is ds ρ with
      | some ρ2 => E.nx ρ2 μ1
      | none => False
    | d => match asL μ1 d with
      | some ds => match setsD is ds ρ with
        | some ρ2 => E.nx ρ2 μ1
        | none => False
      | none => False) :=
  h.imp fun D σ H ⟨ρ, μ, Z, B, E, hs, hw, fin⟩ => upE_i hs hw fun d μ1 v H1 Z1 l1 hs1 r1 q => by
    have lists : (match asL μ1 d with | some ds => (match setsD is ds ρ with | some ρ2 => E.nx ρ2 μ1 | none => False) | none => False) → gTup X.K is.length (gNames is) v σ H1 D.nx ∨ gUnl X.K is.length (gNames is) v σ H1 D.nx := by
      intro q
      cases e1 : asL μ1 d with
      | none => rw [e1] at q; exact q.elim
      | some ds =>
        rw [e1] at q
        simp only at q
        cases e2 : setsD is ds ρ with
        | none => rw [e2] at q; exact q.elim
        | some ρ2 =>
          rw [e2] at q
          obtain ⟨a, vs, rfl, h1, rs⟩ := asL_ok hs1.1 e1 r1
          exact .inr ⟨a, vs, rfl, .of h1, by rw [← rs.length]; exact (setsD_len e2).1, gNames_ok hs1.2 rs e2 fun σ2 rr _ => (fin.later l1).nx ⟨hs1.1, rr⟩ q⟩
    cases d with
    | tup ds =>
      simp only at q
      cases e2 : setsD is ds ρ with
      | none => rw [e2] at q; exact q.elim
      | some ρ2 =>
        rw [e2] at q
        cases r1 with
        | tup f rs => exact .inl ⟨_, _, rfl, f.sq, by rw [← rs.length]; exact (setsD_len e2).1, gNames_ok hs1.2 rs e2 fun σ2 rr _ => (fin.later l1).nx ⟨hs1.1, rr⟩ q⟩
    | lst _ => exact lists q
    | scr _ => exact lists q
    | cel _ => exact lists q
    | non => exact lists q
    | bl _ => exact lists q
    | int _ => exact lists q
    | str _ => exact lists q
    | ty _ => exact lists q
    | fn _ _ => exact lists q
theorem s_par {i j : Nat} {wa wb : WE} {st : Stmt} (h : PS X st (tPar i j (tCons (upE X.K wa) (tCons (upE X.K wb) tNil)))) :
    PS X st (upSt X.K fun E ρ μ => wa ρ μ fun x μ1 => wb ρ μ1 fun y μ2 => E.nx ((ρ.set i (some x)).set j (some y)) μ2) :=
  h.imp fun D σ H ⟨ρ, μ, Z, B, E, hs, hw, fin⟩ => upE_i hs hw fun d μ1 v H1 Z1 l1 hs1 r1 q => upE_i hs1 q fun e μ2 w H2 Z2 l2 hs2 r2 q2 =>
    ⟨v, w, rfl, (fin.later (l1.trans l2)).nx ((hs2.set (r1.le l2) i).set r2 j) q2⟩
/-- a, b, c = x, y, z with plain local names: stored from the right -/
def tPar3 (i j l : Nat) (ta : TA) : TS := fun D σ H => ta σ H fun vs H1 => ∃ v w z, vs = [v, w, z] ∧ D.nx (((σ.set i (some v)).set j (some w)).set l (some z)) H1
theorem ps_par3 {i j l : Nat} {x y z : Str} {a b c : Expr} {ta : TA} {px py pz pt pos : Pos} {kt k2 : _} {pt2 : Pos} (hc : X.calm = true) (hN : X.N.Nodup) (hi : X.N[i]? = some x) (hj : X.N[j]? = some y) (hl : X.N[l]? = some z) (hij : i ≠ j) (hil : i ≠ l) (hjl : j ≠ l)
    (hx : X.env.scope.names.lookup x = some .local) (hy : X.env.scope.names.lookup y = some .local) (hz : X.env.scope.names.lookup z = some .local) (ha : PA X [a, b, c] ta)
    (hw : swappedStores [.Tuple [.Name x px, .Name y py, .Name z pz] kt pt] (.Tuple [a, b, c] k2 pt2) X.env = pure (some [x, y, z]))
    (hs : swapsWithSole [.Tuple [.Name x px, .Name y py, .Name z pz] kt pt] (.Tuple [a, b, c] k2 pt2) pos.line X.env = pure false := by rfl) :
    PS X (.Assign [.Tuple [.Name x px, .Name y py, .Name z pz] kt pt] (.Tuple [a, b, c] k2 pt2) pos) (tPar3 i j l ta) := by
  refine ⟨fun pins s σ H D J q => ?_⟩
  rw [exec_Assign_arm]
  refine (wpAny_bind (wpAny_standAt ?_))
  rw [hs]
  refine (wpAny_bind (wpAny_pure ?_))
  rw [if_neg (by decide)]
  refine wpAny_bind (Tuple_ (thn (ha.run _ pins s σ H _ J q) fun us s1 ⟨vs, H1, J1, r1, q1⟩ => ?_))
  obtain ⟨v, w, t, e1, q1⟩ := q1
  subst e1
  obtain ⟨u1, u2, u3, rfl, rv, rw', rt⟩ : ∃ u1 u2 u3, us = [u1, u2, u3] ∧ RelV v u1 ∧ RelV w u2 ∧ RelV t u3 := by
    cases r1 with
    | cons p1 g1 => cases g1 with
      | cons p2 g2 => cases g2 with
        | cons p3 g3 => cases g3; exact ⟨_, _, _, rfl, p1, p2, p3⟩
  refine wpAny_newObj_type ?_ (by show 3 ≤ sizeLine; decide)
  have J2 : Inv X pins σ H1 { s1 with heap := s1.heap.push { cls := .type "tuple", data := .seq [u1, u2, u3].toArray } } := J1.kept (t' := s1.toks) fun bb oo ee => Heap.get?_push_of_some _ ee
  rw [hw]
  refine (wpAny_bind (wpAny_pure ?_))
  show wpAny (model X.prog X.w) X.A (do rule "assign.swapped-stores"; let items ← unpackItems (.ref s1.heap.objs.size) 3 none; assignInOrder [fun v => bindName X.env z v, fun v => bindName X.env y v, fun v => bindName X.env x v] items.reverse; pure Flow.next) _ _ _
  refine wpAny_bind (wpAny_rule (wpAny_bind (unpackItems_tuple (items := #[u1, u2, u3]) (J.ok.hd hc) (IsTup.new s1.heap _) fun h' hx' => ?_)))
  have J3 := J2.kept (h' := h') (t' := s1.toks) fun bb oo ee => hx' bb oo (Nat.ne_of_lt (Heap.lt_size ee)) ee
  show wpAny _ _ (assignInOrder [fun v => bindName X.env z v, fun v => bindName X.env y v, fun v => bindName X.env x v] [u3, u2, u1] >>= fun _ => pure Flow.next) _ _ _
  refine wpAny_bind (assignInOrder_cons (wpAny_bindName (store_ok J3 hN hl (.inl hz) rt (fun s2 J4 => ?_) (.inr hz))))
  refine assignInOrder_cons (wpAny_bindName (store_ok J4 hN hj (.inl hy) rw' (fun s3 J5 => ?_) (.inr hy)))
  refine assignInOrder_cons (wpAny_bindName (store_ok J5 hN hi (.inl hx) rv (fun s4 J6 => assignInOrder_nil (wpAny_pure ?_)) (.inr hx)))
  rw [List.set_comm _ _ (Ne.symm hij), List.set_comm _ _ (Ne.symm hil), List.set_comm _ _ (Ne.symm hjl)] at J6
  exact ⟨_, H1, J6, q1⟩
theorem s_par3 {i j l : Nat} {wa wb wc : WE} {st : Stmt} (h : PS X st (tPar3 i j l (tCons (upE X.K wa) (tCons (upE X.K wb) (tCons (upE X.K wc) tNil))))) :
    PS X st (upSt X.K fun E ρ μ => wa ρ μ fun x μ1 => wb ρ μ1 fun y μ2 => wc ρ μ2 fun z μ3 => E.nx (((ρ.set i (some x)).set j (some y)).set l (some z)) μ3) :=
  h.imp fun D σ H ⟨ρ, μ, Z, B, E, hs, hw, fin⟩ => upE_i hs hw fun d μ1 v H1 Z1 l1 hs1 r1 q => upE_i hs1 q fun e μ2 w H2 Z2 l2 hs2 r2 q2 => upE_i hs2 q2 fun f μ3 u H3 Z3 l3 hs3 r3 q3 =>
    ⟨v, w, u, rfl, (fin.later ((l1.trans l2).trans l3)).nx (((hs3.set ((r1.le l2).le l3) i).set (r2.le l3) j).set r3 l) q3⟩
theorem s_put {wo wi we : WE} {st : Stmt} (h : PS X st (tAsg (upE X.K we) (gSub (upE X.K wo) (upE X.K wi) (upP X.K)))) :
    PS X st (upSt X.K fun E ρ μ => we ρ μ fun v μ1 => wo ρ μ1 fun x μ2 => wi ρ μ2 fun y μ3 => opPut x y v μ3 fun μ4 => E.nx ρ μ4) :=
  h.imp fun D σ H ⟨ρ, μ, Z, B, E, hs, hw, fin⟩ => upE_i hs hw fun d μ1 v H1 Z1 l1 hs1 r1 q1 => upE_i hs1 q1 fun x μ2 w H2 Z2 l2 hs2 r2 q2 => upE_i hs2 q2 fun y μ3 u H3 Z3 l3 hs3 r3 q3 =>
    ⟨x, y, d, μ3, Z3, B, fun μ4 => E.nx ρ μ4, hs3.1, r2.le l3, r3, (r1.le l2).le l3, q3, fun μ4 H4 l4 hr4 q4 => (fin.later (((l1.trans l2).trans l3).trans l4)).nx (hs3.le l4 hr4) q4⟩
theorem s_drop {we : WE} {st : Stmt} (h : PS X st (tDrop (upE X.K we))) : PS X st (upSt X.K fun E ρ μ => we ρ μ fun _ μ1 => E.nx ρ μ1) :=
  h.imp fun D σ H ⟨ρ, μ, Z, B, E, hs, hw, fin⟩ => upE_i hs hw fun d μ1 v H1 Z1 l1 hs1 r1 q1 => (fin.later l1).nx hs1 q1
theorem s_ret {we : WE} {st : Stmt} (h : PS X st (tRet (upE X.K we))) : PS X st (upSt X.K fun E ρ μ => we ρ μ E.rt) :=
  h.imp fun D σ H ⟨ρ, μ, Z, B, E, hs, hw, fin⟩ => upE_i hs hw fun d μ1 v H1 Z1 l1 hs1 r1 q1 => fin.2.2.2 _ _ _ _ _ l1 hs1.1 r1 q1
theorem s_iff {tc : WT} {wa wb : DEnds → Rho → M → Prop} {st : Stmt} (h : PS X st (tIfS (upT X.K tc) (upSt X.K wa) (upSt X.K wb))) : PS X st (upSt X.K fun E ρ μ => tc ρ μ fun k μ1 => if k = true then wa E ρ μ1 else wb E ρ μ1) :=
  h.imp fun D σ H ⟨ρ, μ, Z, B, E, hs, hw, fin⟩ => upT_i hs hw fun k μ1 H1 Z1 l1 hs1 q1 => by
    cases k with
    | true =>
      rw [if_pos rfl] at q1 ⊢
      exact ⟨ρ, μ1, Z1, B, E, hs1, q1, fin.later l1⟩
    | false =>
      rw [if_neg Bool.false_ne_true] at q1 ⊢
      exact ⟨ρ, μ1, Z1, B, E, hs1, q1, fin.later l1⟩
theorem s_whl {tc : WT} {wb : DEnds → Rho → M → Prop} {st : Stmt} (h : PS X st (tWhile (upT X.K tc) (upSt X.K wb))) : PS X st (upSt X.K fun E ρ μ => ∃ W : Nat → Rho → M → Prop, (∃ m, W m ρ μ) ∧ ∀ m ρ' μ', W m ρ' μ' → tc ρ' μ' fun k μ1 =>
      if k = true then wb { E with nx := fun ρ2 μ2 => ∃ m', m' < m ∧ W m' ρ2 μ2, ct := fun ρ2 μ2 => ∃ m', m' < m ∧ W m' ρ2 μ2, bk := E.nx } ρ' μ1 else E.nx ρ' μ1) :=
  h.imp fun D σ H ⟨ρ, μ, Z, B, E, hs, hw, fin⟩ => by
    obtain ⟨W, ⟨m0, w0⟩, turn⟩ := hw
    refine ⟨fun m σ' H' => ∃ ρ' μ' Z', Le H Z H' Z' ∧ Sta X.K ρ' μ' Z' B σ' H' ∧ W m ρ' μ', ⟨m0, ρ, μ, Z, LeW.refl, hs, w0⟩, fun m σ' H' ⟨ρ', μ', Z', l, hs', w⟩ => ?_⟩
    refine upT_i hs' (turn m ρ' μ' w) fun k μ1 H1 Z1 l1 hs1 q1 => ?_
    cases k with
    | true =>
      rw [if_pos rfl] at q1 ⊢
      refine ⟨fun σ2 H2 => ∃ m', m' < m ∧ ∃ ρ' μ' Z', Le H Z H2 Z' ∧ Sta X.K ρ' μ' Z' B σ2 H2 ∧ W m' ρ' μ', fun σ2 H2 q => q, ?_⟩
      refine ⟨ρ', μ1, Z1, B, _, hs1, q1, fun ρ2 μ2 σ2 H2 Z2 l2 hs2 q2 => ?_, fun ρ2 μ2 σ2 H2 Z2 l2 hs2 q2 => ?_, fun ρ2 μ2 σ2 H2 Z2 l2 hs2 q2 => ?_, (fin.2.2.2.later l).later l1⟩
      · obtain ⟨m', hm, w'⟩ := q2
        exact ⟨m', hm, ρ2, μ2, Z2, (l.trans l1).trans l2, hs2, w'⟩
      · exact (((fin.later l).later l1).later l2).nx hs2 q2
      · obtain ⟨m', hm, w'⟩ := q2
        exact ⟨m', hm, ρ2, μ2, Z2, (l.trans l1).trans l2, hs2, w'⟩
    | false =>
      rw [if_neg Bool.false_ne_true] at q1 ⊢
      exact ((fin.later l).later l1).nx hs1 q1
theorem s_for {tg : CT} {wi : WI} {wb : DEnds → Rho → M → Prop} {st : Stmt} {g : TG} (hg : upG X.K tg g) (h : PS X st (tFor (upI X.K wi) g (upSt X.K wb))) :
    PS X st (upSt X.K fun E ρ μ => wi ρ μ fun s μ1 => ∃ P : Nat → Rho → M → Prop, P 0 ρ μ1 ∧ (∀ i ρ' μ', P i ρ' μ' → i ≤ s.items.length → s.ok μ') ∧
      (∀ i x ρ' μ', s.items[i]? = some x → P i ρ' μ' → ∃ ρ2, bindT μ' tg x ρ' = some ρ2 ∧ wb { E with nx := P (i + 1), ct := P (i + 1), bk := E.nx } ρ2 μ') ∧
      ∀ ρ' μ', P s.items.length ρ' μ' → E.nx ρ' μ') :=
  h.imp fun D σ H ⟨ρ, μ, Z, B, E, hs, hw, fin⟩ => by
    refine ⟨ρ, μ, Z, B, _, hs, hw, fun s μ1 J H1 Z1 l1 hr1 ok sv q1 => ?_⟩
    obtain ⟨P, p0, pok, step, done⟩ := q1
    have hs1 := hs.le l1 hr1
    refine ⟨fun i m σ' H' => m = s.items.length - i ∧ i ≤ s.items.length ∧ ∃ ρ' μ' Z', Le H1 Z1 H' Z' ∧ Sta X.K ρ' μ' Z' B σ' H' ∧ P i ρ' μ', ⟨_, rfl, Nat.zero_le _, ρ, μ1, Z1, LeW.refl, hs1, p0⟩, ?_⟩
    rintro i m σ' H' ⟨rfl, hi, ρ', μ', Z', l, hs', p⟩
    obtain ⟨sgo, syld, sstop⟩ := sv B (.inl rfl) H' Z' μ' l.weak hs'.1 (pok i ρ' μ' p hi)
    by_cases hlt : i < s.items.length
    · refine .inr ⟨sgo i hlt, fun σ2 H2 => ∃ ρ' μ' Z', Le H1 Z1 H2 Z' ∧ Sta X.K ρ' μ' Z' B σ2 H2 ∧ P (i + 1) ρ' μ', fun σ2 H2 q => ⟨_, by omega, rfl, hlt, q⟩, fun x H'' y => ?_⟩
      obtain ⟨ly, hry, rx⟩ := syld i x H'' _ y (List.getElem?_eq_getElem hlt)
      have l := l.trans ly
      have hs' := hs'.le ly hry
      obtain ⟨ρ2, eb, hw2⟩ := step i _ ρ' μ' (List.getElem?_eq_getElem hlt) p
      refine hg x σ' H'' _ _ ρ' ρ2 μ' Z' B hs'.2 rx eb fun σ2 rr2 _ => ?_
      refine ⟨ρ2, μ', Z', B, _, ⟨hs'.1, rr2⟩, hw2, fun ρ3 μ3 σ3 H3 Z3 l3 hs3 q3 => ?_, fun ρ3 μ3 σ3 H3 Z3 l3 hs3 q3 => ?_, fun ρ3 μ3 σ3 H3 Z3 l3 hs3 q3 => ?_, ((fin.2.2.2.later l1).later l)⟩
      · exact ⟨ρ3, μ3, Z3, l.trans l3, hs3, q3⟩
      · exact (((fin.later l1).later l).later l3).nx hs3 q3
      · exact ⟨ρ3, μ3, Z3, l.trans l3, hs3, q3⟩
    · have e : i = s.items.length := by omega
      subst e
      exact .inl ⟨sstop _ (Nat.le_refl _), ((fin.later l1).later l).nx hs' (done ρ' μ' p)⟩
end
end Rf

set_option Elab.async false
set_option linter.all false
set_option maxRecDepth 100000
/-! Rf10: statements that pass the look; defs; a whole text, level by level -/
namespace Rf
open PySem L2 PySem.Spec PyProof.Rows
variable {Γ : Tab} {k : Nat}

theorem aug_ok {i : Expr} {c : CE} {S : SC} (h : chkE c S i = true) (ov iv new : Value) : augStore i ov iv new = (do holding [new, ov, iv] (setItem ov iv new); release [new, ov, iv] []; pure .next) := by
  cases i with
  | Slice l u s p => cases c <;> cases h
  | _ => rfl
theorem sub_assign {o i : Expr} {p : Pos} {c : CE} {S : SC} {env : Env} (h : chkE c S i = true) (v : Value) : assign (.Subscript o i p) env v = (do
      let ov ← holding [v] (eval o env)
      let iv ← holding [v, ov] (eval i env)
      standAt p
      holding [v, ov, iv] (setItem ov iv v)
      release [v, ov, iv] []) := by
  cases i with
  | Slice l u s p => cases c <;> cases h
  | _ => rfl
/-- what is read at a place, by values -/
theorem get_ok {X : Cx} (hu : X.A.units + 64 < cLine) : PGet X (upO X.K opIdxC) := by
  intro pins s σ H o i ov iv Q I r1 r2 hw
  obtain ⟨dx, dy, μ, Z, B, Q0, hr, rx, ry, ho, fin⟩ := hw
  cases dx with
  | cel n =>
    simp only [opIdxC, opIdx] at ho
    split at ho
    · rename_i xs e
      cases dy with
      | int j =>
        simp only at ho
        split at ho
        · rename_i d e2
          obtain ⟨a, rfl, _, vs, h1, rs⟩ := hr.at_ e rx
          obtain ⟨w, e3, rw'⟩ := rs.atI e2
          cases ry
          cases (show ov = Value.ref a from r1)
          obtain ⟨t, rfl⟩ := (show ∃ t, iv = Value.int j t from r2)
          obtain ⟨its, r, pl, hz⟩ := I.list (.of h1)
          obtain ⟨m, q1, q2, q3, q4, q5⟩ := atI_get e3
          obtain ⟨w', ew, rw2⟩ := r.get q2
          have hl := r.length
          have hn := line63
          have fin' : EP X pins σ Q w' s := ⟨w, H, I, rw2, fin.here hr rw' ho⟩
          by_cases h0 : 0 ≤ j
          · have hj : j.toNat = m := by
              rw [seqIndex_of h0 q5] at q1
              exact Option.some.inj q1
            exact wpAny_getItem_list pl.isList h0 (by omega) (by rw [hj]; simpa using ew) fin'
          · have hj : (j + (its.toArray.size : Int)).toNat = m := by
              rw [seqIndex_neg (by omega) q4] at q1
              rw [List.size_toArray, ← hl]
              exact Option.some.inj q1
            exact wpAny_getItem_list_neg pl.isList (by omega) (by rw [List.size_toArray]; omega) (by omega) (by rw [hj]; simpa using ew) fin'
        · exact ho.elim
      | _ => exact ho.elim
    · rename_i kvs e
      split at ho
      · rename_i key ek
        split at ho
        · rename_i d e2
          obtain ⟨a, rfl, _, kws, h1, rs⟩ := hr.at_ e rx
          obtain ⟨w, e3, rw'⟩ := rs.get.1 d e2
          have ev := keyD_rel ek ry
          subst ev
          cases (show ov = Value.ref a from r1)
          exact d_getItem (by omega) I (by rw [← e3]; exact DGet.k h1) r2 fun w' s3 I3 rw2 => ⟨w, H, I3, rw2, fin.here hr rw' ho⟩
        · exact ho.elim
      · exact ho.elim
    · exact ho.elim
  | _ => exact ho.elim

section
variable {X : Cx} {S : SC}
/-- += and -= of ints -/
theorem ipq {op : Operator} (h : (op == .Add || op == .Sub) = true) : ∃ f : Int → Int → Int, PIp X op (ipI f) ∧ ∀ i j μ (Q : WQ), opBin op (.int i) (.int j) μ Q → Q (.int (f i j)) μ := by
  cases op <;> first
    | exact ⟨_, ip_add, fun i j μ Q q => q⟩
    | exact ⟨_, ip_sub, fun i j μ Q q => q.2⟩
    | cases h
mutual
theorem sndS : ∀ (c : CS) (X : Cx) (S : SC) (s : Stmt), Ctx X S Γ k → S.sc.kind = .function → chkS c S s = true → PS X s (upSt X.K (wS Γ c))
  | .set i e, X, S, s, C, hk, h => by
    simp only [chkS] at h
    split at h
    · rename_i x px v pos
      simp only [Bool.and_eq_true, beq_iff_eq] at h
      obtain ⟨⟨⟨⟨h1, h2⟩, h3⟩, h4⟩, h5⟩ := h
      have hE := (sndE e X S v C h4).1
      have hN : X.N[i]? = some x := by rw [C.N]; exact h1
      have nd : X.N.Nodup := by rw [C.N]; exact C.nd
      by_cases hv : notLc v = true
      · exact s_set (ps_set nd hN (loc_ok C h2) hE (nosw h4 hv _ _ _) (C.fn x h3)) fun _ _ _ q => q
      · cases v with
        | DictComp _ _ _ _ _ => cases h5
        | ListComp elt' gs scope p =>
          by_cases hsw : swapsWith (.ListComp elt' gs scope p) (some (.Name x px)) pos.line X.env = pure false
          · exact s_set (ps_set nd hN (loc_ok C h2) hE hsw (C.fn x h3)) fun _ _ _ q => q
          · have hkf : X.env.scope.kind = .function := by rw [C.sc]; exact hk
            have hb : X.env.blockKind = .function := by unfold Env.blockKind; rw [hkf]; rfl
            have hsT : swapsWith (.ListComp elt' gs scope p) (some (.Name x px)) pos.line X.env = pure true ∧ X.env.scope.names.lookup x = some .local := by
              have e1 : swapsWith (.ListComp elt' gs scope p) (some (.Name x px)) pos.line X.env = pure (X.env.blockKind == .function && X.env.kindOf x == some .local && px.line == p.line && !(scope.names.any fun (n, k) => n == x && (k == .local || k == .cell))) := rfl
              cases hc : (X.env.blockKind == .function && X.env.kindOf x == some .local && px.line == p.line && !(scope.names.any fun (n, k) => n == x && (k == .local || k == .cell))) with
              | false => rw [hc] at e1; exact absurd e1 hsw
              | true =>
                rw [hc] at e1
                simp only [Bool.and_eq_true, beq_iff_eq] at hc
                exact ⟨e1, hc.1.1.2⟩
            cases e with
            | lc tg it ifs elt own =>
              simp only [chkE] at h4
              split at h4
              · rename_i elt2 tg' it' ifs' scope2 p2 heq
                cases heq
                simp only [Bool.and_eq_true] at h4
                obtain ⟨⟨⟨⟨⟨⟨g1, g2⟩, g3⟩, g4⟩, g5⟩, g6⟩, g7⟩ := h4
                have hI := sndI it X S tg' it' C g4
                have eo : (ownOf S own).map (·.2) = own := by
                  unfold ownOf
                  rw [List.map_map]
                  exact (List.map_congr_left fun _ _ => rfl).trans (List.map_id _)
                have hL := ps_setLc (pos := p) (spos := pos) (py := px) (elt := elt') (te := upE X.K (wE Γ elt)) (g := gOf X.K tg) (tt := fOf X.K Γ ifs) C.calm nd hN hsT.2 hsT.1 hI (blkOk_by (by rw [C.N, C.sc]; exact g1)) (fun s H c cl fp => tgt_ok (C.blk s H scope cl c fp) g5) (fun s H c cl fp => sndF ifs _ _ ifs' (C.blk s H scope cl c fp) g6)
                  (fun s H c cl fp => (sndE elt _ _ elt' (C.blk s H scope cl c fp) g7).1) (fun x => fold_of g3 _ x)
                rw [eo] at hL
                exact s_set hL (lc_up (fun _ _ _ q => q) gOf_ok (fun i hi => by
                  rw [List.all_eq_true] at g2
                  simpa using g2 i hi) (fun σ H R q => fOf_up q) (fun _ _ _ q => q))
              · cases h4
            | _ => cases h4
        | _ => exact absurd rfl hv
    · cases h
  | .unp is e, X, S, s, C, hk, h => by
    simp only [chkS] at h
    split at h
    · rename_i es kk p v pos
      simp only [Bool.and_eq_true, beq_iff_eq] at h
      obtain ⟨⟨⟨h1, h2⟩, h3⟩, h4⟩ := h
      obtain ⟨p1, p2, p3⟩ := names_ok C is es h1 h2
      refine s_unp (ps_asg (sndE e X S v C h4).1 (pg_either C.calm p1 p2 p3) ?_ ?_ rfl)
      · exact nosw2 h4 (.Tuple es kk p) rfl pos.line X.env
      · refine noSwap_ok (by rw [C.sc]; exact hk) ?_
        rw [C.sc]; exact h3
    · cases h
  | .par i j a b, X, S, s, C, hk, h => by
    simp only [chkS] at h
    split at h
    · rename_i x px y py kk p u v k2 p2 pos
      simp only [Bool.and_eq_true, beq_iff_eq, decide_eq_true_eq, Bool.not_eq_true', beq_eq_false_iff_ne] at h
      obtain ⟨⟨⟨⟨⟨⟨⟨h1, h2⟩, h3⟩, h4⟩, h5⟩, h6⟩, h7⟩, h8⟩ := h
      have lc : ∀ z, isLocB S.sc z = true → X.env.scope.names.lookup z = some .local := fun z hz => by
        rw [C.sc]
        unfold isLocB at hz
        split at hz
        · assumption
        · cases hz
      exact s_par (ps_par C.calm (by rw [C.N]; exact C.nd) (by rw [C.N]; exact h1) (by rw [C.N]; exact h2) h3 (lc x h4) (lc y h5) (pa_cons (sndE a X S u C h7).1 (pa_cons (sndE b X S v C h8).1 pa_nil (star_one (st_of h8))) (star_one (st_of h7)))
        (swap_ok (by rw [C.sc]; exact hk) (by rw [C.sc]; exact h6)) rfl)
    · cases h
  | .par3 i j l a b c, X, S, s, C, hk, h => by
    simp only [chkS] at h
    split at h
    · rename_i x px y py z pz kk p u v t k2 p2 pos
      simp only [Bool.and_eq_true, beq_iff_eq, decide_eq_true_eq, Bool.not_eq_true', beq_eq_false_iff_ne] at h
      obtain ⟨⟨⟨⟨⟨⟨⟨⟨⟨⟨⟨⟨h1, h2⟩, h3⟩, n1⟩, n2⟩, n3⟩, h4⟩, h5⟩, h6⟩, h7⟩, h8⟩, h9⟩, h10⟩ := h
      have lc : ∀ z, isLocB S.sc z = true → X.env.scope.names.lookup z = some .local := fun z hz => by
        rw [C.sc]
        unfold isLocB at hz
        split at hz
        · assumption
        · cases hz
      exact s_par3 (ps_par3 C.calm (by rw [C.N]; exact C.nd) (by rw [C.N]; exact h1) (by rw [C.N]; exact h2) (by rw [C.N]; exact h3) n1 n2 n3 (lc x h4) (lc y h5) (lc z h6)
        (pa_cons (sndE a X S u C h8).1 (pa_cons (sndE b X S v C h9).1 (pa_cons (sndE c X S t C h10).1 pa_nil (star_one (st_of h10))) (star_one (st_of h9))) (star_one (st_of h8)))
        (swap_ok (by rw [C.sc]; exact hk) (by rw [C.sc]; exact h7)) rfl)
    · cases h
  | .put o i e, X, S, s, C, hk, h => by
    simp only [chkS] at h
    split at h
    · rename_i o' i' p v pos
      simp only [Bool.and_eq_true] at h
      obtain ⟨⟨h1, h2⟩, h3⟩ := h
      refine s_put (ps_asg (sndE e X S v C h3).1 (pg_sub (sndE o X S o' C h1).1 (sndE i X S i' C h2).1 (put_ok C.hu) (sub_assign h2)) ?_ ?_ ?_)
      · exact nosw2 h3 (.Subscript o' i' p) rfl pos.line X.env
      · cases v <;> rfl
      · rfl
    · cases h
  | .augV i op e, X, S, s, C, hk, h => by
    simp only [chkS] at h
    split at h
    · rename_i x p op' v pos
      simp only [Bool.and_eq_true, beq_iff_eq] at h
      obtain ⟨⟨⟨⟨⟨rfl, h1⟩, h2⟩, h3⟩, h4⟩, h5⟩ := h
      obtain ⟨f, hf, hq⟩ := ipq (X := X) h1
      refine (ps_aug (by rw [C.N]; exact C.nd) (by rw [C.N]; exact h2) (loc_ok C h3) (sndE e X S v C h5).1 hf (C.fn x h4)).imp fun D σ H ⟨ρ, μ, Z, B, E, hs, hw, fin⟩ => ?_
      simp only [wS] at hw
      cases eg : getV ρ i with
      | none => rw [eg] at hw; exact hw.elim
      | some d =>
        rw [eg] at hw
        unfold getV at eg
        split at eg
        · rename_i d' e'
          cases eg
          obtain ⟨w, w1, w2⟩ := hs.2.2 i d e'
          refine ⟨w, w1, upE_i hs hw fun y μ1 u H1 Z1 l1 hs1 r1 q1 => ?_⟩
          cases d with
          | int a =>
            cases y with
            | int b =>
              cases w2
              cases r1
              exact ⟨a, b, rfl, rfl, (fin.later l1).nx (hs1.set (.int _) i) (hq a b _ _ q1)⟩
            | _ => exact q1.elim
          | _ => cases y <;> exact q1.elim
        · cases eg
    · cases h
  | .augI o i op e, X, S, s, C, hk, h => by
    simp only [chkS] at h
    split at h
    · rename_i o' i' p op' v pos
      simp only [Bool.and_eq_true, beq_iff_eq] at h
      obtain ⟨⟨⟨⟨rfl, h1⟩, h2⟩, h3⟩, h4⟩ := h
      obtain ⟨f, hf, hq⟩ := ipq (X := X) h1
      refine (ps_augS (sndE o X S o' C h2).1 (sndE i X S i' C h3).1 (get_ok C.hu) (sndE e X S v C h4).1 hf (put_ok C.hu) (aug_ok h3)).imp fun D σ H ⟨ρ, μ, Z, B, E, hs, hw, fin⟩ => ?_
      refine upE_i hs hw fun x μ1 v1 H1 Z1 l1 hs1 r1 q1 => upE_i hs1 q1 fun y μ2 v2 H2 Z2 l2 hs2 r2 q2 => ?_
      refine ⟨x, y, μ2, Z2, B, _, hs2.1, r1.le l2, r2, q2, fun old μ3 w3 H3 Z3 l3 hr3 r3 q3 => ?_⟩
      have hs3 := hs2.le l3 hr3
      refine upE_i hs3 q3 fun z μ4 v4 H4 Z4 l4 hs4 r4 q4 => ?_
      cases old with
      | int a =>
        cases z with
        | int b =>
          cases r3
          cases r4
          refine ⟨a, b, rfl, rfl, ?_⟩
          exact ⟨x, y, .int (f a b), μ4, Z4, B, fun μ6 => E.nx ρ μ6, hs4.1, ((r1.le l2).le l3).le l4, (r2.le l3).le l4, .int _, hq a b _ _ q4, fun μ5 H5 l5 hr5 q5 => ((((fin.later l1).later l2).later l3).later l4 |>.later l5).nx (hs4.le l5 hr5) q5⟩
        | _ => exact q4.elim
      | _ => cases z <;> exact q4.elim
    · cases h
  | .drop e, X, S, s, C, hk, h => by
    simp only [chkS] at h
    split at h
    · rename_i v pos
      simp only [Bool.and_eq_true] at h
      exact s_drop (ps_expr (sndE e X S v C h.1).1 (nosw h.1 h.2 _ _ _))
    · cases h
  | .ret e, X, S, s, C, hk, h => by
    simp only [chkS] at h
    split at h
    · exact s_ret (ps_ret (sndE e X S _ C h).1)
    · cases h
  | .retN, X, S, s, C, hk, h => by
    simp only [chkS] at h
    split at h
    · exact ps_retN.imp fun D σ H ⟨ρ, μ, Z, B, E, hs, hw, fin⟩ => fin.2.2.2 _ _ _ _ _ LeW.refl hs.1 .non hw
    · cases h
  | .iff c a b, X, S, s, C, hk, h => by
    simp only [chkS] at h
    split at h
    · simp only [Bool.and_eq_true] at h
      exact s_iff (ps_if (sndE c X S _ C h.1.1).2 (sndSs a X S _ C hk h.1.2) (sndSs b X S _ C hk h.2))
    · cases h
  | .whl c b, X, S, s, C, hk, h => by
    simp only [chkS] at h
    split at h
    · simp only [Bool.and_eq_true] at h
      exact s_whl (ps_while (by rw [C.xe]; exact PassesOwn.never) (sndE c X S _ C h.1).2 (sndSs b X S _ C hk h.2))
    · cases h
  | .for tg it b, X, S, s, C, hk, h => by
    simp only [chkS] at h
    split at h
    · simp only [Bool.and_eq_true] at h
      exact s_for gOf_ok (ps_for (by rw [C.xe]; exact PassesOwn.never) C.calm (sndI it X S _ _ C h.1.2) (tgt_ok C h.1.1.1) (sndSs b X S _ C hk h.2) (fun x => fold_of h.1.1.2 _ x))
    · cases h
  | .brk, X, S, s, C, hk, h => by
    simp only [chkS] at h
    split at h
    · exact ps_break.imp fun D σ H ⟨ρ, μ, Z, B, E, hs, hw, fin⟩ => fin.2.1 _ _ _ _ _ LeW.refl hs hw
    · cases h
  | .cnt, X, S, s, C, hk, h => by
    simp only [chkS] at h
    split at h
    · exact ps_continue.imp fun D σ H ⟨ρ, μ, Z, B, E, hs, hw, fin⟩ => fin.2.2.1 _ _ _ _ _ LeW.refl hs hw
    · cases h
  | .pass, X, S, s, C, hk, h => by
    simp only [chkS] at h
    split at h
    · exact ps_pass.imp fun D σ H ⟨ρ, μ, Z, B, E, hs, hw, fin⟩ => fin.nx hs hw
    · cases h
  | .dead, X, S, s, C, hk, h => ⟨fun pins s σ H D I ⟨ρ, μ, Z, B, E, hs, hw, fin⟩ => hw.elim⟩
theorem sndSs : ∀ (c : CSs) (X : Cx) (S : SC) (ss : List Stmt), Ctx X S Γ k → S.sc.kind = .function → chkSs c S ss = true → PSs X ss (upSt X.K (wSs Γ c))
  | .nil, X, S, ss, C, hk, h => by
    cases ss with
    | nil => exact pss_nil.imp fun D σ H ⟨ρ, μ, Z, B, E, hs, hw, fin⟩ => fin.nx hs hw
    | cons _ _ => cases h
  | .cons c r, X, S, ss, C, hk, h => by
    cases ss with
    | nil => cases h
    | cons s ss =>
      simp only [chkSs, Bool.and_eq_true] at h
      refine (pss_cons (sndS c X S s C hk h.1) (sndSs r X S ss C hk h.2)).imp fun D σ H ⟨ρ, μ, Z, B, E, hs, hw, fin⟩ => ?_
      exact ⟨ρ, μ, Z, B, _, hs, hw, fun ρ' μ' σ' H' Z' l hs' q => ⟨ρ', μ', Z', B, E, hs', q, fin.later l⟩, fin.2.1, fin.2.2.1, fin.2.2.2⟩
end
end
end Rf

set_option Elab.async false
set_option linter.all false
set_option maxRecDepth 100000
/-! Rf11: defs; a whole text, level by level -/
namespace Rf
open PySem L2 PySem.Spec PyProof.Rows
variable {K : PySem.W.Frag} {H H1 H2 H' : Hp} {Z Z1 Z' Y B : List Addr} {μ μ' μ0 : M}

/-! ### what leaves a def -/
mutual
theorem RD.blw : ∀ {d : D} {v : V}, RD K H Z B d v → d.blw Z.length = true
  | _, _, .non => rfl
  | _, _, .bl _ => rfl
  | _, _, .int _ => rfl
  | _, _, .str _ => rfl
  | _, _, .ty _ => rfl
  | _, _, .fn _ => rfl
  | _, _, .tup _ r => by simpa [D.blw] using RDs.blw r
  | _, _, .lst _ _ _ r => by simpa [D.blw] using RDs.blw r
  | _, _, .scr _ r => by simpa [D.blw] using RDs.blw r
  | _, _, .cel e => by simpa [D.blw] using (List.getElem?_eq_some_iff.mp e).1
theorem RDs.blw : ∀ {ds : List D} {vs : List V}, RDs K H Z B ds vs → belowAll Z.length ds = true
  | _, _, .nil => rfl
  | _, _, .cons h r => by simp [belowAll, RD.blw h, RDs.blw r]
end
theorem RKs.blw {ds : List (Key × D)} {vs : List (Key × V)} (h : RKs K H Z B ds vs) : belowAll Z.length (ds.map (·.2)) = true := by
  induction h with
  | nil => rfl
  | cons r _ ih => simp [belowAll, r.2.blw, ih]
theorem COk.blw {a : Addr} {c : CO} (h : COk K H Z B a c) : c.blw Z.length = true := by
  cases c with
  | lst ds => obtain ⟨vs, _, r⟩ := h; exact r.blw
  | dK kvs => obtain ⟨vs, _, r⟩ := h; exact r.blw
theorem FzT.shrink {a : Addr} {vs : List V} (h : FzT K H (Z ++ Y) B a vs) : FzT K H Z B a vs := by
  rcases h with ⟨h, n, b⟩ | h
  · exact .inl ⟨h, fun z => n (List.mem_append_left _ z), b⟩
  · exact .inr h
theorem FzS.shrink {a : Addr} {vs : List V} (h : FzS K H (Z ++ Y) B a vs) : FzS K H Z B a vs := by
  rcases h with ⟨h, n, b⟩ | h
  · exact .inl ⟨h, fun z => n (List.mem_append_left _ z), b⟩
  · exact .inr h
mutual
theorem RD.shrink : ∀ {d : D} {v : V}, d.blw Z.length = true → RD K H (Z ++ Y) B d v → RD K H Z B d v
  | _, _, _, .non => .non
  | _, _, _, .bl b => .bl b
  | _, _, _, .int i => .int i
  | _, _, _, .str s => .str s
  | _, _, _, .ty n => .ty n
  | _, _, _, .fn e => .fn e
  | _, _, h, .tup f r => .tup f.shrink (RDs.shrink (by simpa [D.blw] using h) r)
  | _, _, h, .lst e n b r => .lst e (fun z => n (List.mem_append_left _ z)) b (RDs.shrink (by simpa [D.blw] using h) r)
  | _, _, h, .scr f r => .scr f.shrink (RDs.shrink (by simpa [D.blw] using h) r)
  | _, _, h, .cel e => .cel (by
      have h : decide (_ < Z.length) = true := h
      rw [List.getElem?_append_left (of_decide_eq_true h)] at e
      exact e)
theorem RDs.shrink : ∀ {ds : List D} {vs : List V}, belowAll Z.length ds = true → RDs K H (Z ++ Y) B ds vs → RDs K H Z B ds vs
  | _, _, _, .nil => .nil
  | _, _, h, .cons r rs => by
    simp only [belowAll, Bool.and_eq_true] at h
    exact .cons (RD.shrink h.1 r) (RDs.shrink h.2 rs)
end
theorem RKs.shrink {ds : List (Key × D)} {vs : List (Key × V)} (hb : belowAll Z.length (ds.map (·.2)) = true) (h : RKs K H (Z ++ Y) B ds vs) : RKs K H Z B ds vs := by
  induction h with
  | nil => exact .nil
  | cons r _ ih =>
    simp only [List.map_cons, belowAll, Bool.and_eq_true] at hb
    exact .cons ⟨r.1, r.2.shrink hb.1⟩ (ih hb.2)
theorem COk.shrink {a : Addr} {c : CO} (hb : c.blw Z.length = true) (h : COk K H (Z ++ Y) B a c) : COk K H Z B a c := by
  cases c with
  | lst ds => obtain ⟨vs, e, r⟩ := h; exact ⟨vs, e, r.shrink hb⟩
  | dK kvs => obtain ⟨vs, e, r⟩ := h; exact ⟨vs, e, RKs.shrink hb r⟩
mutual
theorem frz_ok (hr : HRel K μ (Z ++ Y) B H) : ∀ {d d' : D} {v : V}, d.frz Z.length μ = some d' → RD K H (Z ++ Y) B d v → RD K H Z B d' v
  | .non, d', v, e, r => by cases e; cases r; exact .non
  | .bl _, d', v, e, r => by cases e; cases r; exact .bl _
  | .int _, d', v, e, r => by cases e; cases r; exact .int _
  | .str _, d', v, e, r => by cases e; cases r; exact .str _
  | .ty _, d', v, e, r => by cases e; cases r; exact .ty _
  | .fn _ _, d', v, e, r => by
    cases e
    cases r with
    | fn h => exact .fn h
  | .tup xs, d', v, e, r => by
    cases h : frzAll Z.length μ xs with
    | none => rw [D.frz, h] at e; cases e
    | some ys =>
      rw [D.frz, h] at e
      cases e
      cases r with
      | tup f rs => exact .tup f.shrink (frzAll_ok hr h rs)
  | .lst xs, d', v, e, r => by
    cases h : frzAll Z.length μ xs with
    | none => rw [D.frz, h] at e; cases e
    | some ys =>
      rw [D.frz, h] at e
      cases e
      cases r with
      | lst f n b rs => exact .lst f (fun z => n (List.mem_append_left _ z)) b (frzAll_ok hr h rs)
  | .scr xs, d', v, e, r => by
    rw [D.frz] at e
    split at e
    · rename_i h
      cases e
      exact r.shrink (by simpa [D.blw] using h)
    · cases e
  | .cel k, d', v, e, r => by
    rw [D.frz] at e
    split at e
    · rename_i h
      cases e
      exact r.shrink (by simpa [D.blw] using h)
    · rename_i h
      split at e
      · rename_i xs q
        split at e
        · rename_i hb
          cases e
          obtain ⟨a, rfl, ea, vs, h1, rs⟩ := hr.at_ q r
          refine .lst h1 (fun z => ?_) (hr.zb a (List.mem_of_getElem? ea)) (rs.shrink hb)
          -- a stands behind Z
          obtain ⟨j, ej⟩ := List.mem_iff_getElem?.mp z
          have hj := (List.getElem?_eq_some_iff.mp ej).1
          have ej' : (Z ++ Y)[j]? = some a := by rw [List.getElem?_append_left hj]; exact ej
          have := nodup_at hr.nd ej' ea
          omega
        · cases e
      · cases e
theorem frzAll_ok (hr : HRel K μ (Z ++ Y) B H) : ∀ {ds ds' : List D} {vs : List V}, frzAll Z.length μ ds = some ds' → RDs K H (Z ++ Y) B ds vs → RDs K H Z B ds' vs
  | [], ds', vs, e, r => by cases e; cases r; exact .nil
  | d :: ds, ds', vs, e, r => by
    cases r with
    | cons r1 r2 =>
      cases h1 : d.frz Z.length μ with
      | none => simp [frzAll, h1] at e
      | some p =>
        cases h2 : frzAll Z.length μ ds with
        | none => simp [frzAll, h1, h2] at e
        | some qs =>
          simp [frzAll, h1, h2] at e
          subst e
          exact .cons (frz_ok hr h1 r1) (frzAll_ok hr h2 r2)
end
theorem rt_fin {Q : WQ} {Q' : VK} (h0 : HRel K μ0 Z B H) (fin : Fin K H Z B Q Q') : Fin K H Z B (rtD μ0 Q) Q' := by
  intro d μ' v H' Z' l hr r q
  rcases q with q | ⟨d', e, cl, q⟩
  · exact fin d μ' v H' Z' l hr r q
  · obtain ⟨Y, rfl⟩ := l.pre
    have hl : Z.length = μ0.length := h0.len
    rw [← hl] at e cl q
    have hlen : Z.length ≤ μ'.length := by
      have := hr.len
      rw [List.length_append] at this
      omega
    have l2 : Le H Z H' Z := ⟨fun a o ea n w => ⟨(l.keep a o ea n w).1, n⟩, ⟨[], by simp⟩, l.there⟩
    refine fin d' _ v H' Z l2 ⟨?_, ?_, fun a z => hr.zb a (List.mem_append_left _ z), hr.hb, fun i c ec => ?_⟩ (frz_ok hr e r) q
    · rw [List.length_take]; omega
    · have := hr.nd
      rw [List.nodup_append] at this
      exact this.1
    · have hi : i < Z.length := by
        have := (List.getElem?_eq_some_iff.mp ec).1
        rw [List.length_take] at this
        omega
      rw [List.getElem?_take_of_lt hi] at ec
      obtain ⟨a, ea, ok⟩ := hr.cel i c ec
      rw [List.getElem?_append_left hi] at ea
      refine ⟨a, ea, ok.shrink ?_⟩
      rcases cl i c hi ec with c0 | cb
      · obtain ⟨a', _, ok'⟩ := h0.cel i c c0
        exact ok'.blw
      · exact cb

/-! ### a def -/
def fnScB (N P : List Str) (sc : Scope) : Bool :=
  sc.kind == .function && !sc.isCoroutine && !sc.isGenerator && decide N.Nodup && (N.take P.length == P) && P.all (locB sc) && sc.names.all fun y => !(y.2 == .free)
theorem fnSc_ok {N P : List Str} {sc : Scope} (h : fnScB N P sc = true) : FnScope N P sc := by
  unfold fnScB at h
  simp only [Bool.and_eq_true, beq_iff_eq, Bool.not_eq_true', decide_eq_true_eq, List.all_eq_true] at h
  obtain ⟨⟨⟨⟨⟨⟨h1, h2⟩, h3⟩, h4⟩, h5⟩, h6⟩, h7⟩ := h
  refine ⟨h1, h2, h3, h4, h5, fun x hx => ?_, fun y hy e => ?_⟩
  · have := h6 x hx
    unfold locB at this
    split at this
    · exact .inl (by assumption)
    · exact .inr (by assumption)
    · cases this
  · have := h7 y hy
    rw [e] at this
    cases this
theorem start_rr {ds : List D} {vs : List V} (r : RDs K H Z B ds vs) (N : List Str) (hl : ds.length ≤ N.length) : RR K H Z B (startD N.length ds) (L2.start N vs) := by
  have e := r.length
  unfold startD L2.start
  refine ⟨by simp [e], fun i d h => ?_⟩
  by_cases hi : i < ds.length
  · rw [List.getElem?_append_left (by simpa using hi), List.getElem?_map] at h
    rw [List.getElem?_append_left (by simpa [← e] using hi), List.getElem?_map]
    cases q : ds[i]? with
    | none => rw [q] at h; cases h
    | some d' =>
      rw [q] at h
      cases h
      obtain ⟨v, q1, q2⟩ := r.get q
      exact ⟨v, by rw [q1]; rfl, q2⟩
  · rw [List.getElem?_append_right (by simpa using hi), List.getElem?_replicate] at h
    split at h <;> cases h
/-- a text's def in the core language -/
structure DefI where
  name : Str
  st : Stmt
  ps : List Str
  N : List Str
  ir : CSs
def DefI.S (d : DefI) (FN : List Str) (KW : List (Nat × Nat × List Str × List Nat)) (BN : List Str) (GC : Bool) (GD : Bool := false) (LC : Bool := false) (GL : List (Str × D) := []) : SC := ⟨d.N, defScope d.st, none, FN, KW, BN, GC, GD, LC, GL⟩
def DefI.ok (d : DefI) (FN : List Str) (KW : List (Nat × Nat × List Str × List Nat)) (BN : List Str) (GC : Bool) (GD : Bool := false) (LC : Bool := false) (GL : List (Str × D) := []) : Bool :=
  fnScB d.N d.ps (defScope d.st) && chkSs d.ir (d.S FN KW BN GC GD LC GL) (defBody d.st)
section
variable {P : Program} {w : World} {mg : Str → Option Value} {base : Heap} {k : Nat}
/-- the facts of the head about a text's defs: where each stands, how it binds -/
structure DefAt (K : PySem.W.Frag) (mg : Str → Option Value) (KW : List (Nat × Nat × List Str × List Nat)) (i : Nat) (d : DefI) (a : Addr) (fd : FuncData) : Prop where
  fn : Fun K d.name d.name d.st a fd
  at_ : mg d.name = some (.ref a)
  bi : Binds K fd d.ps []
  kb : ∀ n ks perm, (i, n, ks, perm) ∈ KW → KBinds K fd d.ps ks (permU perm n ks.length) (permV perm n ks.length)
  ns : PySem.W.nsIn K mainGlobals d.name = some (some (.ref a))
theorem def_ok {FN : List Str} {KW : List (Nat × Nat × List Str × List Nat)} {BN : List Str} {GC LC : Bool} {GL : List (Str × D)} {Γ : Tab} {S : DSpec} {d : DefI} {a : Addr} {fd : FuncData} (F : Fun K d.name d.name d.st a fd) (ok : d.ok FN KW BN GC false LC GL = true)
    (bn : ∀ n ∈ BN, mg n = none) (gc : GC = true → mg "gcd" = some (.builtin "math.gcd")) (lc : LC = true → mg "lcm" = some (.builtin "math.lcm")) (gl : ∀ p ∈ GL, ∃ (v : V) (u : Value), mg p.1 = some u ∧ RelV v u ∧ ∀ H Z B, RD K H Z B p.2 v)
    (fs : ∀ f x, FN[f]? = some x → ∃ (a : Addr) (fd : FuncData) (ps : List Str), mg x = some (.ref a) ∧ PySem.W.keepIn K (.ref a) = true ∧ FnOk P w K mg base CX0 k a fd ps (lift K (Γ f)) ∧ Binds K fd ps [] ∧
      (∀ n ks perm, (f, n, ks, perm) ∈ KW → KBinds K fd ps ks (permU perm n ks.length) (permV perm n ks.length)) ∧ PySem.W.nsIn K mainGlobals x = some (some (.ref a)))
    (len : ∀ ds μ Q, S ds μ Q → ds.length = d.ps.length) (body : ∀ ds μ Q, S ds μ Q → wDef Γ d.N.length d.ir ds μ Q) : FnOk P w K mg base CX0 (k + 1) a fd d.ps (lift K S) := by
  unfold DefI.ok at ok
  rw [Bool.and_eq_true] at ok
  have sc := fnSc_ok ok.1
  refine F.ok sc (fun vs H Q E ⟨ds, μ, Z, B, Q0, hr, rs, hS, fin⟩ => by rw [← rs.length]; exact len _ _ _ hS) fun cdv A outer s H vs Q E hr ⟨ds, μ, Z, B, Q0, h0, rs, hS, fin⟩ => ?_
  have hl := len _ _ _ hS
  have hpN : d.ps.length ≤ d.N.length := by
    have := congrArg List.length sc.pre
    rw [List.length_take] at this
    omega
  have C : Ctx (cxOf CX0 P w K mg base d.N d.name (defScope d.st) a cdv A outer s H E).nox (d.S FN KW BN GC false LC GL) Γ k :=
    { N := rfl, nd := sc.nd, sc := rfl, calm := rfl, room := hr, xe := rfl, bn := bn, gc := gc, gd := (fun z => by cases z), lc := lc, gl := gl, fn := fun _ _ => .inl rfl, fs := fun f x h => ⟨fs f x h⟩ }
  refine ⟨_, sndSs d.ir _ _ _ C sc.kind ok.2, startD d.N.length ds, μ, Z, B, _, ⟨h0, start_rr rs d.N (by omega)⟩, body ds μ Q0 hS, ?_, ?_, ?_, ?_⟩
  · intro ρ' μ' σ' H' Z' l hs q
    exact rt_fin h0 fin _ _ _ _ _ l hs.1 .non q
  · intro ρ' μ' σ' H' Z' l hs q
    exact q.elim
  · intro ρ' μ' σ' H' Z' l hs q
    exact q.elim
  · exact rt_fin h0 fin
/-- all defs of a text, level by level -/
theorem all_ok' {Ds : List DefI} {KW : List (Nat × Nat × List Str × List Nat)} {BN : List Str} {GC LC : Bool} {GL : List (Str × D)} {T : Nat → Tab} (ok : Ds.all (fun d => d.ok (Ds.map (·.name)) KW BN GC false LC GL) = true)
    (bn : ∀ n ∈ BN, mg n = none) (gc : GC = true → mg "gcd" = some (.builtin "math.gcd")) (lc : LC = true → mg "lcm" = some (.builtin "math.lcm")) (gl : ∀ p ∈ GL, ∃ (v : V) (u : Value), mg p.1 = some u ∧ RelV v u ∧ ∀ H Z B, RD K H Z B p.2 v)
    (at_ : ∀ i d, Ds[i]? = some d → ∃ a fd, DefAt K mg KW i d a fd)
    (T0 : ∀ f ds μ Q, ¬ T 0 f ds μ Q) (len : ∀ k i d ds μ Q, Ds[i]? = some d → T k i ds μ Q → ds.length = d.ps.length)
    (body : ∀ k i d ds μ Q, Ds[i]? = some d → T (k + 1) i ds μ Q → wDef (T k) d.N.length d.ir ds μ Q) :
    ∀ k i d a fd, Ds[i]? = some d → DefAt K mg KW i d a fd → FnOk P w K mg base CX0 k a fd d.ps (lift K (T k i))
  | 0, i, d, a, fd, hd, F => ⟨fun vs H Q E ⟨ds, μ, Z, B, Q0, hr, rs, hS, fin⟩ => (T0 _ _ _ _ hS).elim, fun A outer s H args us vs Q E _ _ _ _ ⟨ds, μ, Z, B, Q0, hr, rs, hS, fin⟩ => (T0 _ _ _ _ hS).elim⟩
  | k + 1, i, d, a, fd, hd, F => by
    refine def_ok F.fn (List.all_eq_true.mp ok d (List.mem_of_getElem? hd)) bn gc lc gl (fun f x hx => ?_) (fun ds μ Q h => len (k + 1) i d ds μ Q hd h) (fun ds μ Q h => body k i d ds μ Q hd h)
    rw [List.getElem?_map] at hx
    cases e : Ds[f]? with
    | none => rw [e] at hx; cases hx
    | some d' =>
      rw [e] at hx
      cases hx
      obtain ⟨a', fd', F'⟩ := at_ f d' e
      exact ⟨a', fd', d'.ps, F'.at_, F'.fn.kp, all_ok' ok bn gc lc gl at_ T0 len body k f d' a' fd' e F', F'.bi, F'.kb, F'.ns⟩
end
end Rf
namespace Rf
open PySem L2 PySem.Spec PyProof.Rows
theorem scr_ints {K : PySem.W.Frag} {H : Hp} {Z B : List Addr} : ∀ ns : List Int, RDs K H Z B (ns.map .int) (ns.map V.int)
  | [] => .nil
  | n :: ns => .cons (.int n) (scr_ints ns)
/-- where a law's call begins -/
theorem law_start {K : PySem.W.Frag} {H : Hp} {a : Addr} {ns : List Int} {S : DSpec} {E : XK} (h : S [.scr (ns.map .int)] [] fun d _ => d = .bl true) (hS : SqL K H a (ns.map V.int)) : lift K S [.ref a] H (fun v _ => v = .bl true) E := by
  have hr : HRel K [] [] [] H := ⟨rfl, .nil, fun _ z => (nomatch z), fun _ z => (nomatch z), fun i c e => by simp at e⟩
  refine ⟨[.scr (ns.map .int)], [], [], [], fun d _ => d = .bl true, hr, .cons (.scr (vs := ns.map V.int) ?_ (scr_ints ns)) .nil, h, fun d μ' w H' Z' l hr r q => ?_⟩
  · rcases hS with h | h
    · exact .inl ⟨h, by simp, by simp⟩
    · exact .inr h
  · subst q
    cases r
    rfl
end Rf

set_option Elab.async false
set_option linter.all false
set_option maxRecDepth 100000
/-! Rf12: rows for simp: what is wanted of the core language, read off -/
namespace Rf
open PySem L2
section
variable {Γ : Tab} {ρ : Rho} {μ : M} {Q : WQ} {i j : Int} {x y d : D}
@[simp] theorem r_getV0 {o : Option D} : getV (o :: ρ) 0 = o := by cases o <;> rfl
@[simp] theorem r_getVs {o : Option D} {n : Nat} : getV (o :: ρ) (n + 1) = getV ρ n := rfl
@[simp] theorem r_opI {C : Int → Int → Prop} {g : Int → Int → Int} : Rf.opI C g (.int i) (.int j) μ Q = (C i j ∧ Q (.int (g i j)) μ) := rfl
@[simp] theorem r_addI : opAdd (.int i) (.int j) μ Q = Q (.int (i + j)) μ := rfl
@[simp] theorem r_addS {a b : Str} : opAdd (.str a) (.str b) μ Q = (a.length + b.length ≤ sizeLine ∧ Q (.str (a ++ b)) μ) := rfl
@[simp] theorem r_addT {a b : List D} : opAdd (.tup a) (.tup b) μ Q = (a ≠ [] ∧ a.length + b.length ≤ sizeLine ∧ Q (.tup (a ++ b)) μ) := rfl
@[simp] theorem r_addL {a b : List D} : opAdd (.lst a) (.lst b) μ Q = newL (a ++ b) μ Q := by
  show (∃ xs ys, asL μ (.lst a) = some xs ∧ asL μ (.lst b) = some ys ∧ newL (xs ++ ys) μ Q) = _
  simp [asL]
@[simp] theorem r_add : opBin .Add = opAdd := rfl
@[simp] theorem r_sub : opBin .Sub (.int i) (.int j) μ Q = Q (.int (i - j)) μ := by
  show (True ∧ _) = _
  simp
@[simp] theorem r_mul : opBin .Mult (.int i) (.int j) μ Q = ((CMul i j ∨ CMulW i j) ∧ Q (.int (i * j)) μ) := rfl
@[simp] theorem r_fdiv : opBin .FloorDiv (.int i) (.int j) μ Q = (CDivW i j ∧ Q (.int (i / j)) μ) := rfl
@[simp] theorem r_mod : opBin .Mod (.int i) (.int j) μ Q = (0 < j ∧ Q (.int (i % j)) μ) := rfl
@[simp] theorem r_pow : opBin .Pow (.int i) (.int j) μ Q = ((CPow i j ∨ CPowW i j) ∧ Q (.int (i ^ j.toNat)) μ) := rfl
@[simp] theorem r_gcd : opBlt .gcd [.int i, .int j] μ Q = Q (.int ((Nat.gcd i.natAbs j.natAbs : Nat) : Int)) μ := rfl
@[simp] theorem r_abs : opBlt .abs [.int i] μ Q = Q (.int (if i < 0 then -i else i)) μ := rfl
@[simp] theorem r_int : opBlt .int [.int i] μ Q = Q (.int i) μ := rfl
@[simp] theorem r_intB {b : Bool} : opBlt .int [.bl b] μ Q = Q (.int (if b then 1 else 0)) μ := rfl
@[simp] theorem r_isi {t : D} : opBlt .isi [x, t] μ Q = (match isiD μ x t with | some b => Q (.bl b) μ | none => False) := by cases x <;> cases t <;> rfl
@[simp] theorem r_len : opBlt .len [x] μ Q = (match lenD μ x with | some n => Q (.int n) μ | none => False) := by cases x <;> rfl
@[simp] theorem r_all : opBlt .all [x] μ Q = (match (asL μ x).bind blsD with | some bs => Q (.bl (bs.all id)) μ | none => False) := by cases x <;> rfl
@[simp] theorem r_any : opBlt .any [x] μ Q = (match (asL μ x).bind blsD with | some bs => Q (.bl (bs.any id)) μ | none => False) := by cases x <;> rfl
@[simp] theorem r_list : opBlt .list [x] μ Q = (match asSq μ x with | some xs => newL xs μ Q | none => False) := by cases x <;> rfl
@[simp] theorem r_tupleT {xs : List D} : opBlt .tuple [.tup xs] μ Q = Q (.tup xs) μ := rfl
@[simp] theorem r_tupleL {xs : List D} : opBlt .tuple [.lst xs] μ Q = Q (.tup xs) μ := rfl
@[simp] theorem r_tupleC {n : Nat} : opBlt .tuple [.cel n] μ Q = (match asR μ (.cel n) with | some xs => Q (.tup xs) μ | none => False) := rfl
@[simp] theorem r_max : opBlt .max2 [.int i, .int j] μ Q = Q (.int (if j > i then j else i)) μ := rfl
@[simp] theorem r_min : opBlt .min2 [.int i, .int j] μ Q = Q (.int (if j < i then j else i)) μ := rfl
@[simp] theorem r_cmpI {g : Int → Int → Bool} : cmpI g (.int i) (.int j) = some (g i j) := rfl
@[simp] theorem r_isN : isD x .non = some (match x with | .non => true | _ => false) := rfl
@[simp] theorem r_isB {a b : Bool} : isD (.bl a) (.bl b) = some (decide (a = b)) := rfl
@[simp] theorem r_asL {xs : List D} : asL μ (.lst xs) = some xs := rfl
@[simp] theorem r_asLs {n : Nat} {xs : List D} (h : μ[n]? = some (.lst xs)) : asL μ (.cel n) = some xs := by simp [asL, h]
@[simp] theorem r_asR {xs : List D} : asR μ (.scr xs) = some xs := rfl
@[simp] theorem r_asRl {xs : List D} : asR μ (.lst xs) = some xs := rfl
@[simp] theorem r_asSq {xs : List D} : asSq μ (.tup xs) = some xs := rfl
@[simp] theorem r_asSql {xs : List D} : asSq μ (.lst xs) = some xs := rfl
@[simp] theorem r_asSqs {xs : List D} : asSq μ (.scr xs) = some xs := rfl
@[simp] theorem r_idxT {xs : List D} : opIdx (.tup xs) y μ Q = opIxSq (.tup xs) y μ Q := rfl
@[simp] theorem r_idxL {xs : List D} : opIdx (.lst xs) y μ Q = opIxSq (.lst xs) y μ Q := rfl
@[simp] theorem r_idxS {xs : List D} : opIdx (.scr xs) y μ Q = opIxSq (.scr xs) y μ Q := rfl
@[simp] theorem r_ixT {xs : List D} : opIxSq (.tup xs) (.int i) μ Q = (match atI xs i with | some d => Q d μ | none => False) := rfl
@[simp] theorem r_ixL {xs : List D} : opIxSq (.lst xs) (.int i) μ Q = (match atI xs i with | some d => Q d μ | none => False) := rfl
@[simp] theorem r_ixS {xs : List D} : opIxSq (.scr xs) (.int i) μ Q = (match atI xs i with | some d => Q d μ | none => False) := rfl
theorem at_nat {xs : List D} {n : Nat} (h : n < xs.length) : atI xs (n : Int) = some xs[n] := atI_nat (List.getElem?_eq_getElem h)
@[simp] theorem r_at0 {xs : List D} : atI (x :: xs) 0 = some x := by
  have := at_nat (xs := x :: xs) (n := 0) (by simp)
  simpa using this
@[simp] theorem r_at1 {z : D} {xs : List D} : atI (x :: z :: xs) 1 = some z := by
  have := at_nat (xs := x :: z :: xs) (n := 1) (by simp)
  simpa using this
@[simp] theorem r_at2 {z w : D} {xs : List D} : atI (x :: z :: w :: xs) 2 = some w := by
  have := at_nat (xs := x :: z :: w :: xs) (n := 2) (by simp)
  simpa using this
@[simp] theorem r_at3 {z w v : D} {xs : List D} : atI (x :: z :: w :: v :: xs) 3 = some v := by
  have := at_nat (xs := x :: z :: w :: v :: xs) (n := 3) (by simp)
  simpa using this
@[simp] theorem r_lenT {xs : List D} : lenD μ (.tup xs) = some xs.length := rfl
@[simp] theorem r_lenL {xs : List D} : lenD μ (.lst xs) = some xs.length := rfl
@[simp] theorem r_lenS {xs : List D} : lenD μ (.scr xs) = some xs.length := rfl
@[simp] theorem r_line : (2 ≤ sizeLine) = True := by simp [sizeLine_eq]
theorem line_le {n : Nat} (h : n ≤ 100000) : n ≤ sizeLine := Nat.le_trans h (by decide)
theorem line_lt {n : Nat} (h : n < 100000) : n < sizeLine := Nat.lt_of_lt_of_le h (by decide)
@[simp] theorem r_truB {b : Bool} : truD μ (.bl b) = some b := rfl
@[simp] theorem r_truI : truD μ (.int i) = some (i != 0) := rfl
theorem kits : ∀ a ∈ (["NoneType", "bool", "int", "str", "tuple", "list", "dict"] : List String), ∀ b ∈ (["bool", "int", "str", "tuple", "list", "dict"] : List String), kitB a b = some (a == b || (a == "bool" && b == "int")) := by decide +kernel
@[simp] theorem r_isiI {a : String} : isiD μ x (.ty a) = (match tyD μ x with | some b => kitB b a | none => none) := rfl
@[simp] theorem r_ty0 : tyD μ .non = some "NoneType" := rfl
@[simp] theorem r_ty1 {b : Bool} : tyD μ (.bl b) = some "bool" := rfl
@[simp] theorem r_ty2 : tyD μ (.int i) = some "int" := rfl
@[simp] theorem r_ty3 {s : Str} : tyD μ (.str s) = some "str" := rfl
@[simp] theorem r_ty4 {xs : List D} : tyD μ (.tup xs) = some "tuple" := rfl
@[simp] theorem r_ty5 {xs : List D} : tyD μ (.lst xs) = some "list" := rfl
theorem kit_r {a b : String} {k : Bool} (ha : a ∈ (["NoneType", "bool", "int", "str", "tuple", "list", "dict"] : List String)) (hb : b ∈ (["bool", "int", "str", "tuple", "list", "dict"] : List String)) (h : (a == b || (a == "bool" && b == "int")) = k) : kitB a b = some k := by
  rw [kits a ha b hb, h]
@[simp] theorem k11 : kitB "NoneType" "bool" = some false := kit_r (by decide) (by decide) (by decide)
@[simp] theorem k12 : kitB "NoneType" "int" = some false := kit_r (by decide) (by decide) (by decide)
@[simp] theorem k13 : kitB "NoneType" "str" = some false := kit_r (by decide) (by decide) (by decide)
@[simp] theorem k14 : kitB "NoneType" "tuple" = some false := kit_r (by decide) (by decide) (by decide)
@[simp] theorem k15 : kitB "NoneType" "list" = some false := kit_r (by decide) (by decide) (by decide)
@[simp] theorem k21 : kitB "bool" "bool" = some true := kit_r (by decide) (by decide) (by decide)
@[simp] theorem k22 : kitB "bool" "int" = some true := kit_r (by decide) (by decide) (by decide)
@[simp] theorem k23 : kitB "bool" "str" = some false := kit_r (by decide) (by decide) (by decide)
@[simp] theorem k24 : kitB "bool" "tuple" = some false := kit_r (by decide) (by decide) (by decide)
@[simp] theorem k25 : kitB "bool" "list" = some false := kit_r (by decide) (by decide) (by decide)
@[simp] theorem k31 : kitB "int" "bool" = some false := kit_r (by decide) (by decide) (by decide)
@[simp] theorem k32 : kitB "int" "int" = some true := kit_r (by decide) (by decide) (by decide)
@[simp] theorem k33 : kitB "int" "str" = some false := kit_r (by decide) (by decide) (by decide)
@[simp] theorem k34 : kitB "int" "tuple" = some false := kit_r (by decide) (by decide) (by decide)
@[simp] theorem k35 : kitB "int" "list" = some false := kit_r (by decide) (by decide) (by decide)
@[simp] theorem k41 : kitB "str" "bool" = some false := kit_r (by decide) (by decide) (by decide)
@[simp] theorem k42 : kitB "str" "int" = some false := kit_r (by decide) (by decide) (by decide)
@[simp] theorem k43 : kitB "str" "str" = some true := kit_r (by decide) (by decide) (by decide)
@[simp] theorem k44 : kitB "str" "tuple" = some false := kit_r (by decide) (by decide) (by decide)
@[simp] theorem k45 : kitB "str" "list" = some false := kit_r (by decide) (by decide) (by decide)
@[simp] theorem k51 : kitB "tuple" "bool" = some false := kit_r (by decide) (by decide) (by decide)
@[simp] theorem k52 : kitB "tuple" "int" = some false := kit_r (by decide) (by decide) (by decide)
@[simp] theorem k53 : kitB "tuple" "str" = some false := kit_r (by decide) (by decide) (by decide)
@[simp] theorem k54 : kitB "tuple" "tuple" = some true := kit_r (by decide) (by decide) (by decide)
@[simp] theorem k55 : kitB "tuple" "list" = some false := kit_r (by decide) (by decide) (by decide)
@[simp] theorem k61 : kitB "list" "bool" = some false := kit_r (by decide) (by decide) (by decide)
@[simp] theorem k62 : kitB "list" "int" = some false := kit_r (by decide) (by decide) (by decide)
@[simp] theorem k63 : kitB "list" "str" = some false := kit_r (by decide) (by decide) (by decide)
@[simp] theorem k64 : kitB "list" "tuple" = some false := kit_r (by decide) (by decide) (by decide)
@[simp] theorem k65 : kitB "list" "list" = some true := kit_r (by decide) (by decide) (by decide)
/-- a value leaves as it is -/
theorem rt_here {μ0 : M} (h : Q d μ) : rtD μ0 Q d μ := .inl h
end
end Rf

set_option Elab.async false
set_option linter.all false
set_option maxRecDepth 100000
/-! Rf13: more rows for simp: ==, dictionaries, comprehensions -/
namespace Rf
open PySem L2
section
variable {Γ : Tab} {ρ : Rho} {μ : M} {Q : WQ} {i j : Int} {x y d : D}
theorem shaped_i : SeqAt.shaped (.int i) = true := by simp [SeqAt.shaped, PyData.canLay0, PyData.depth]
theorem shaped_b {b : Bool} : SeqAt.shaped (.bool b) = true := by simp [SeqAt.shaped, PyData.canLay0, PyData.depth]
@[simp] theorem q_ii : eqD μ (.int i) (.int j) = some (decide (i = j)) := by
  simp only [eqD, eqP, toPm, toP, shaped_i, Bool.and_self, if_true, PyData.eqv]
  by_cases h : i = j <;> simp [h]
@[simp] theorem q_bb {a b : Bool} : eqD μ (.bl a) (.bl b) = some (a == b) := by
  simp only [eqD, eqP, toPm, toP, shaped_b, Bool.and_self, if_true, PyData.eqv]
@[simp] theorem q_ss {a b : Str} : eqD μ (.str a) (.str b) = some (decide (a = b)) := rfl
theorem q_t2 {a b c e : Int} : eqD μ (.tup [.int a, .int b]) (.tup [.int c, .int e]) = some (decide (a = c ∧ b = e)) := by
  have h : ∀ p q : Int, SeqAt.shaped (.tuple [.int p, .int q]) = true := fun p q => by simp [SeqAt.shaped, PyData.canLay0, PyData.canLayAll0, PyData.depth, PyData.depthAll]
  simp only [eqD, eqP, toPm, toP, toPs, Option.map_some, h, Bool.and_self, if_true, PyData.eqv, PyData.eqvAll, Bool.and_true]
  by_cases h1 : a = c <;> by_cases h2 : b = e <;> simp [h1, h2]
@[simp] theorem r_dct {n : Nat} {kvs : List (Key × D)} {k : Str} (h : μ[n]? = some (.dK kvs)) : opIdx (.cel n) (.str k) μ Q = (match dget kvs (.inr k) with | some d => Q d μ | none => False) := by
  simp only [opIdx, h, keyD] <;> (cases dget kvs (.inr k) <;> rfl)
theorem r_put {n : Nat} {kvs : List (Key × D)} {k : Str} {P : M → Prop} (h : μ[n]? = some (.dK kvs)) : opPut (.cel n) (.str k) d μ P = (kvs.length < sizeLine ∧ P (μ.set n (.dK (dput kvs (.inr k) d)))) := by
  simp only [opPut, h, keyD]
theorem wS1 {s : CS} {r : CSs} {E : DEnds} : wSs Γ (.cons s r) E ρ μ = wS Γ s { E with nx := fun ρ1 μ1 => wSs Γ r E ρ1 μ1 } ρ μ := rfl
@[simp] theorem wS0 {E : DEnds} : wSs Γ .nil E ρ μ = E.nx ρ μ := rfl
theorem set_val {e : CE} {n : Nat} {E : DEnds} (d : D) (h1 : ∀ P : WQ, P d μ → wE Γ e ρ μ P) (h2 : E.nx (ρ.set n (some d)) μ) : wS Γ (.set n e) E ρ μ := h1 _ h2
@[simp] theorem r_slcS {xs : List D} {lo hi : Option Int} : opSlc (.scr xs) lo hi μ Q = newL (cutD xs lo hi) μ Q := by simp only [opSlc, asR]
@[simp] theorem r_slcL {xs : List D} {lo hi : Option Int} : opSlc (.lst xs) lo hi μ Q = newL (cutD xs lo hi) μ Q := by simp only [opSlc, asR, asL]
@[simp] theorem r_slcT {xs : List D} {lo hi : Option Int} : opSlc (.tup xs) lo hi μ Q = (¬ (HT.sIx xs.length 0 lo = 0 ∧ HT.sIx xs.length xs.length hi = xs.length) ∧ Q (.tup (cutD xs lo hi)) μ) := rfl
theorem iff_val {c : CE} {a b : CSs} {E : DEnds} (v : Bool) (h1 : ∀ P : Bool → M → Prop, P v μ → wT Γ c ρ μ P) (h2 : if v = true then wSs Γ a E ρ μ else wSs Γ b E ρ μ) : wS Γ (.iff c a b) E ρ μ := h1 _ h2
theorem set_post {e : CE} {n : Nat} {E : DEnds} (R : D → M → Prop) (h1 : ∀ P : WQ, (∀ d μ', R d μ' → P d μ') → wE Γ e ρ μ P) (h2 : ∀ d μ', R d μ' → E.nx (ρ.set n (some d)) μ') : wS Γ (.set n e) E ρ μ := h1 _ h2
theorem iff_any {c : CE} {a b : CSs} {E : DEnds} (h1 : ∀ P : Bool → M → Prop, (∀ v, P v μ) → wT Γ c ρ μ P) (ha : wSs Γ a E ρ μ) (hb : wSs Γ b E ρ μ) : wS Γ (.iff c a b) E ρ μ := h1 _ fun v => by cases v <;> simp [ha, hb]
/-- .. by what it is alone -/
theorem set_val' {e : CE} {n : Nat} {E : DEnds} (R : D → Prop) (h1 : ∀ P : WQ, (∀ d, R d → P d μ) → wE Γ e ρ μ P) (h2 : ∀ d, R d → E.nx (ρ.set n (some d)) μ) : wS Γ (.set n e) E ρ μ := h1 _ h2
/-- a comprehension that leaves the state alone -/
theorem lc_pure {tg : CT} {elt : WE} {own : List Nat} {s : Src} (hs : s.ok μ) (hl : s.items.length ≤ sizeLine) (f : D → D)
    (h : ∀ (i : Nat) x, s.items[i]? = some x → ∃ ρ2, bindT μ tg x (wipeD ρ own) = some ρ2 ∧ ∀ P : WQ, P (f x) μ → elt ρ2 μ P)
    (hq : newL (s.items.map f) μ Q) : wLc tg (wF Γ .nil) elt own s ρ μ Q := by
  refine ⟨fun i acc μ' => acc = (s.items.take i).map f ∧ μ' = μ, ⟨by simp, rfl⟩, fun i acc μ' h _ => h.2 ▸ hs, ?_, ?_⟩
  · rintro i x acc μ' hx ⟨rfl, rfl⟩
    have hi : i < s.items.length := (List.getElem?_eq_some_iff.mp hx).1
    obtain ⟨ρ2, hb, hh⟩ := h i x hx
    refine ⟨ρ2, hb, ?_⟩
    simp only [wF, if_true]
    refine hh _ ⟨by simp; omega, ?_, rfl⟩
    rw [List.take_add_one, hx]
    simp
  · rintro acc μ' ⟨rfl, rfl⟩
    simpa using hq
/-- a comprehension that picks and leaves the state alone -/
theorem lc_pick {tg : CT} {ifs : WT} {elt : WE} {own : List Nat} {s : Src} (hs : s.ok μ) (hl : s.items.length ≤ sizeLine) (g : D → Bool) (f : D → D)
    (h : ∀ (i : Nat) x, s.items[i]? = some x → ∃ ρ2, bindT μ tg x (wipeD ρ own) = some ρ2 ∧ (∀ P : Bool → M → Prop, P (g x) μ → ifs ρ2 μ P) ∧ (g x = true → ∀ P : WQ, P (f x) μ → elt ρ2 μ P))
    (hq : newL ((s.items.filter g).map f) μ Q) : wLc tg ifs elt own s ρ μ Q := by
  refine ⟨fun i acc μ' => acc = ((s.items.take i).filter g).map f ∧ μ' = μ, ⟨by simp, rfl⟩, fun i acc μ' h _ => h.2 ▸ hs, ?_, ?_⟩
  · rintro i x acc μ' hx ⟨rfl, rfl⟩
    have hi : i < s.items.length := (List.getElem?_eq_some_iff.mp hx).1
    obtain ⟨ρ2, hb, h1, h2⟩ := h i x hx
    refine ⟨ρ2, hb, h1 _ ?_⟩
    have e : s.items.take (i + 1) = s.items.take i ++ [x] := by rw [List.take_add_one, hx]; rfl
    by_cases hg : g x = true
    · rw [if_pos hg]
      refine h2 hg _ ⟨?_, ?_, rfl⟩
      · have := List.length_filter_le g (s.items.take i)
        simp at this ⊢
        omega
      · rw [e, List.filter_append, List.map_append]
        simp [hg]
    · rw [if_neg hg]
      refine ⟨?_, rfl⟩
      rw [e, List.filter_append, List.map_append]
      simp [hg]
  · rintro acc μ' ⟨rfl, rfl⟩
    simpa using hq
theorem r_rangeD {lo : Int} {n i : Nat} {x : D} (h : (rangeD lo n)[i]? = some x) : i < n ∧ x = .int (lo + i) := by
  simp only [rangeD, List.getElem?_map, Option.map_eq_some_iff] at h
  obtain ⟨a, ha, rfl⟩ := h
  have := List.getElem?_eq_some_iff.mp ha
  obtain ⟨h1, h2⟩ := this
  simp at h1 h2
  exact ⟨h1, by rw [h2]⟩
@[simp] theorem r_rangeL {lo : Int} {n : Nat} : (rangeD lo n).length = n := by simp [rangeD]
theorem new_l {xs : List D} (hl : xs.length ≤ sizeLine) (h : Q (.lst xs) μ) : newL xs μ Q := ⟨hl, .inl h⟩
theorem new_c {xs : List D} (hl : xs.length ≤ sizeLine) (h : Q (.cel μ.length) (μ ++ [.lst xs])) : newL xs μ Q := ⟨hl, .inr h⟩
end
end Rf

set_option Elab.async false
set_option linter.all false
set_option maxRecDepth 100000
/-! Rf14: the law's own def, called from the claim: there nothing is being shown (repr may be called) -/
namespace Rf
open PySem L2 PySem.Spec PyProof.Rows
variable {P : Program} {w : World} {K : PySem.W.Frag} {mg mb : Str → Option Value}
/-- what a def promises where it is called from A -/
def RunIn (P : Program) (w : World) (K : PySem.W.Frag) (mg : Str → Option Value) (base : Heap) (A : Around) (f : Addr) (fd : FuncData) (ps : List Str) (sp : Sp) : Prop :=
  ∀ (outer : List Env) (s : Shared) (H : Hp) (args : Args) (us : List Value) (vs : List V) (Q : VK) (E : XK), Env0 P w K mg base A outer s H → BindsTo s fd args (ps.zip us) → Vals vs us → sp vs H Q E →
    codeAny (model P w) A (.call (.ref f) args) (CR CX0 outer P w H s Q E) s
theorem run_in {base : Heap} {A : Around} {k : Nat} {f : Addr} {name qual : Str} {params : Arguments} {body : List Stmt} {scope : Scope} {dV kV doc pm cdv ct oc : Value} {an od : Option Addr}
    {osl : Array (Option Value)} {N ps : List Str} {sp : Sp} (fk : K.lookup f = some ⟨oc, od, .func (PySem.W.fnOf name qual params body scope dV kV doc pm an cdv ct), osl⟩) (fcd : PySem.W.codeIn K cdv qual = true) (FS : FnScope N ps scope) (rA : Room (k + 1) A)
    (flen : ∀ vs H Q E, sp vs H Q E → vs.length = ps.length)
    (bd : ∀ (outer : List Env) (s : Shared) (H : Hp) (vs : List V) (Q : VK) (E : XK), sp vs H Q E →
      ∃ t, PSs (cxOf CX0 P w K mg base N qual scope f cdv A outer s H E) body t ∧ t { nx := fun _ H' => Q .non H', rt := Q } (start N vs) H) :
    RunIn P w K mg base A f (PySem.W.fnOf name qual params body scope dV kV doc pm an cdv ct) ps sp := by
  intro outer s H args us vs Q E z0 zb zr zsp
  have zl := flen _ _ _ _ zsp
  have inK : K.In s.heap := z0.mod.kin.keeps fun b o e => (z0.bs b o e).1
  have noL : s.heap.NoLimit := z0.mod.nolimit.keeps fun b o e => (z0.bs b o e).1
  have kinds : ∀ y ∈ ps.zip us, scope.names.lookup y.1 = some .local ∨ (scope.names.lookup y.1 = some .cell ∧ ((cellsFrom (s.heap.objs.size + 1) scope.names []).lookup y.1).isSome = true) := fun ⟨pn, pv⟩ py => by
    rcases FS.par pn (List.of_mem_zip py).1 with q | q
    · exact (.inl q)
    · exact (.inr ⟨q, PySem.W.cellsFrom_some _ _ _ (.inl q)⟩)
  refine codeAny_call_function rA.depth (inK _ _ fk) rfl FS.co FS.gen rfl (PySem.W.codeRec_of inK fcd) (zb _ _ _ _ ?_)
  refine wpAny_newFunctionEnv_cells FS.kind kinds fun env henv s1 x1 => ?_
  subst henv
  refine ⟨noL.keeps x1.toInCall.keep, codeAny_func ?_⟩
  obtain ⟨t, ht, hq⟩ := bd outer s H vs Q E zsp
  have J : Inv (cxOf CX0 P w K mg base N qual scope f cdv A outer s H E) [] (start N vs) H s1 := inv_start FS rA.hd z0 zl zr x1
  refine wpAny_mono (ht.run [] s1 (start N vs) H _ J hq) (fun fl s' res => ?_) fun e s' res => res
  have out : ∀ {σ' : L2.St} {H' : Hp} {v : V} {u : Value}, Inv (cxOf CX0 P w K mg base N qual scope f cdv A outer s H E) [] σ' H' s' → RelV v u → Q v H' → L2.CE outer P w H s Q u s' :=
    fun {σ' H' v u} J' rv q => ⟨v, H', J'.os, J'.bare, J'.base, J'.hok, rv, q⟩
  cases fl with
  | ret u => obtain ⟨v, σ', H', J', rv, q⟩ := res; exact out J' rv q
  | next => obtain ⟨σ', H', J', q⟩ := res; exact out (v := V.non) (u := Value.none) J' rfl q
  | brk => obtain ⟨_, _, _, q⟩ := res; exact q.elim
  | cont => obtain ⟨_, _, _, q⟩ := res; exact q.elim
/-- the claim's call -/
theorem claim_call {fa sa : Addr} {fd : FuncData} {x : Str} {sp : Sp} {st : Shared} {its : List Value} {ns : List Int}
    (inK : K.In st.heap) (nsM : st.heap.Ns mainGlobals mg) (nsB : st.heap.Ns builtinsNs mb) (nsBB : ∀ x : Str, x ≠ "__name__" → mb x = bootBuiltins x) (noL : st.heap.NoLimit) (noG : st.gens = #[])
    (sobj : st.heap.get? sa = some { cls := .type "list", data := .seq its.toArray }) (sint : IntsAre its ns) (slen : ns.length ≤ sizeLine)
    (F : ∀ base : Heap, K.In base → base.Ns mainGlobals mg → RunIn P w K mg base callerA fa fd [x] sp) (fbind : ∀ (s : Shared) (u : Value), BindsTo s fd ⟨[u], []⟩ [(x, u)])
    (begin_ : ∀ H : Hp, SqL K H sa (ns.map V.int) → sp [.ref sa] H (fun v _ => v = .bl true) fun _ _ _ => False) :
    codeAny (model P w) callerA (.call (.ref fa) ⟨[.ref sa], []⟩) (fun r s' => r = .ok (.ret (.bool true)) ∧ OldK st.heap s'.heap ∧ s'.os = st.os ∧ AllBare s'.gens) st := by
  have rels := vals_ints sint
  have lens := sint.length
  have main : ∀ H : Hp, (∀ b, H b = none ∨ ∃ ob xs, H b = some (.frz ob xs)) → SqL K H sa (ns.map V.int) → HOk P w H st.heap → (∀ b, H b ≠ none → b = sa) → (H sa ≠ none → K.lookup sa = none) →
      codeAny (model P w) callerA (.call (.ref fa) ⟨[.ref sa], []⟩) (fun r s' => r = .ok (.ret (.bool true)) ∧ OldK st.heap s'.heap ∧ s'.os = st.os ∧ AllBare s'.gens) st := by
    intro H frzn hS hok only_ free_
    have low : ∀ {b : Addr} {o : Obj}, st.heap.get? b = some o → H b = none → (hidT st.heap H).get? b = some o := fun e n => hidT_get e n
    have noD : ∀ {b : Addr} {o : Obj} {es : Array DictEntry} {ep : Nat}, st.heap.get? b = some o → o.data = .dict es ep → H b = none := fun {b o es ep} e d => by
      cases q : H b with
      | none => rfl
      | some u =>
        have eb : b = sa := only_ b (by rw [q]; simp)
        subst eb
        rw [sobj] at e
        cases e
        have dd : Data.seq its.toArray _ = Data.dict es ep := d
        cases dd
    have names : ∀ {b : Addr} {m : Str → Option Value}, st.heap.Ns b m → (hidT st.heap H).Ns b m := fun {b m} ⟨o, es, ep, e, d, r⟩ => ⟨o, es, ep, low e (noD e d), d, r⟩
    have inB : K.In (hidT st.heap H) := fun b o e => low (inK b o e) (by
      cases q : H b with
      | none => rfl
      | some u =>
        have eb : b = sa := only_ b (by rw [q]; simp)
        subst eb
        rw [free_ (by rw [q]; simp)] at e
        cases e)
    have md : Mod K mg (hidT st.heap H) := ⟨inB, names nsM, ⟨mb, names nsB, nsBB⟩, let ⟨mc, h1, h2⟩ := noL; ⟨mc, names h1, h2⟩⟩
    have z0 : Env0 P w K mg (hidT st.heap H) callerA [] st H := ⟨rfl, md, fun b o e => of_hidT e, Nat.le_of_eq (hidT_size _ _), trivial, fun b hb => absurd (show b ∈ ([] : List Addr) from hb) (by simp), hok, .of_eq noG⟩
    refine codeAny_mono ((F _ inB (names nsM)) [] st H ⟨[.ref sa], []⟩ [.ref sa] [.ref sa] _ _ z0 (fbind st (.ref sa)) (.cons rfl .nil) (begin_ H hS)) fun r s' res => ?_
    cases r with
    | error e => exact (show False from res).elim
    | ok fl =>
      cases fl with
      | ret u =>
        obtain ⟨v, H', eos, ebare, un, hok2, r2, q⟩ := res
        have q2 : v = .bl true := q
        subst q2
        obtain rfl : u = Value.bool true := r2
        refine ⟨rfl, OldK.of_keep fun b o e => ?_, eos, ebare⟩
        cases q : H b with
        | none => exact un.keep b o e q (by intro z; exact absurd (show b ∈ ([] : List Addr) from z) (by simp)) (by simp)
        | some u =>
          rcases frzn b with z | ⟨ob, xs, z⟩
          · rw [q] at z
            cases z
          · have zz := un.frzs b ob _ z
            obtain ⟨e1, _⟩ := hok b _ z
            obtain ⟨e2, _⟩ := hok2 b _ zz
            rw [e] at e1
            cases e1
            exact e2
      | _ => exact (show False from res).elim
  cases hk : K.lookup sa with
  | some o =>
    have e := inK sa o hk
    rw [sobj] at e
    cases e
    exact main (fun _ => none) (fun _ => .inl rfl) (.inr ⟨_, its.toArray, _, hk, rfl, rfl, rfl, by rw [List.size_toArray, lens]; exact slen, by simpa using rels⟩) (fun b u z => by cases (show (none : Option HO) = some u from z)) (fun b z => absurd rfl z) fun z => absurd rfl z
  | none =>
    have at_ : (fun b => if b = sa then some (HO.frz { cls := .type "list", data := .seq its.toArray } (.lst (ns.map V.int))) else none) sa = some (HO.frz { cls := .type "list", data := .seq its.toArray } (.lst (ns.map V.int))) := if_pos rfl
    refine main (fun b => if b = sa then some (.frz { cls := .type "list", data := .seq its.toArray } (.lst (ns.map V.int))) else none) (fun b => ?_) (.inl (.inr ⟨_, at_⟩)) (fun b u z => ?_) (fun b z => ?_) fun _ => hk
    · by_cases hb : b = sa
      · exact .inr ⟨_, _, if_pos hb⟩
      · exact .inl (if_neg hb)
    · by_cases hb : b = sa
      · subst hb
        cases at_.symm.trans z
        exact ⟨sobj, by rw [List.length_map]; exact slen, its, _, rels, sobj⟩
      · cases (if_neg hb).symm.trans z
    · by_cases hb : b = sa
      · exact hb
      · exact absurd (if_neg hb) z
/-- the walk of a law from its def's promise at the claim's call -/
theorem walk_claim {l : PySem.W.OpenLaw} {n : Nat} {q : Program} {loose : List Str} {XP : (Str → Option Value) → Heap → Prop} {YP : World → Heap → Prop} {d : DefRec} {K : Params → PySem.W.Frag} {sp : World → Sp} {x : Str}
    (hn : l.most = some n) (hn2 : n ≤ sizeLine) (hdf : d.params.defaults = [])
    (hY : ∀ (w : World) (h : Heap), YP w h → (K w.params).In h)
    (F : ∀ (w : World) (mg : Str → Option Value) (fa : Addr) (h : Heap), (K w.params).In h → h.Ns mainGlobals mg → mg d.name = some (.ref fa) →
      ∃ fd : FuncData, (∀ (s : Shared) (u : Value), BindsTo s fd ⟨[u], []⟩ [(x, u)]) ∧
        ∀ base : Heap, (K w.params).In base → base.Ns mainGlobals mg → RunIn l.prog w (K w.params) mg base callerA fa fd [x] (sp w))
    (hsp : ∀ (w : World) (H : Hp) (a : Addr) (ns : List Int), ns.length ≤ n → (∀ z ∈ ns, Builtin.Int.intBits z ≤ 1048576) → SqL (K w.params) H a (ns.map V.int) → sp w [.ref a] H (fun v _ => v = .bl true) fun _ _ _ => False) :
    PySem.W.WalkO q loose XP YP l.row.toRowW d [] (fun f vs => PySem.call f vs) := by
  refine Att.attach_callB hn hdf fun w s0 st mg mb fa o pm cd doc sa its ns G Y ho hd hcd hmg sobj sint slen sbits noG => ?_
  have inK := hY w _ Y
  obtain ⟨fd, fb, fF⟩ := F w mg fa _ inK G.T.g hmg
  exact claim_call inK G.T.g G.T.b G.T.builtins G.T.nolimit noG sobj sint (Nat.le_trans slen hn2) fF fb fun H hS => hsp w H sa ns slen sbits hS
/-- a law's def by its body -/
theorem law_ok {base : Heap} {k : Nat} {FN : List Str} {KW : List (Nat × Nat × List Str × List Nat)} {BN : List Str} {GC LC : Bool} {GL : List (Str × D)} {Γ : Tab} {S : DSpec} {d : DefI} {a : Addr} {fd : FuncData} {A : Around} (F : Fun K d.name d.name d.st a fd) (ok : d.ok FN KW BN GC true LC GL = true)
    (hA : A.guards = some []) (rA : Room (k + 1) A) (bn : ∀ n ∈ BN, mg n = none) (gc : GC = true → mg "gcd" = some (.builtin "math.gcd")) (lc : LC = true → mg "lcm" = some (.builtin "math.lcm")) (gl : ∀ p ∈ GL, ∃ (v : V) (u : Value), mg p.1 = some u ∧ RelV v u ∧ ∀ H Z B, RD K H Z B p.2 v)
    (fs : ∀ f x, FN[f]? = some x → ∃ (a : Addr) (fd : FuncData) (ps : List Str), mg x = some (.ref a) ∧ PySem.W.keepIn K (.ref a) = true ∧ FnOk P w K mg base CX0 k a fd ps (lift K (Γ f)) ∧ Binds K fd ps [] ∧
      (∀ n ks perm, (f, n, ks, perm) ∈ KW → KBinds K fd ps ks (permU perm n ks.length) (permV perm n ks.length)) ∧ PySem.W.nsIn K mainGlobals x = some (some (.ref a)))
    (len : ∀ ds μ Q, S ds μ Q → ds.length = d.ps.length) (body : ∀ ds μ Q, S ds μ Q → wDef Γ d.N.length d.ir ds μ Q) : RunIn P w K mg base A a fd d.ps (lift K S) := by
  unfold DefI.ok at ok
  rw [Bool.and_eq_true] at ok
  have sc := fnSc_ok ok.1
  obtain ⟨oc, od, kV, doc, pm, an, cdv, ct, osl, rfl, fk, fcd⟩ := F.ex
  refine run_in fk fcd sc rA (fun vs H Q E ⟨ds, μ, Z, B, Q0, hr, rs, hS, fin⟩ => by rw [← rs.length]; exact len _ _ _ hS) fun outer s H vs Q E ⟨ds, μ, Z, B, Q0, h0, rs, hS, fin⟩ => ?_
  have hl := len _ _ _ hS
  have hpN : d.ps.length ≤ d.N.length := by
    have := congrArg List.length sc.pre
    rw [List.length_take] at this
    omega
  have C : Ctx (cxOf CX0 P w K mg base d.N d.name (defScope d.st) a cdv A outer s H E).nox (d.S FN KW BN GC true LC GL) Γ k :=
    { N := rfl, nd := sc.nd, sc := rfl, calm := rfl, room := rA.deeper _, xe := rfl, bn := bn, gc := gc, gd := fun _ => hA, lc := lc, gl := gl, fn := fun _ _ => .inl rfl, fs := fun f x h => ⟨fs f x h⟩ }
  refine ⟨_, (sndSs d.ir _ _ _ C sc.kind ok.2).nox, startD d.N.length ds, μ, Z, B, _, ⟨h0, start_rr rs d.N (by omega)⟩, body ds μ Q0 hS, ?_, ?_, ?_, ?_⟩
  · intro ρ' μ' σ' H' Z' l hs q
    exact rt_fin h0 fin _ _ _ _ _ l hs.1 .non q
  · intro ρ' μ' σ' H' Z' l hs q
    exact q.elim
  · intro ρ' μ' σ' H' Z' l hs q
    exact q.elim
  · exact rt_fin h0 fin
end Rf

set_option Elab.async false
set_option linter.all false
set_option maxRecDepth 100000
/-! Rf15: rows for simp: lists in cells; texts -/
namespace Rf
open PySem L2
section
variable {Γ : Tab} {ρ : Rho} {μ : M} {Q : WQ} {i j : Int} {x y d : D} {n : Nat} {xs : List D} {P : M → Prop}
theorem c_get (h : n < μ.length) {c : CO} : (μ.set n c)[n]? = some c := List.getElem?_set_self h
@[simp] theorem c_idx (h : n < μ.length) : opIdx (.cel n) (.int i) (μ.set n (.lst xs)) Q = (match atI xs i with | some d => Q d (μ.set n (.lst xs)) | none => False) := by
  simp only [opIdx, c_get h] <;> (cases atI xs i <;> rfl)
@[simp] theorem c_put (h : n < μ.length) : opPut (.cel n) (.int i) d (μ.set n (.lst xs)) P = (match ixN xs.length i with | some j => P (μ.set n (.lst (xs.set j d))) | none => False) := by
  simp only [opPut, c_get h, List.set_set] <;> (cases ixN xs.length i <;> rfl)
@[simp] theorem ix30 : ixN 3 0 = some 0 := rfl
@[simp] theorem ix31 : ixN 3 1 = some 1 := rfl
@[simp] theorem ix32 : ixN 3 2 = some 2 := rfl
@[simp] theorem r_strI : opBlt .str [.int i] μ Q = (i.natAbs.log2 < 1920 ∧ Q (.str (toString i)) μ) := rfl
@[simp] theorem r_strS {a : Str} : opBlt .str [.str a] μ Q = Q (.str a) μ := rfl
@[simp] theorem r_join {a : Str} : opMth .join (.str a) [d] μ Q = (match (asSq μ d).bind strsD with | some ys => (ys.map (·.length)).sum + ys.length * a.length ≤ 16777216 ∧ Q (.str (Txt.join a ys)) μ | none => False) := rfl
@[simp] theorem r_mokJ {a : Str} : mOkM .join μ (.str a) = true := rfl
theorem strsD_map : ∀ ys : List Str, strsD (ys.map .str) = some ys
  | [] => rfl
  | y :: ys => by
    show strsD (D.str y :: ys.map .str) = _
    simp only [strsD, strsD_map ys]; rfl
theorem intsD_map : ∀ ys : List Int, intsD (ys.map .int) = some ys
  | [] => rfl
  | y :: ys => by
    show intsD (D.int y :: ys.map .int) = _
    simp only [intsD, intsD_map ys]; rfl
/-! the last cell -/
theorem e_at {c : CO} : (μ ++ [c])[μ.length]? = some c := by simp
@[simp] theorem e_app : opMth .append (.cel μ.length) [d] (μ ++ [.lst xs]) Q = (xs.length < sizeLine ∧ Q .non (μ ++ [.lst (xs ++ [d])])) := by
  simp only [opMth, e_at] <;> simp
@[simp] theorem e_mok : mOkM .append (μ ++ [.lst xs]) (.cel μ.length) = true := by simp [mOkM, mOk]
@[simp] theorem e_mok2 : mOkM .extend (μ ++ [.lst xs]) (.cel μ.length) = true := by simp [mOkM, mOk]
@[simp] theorem e_asL : asL (μ ++ [.lst xs]) (.cel μ.length) = some xs := by simp [asL]
@[simp] theorem e_asR : asR (μ ++ [.lst xs]) (.cel μ.length) = some xs := by simp [asR, asL]
@[simp] theorem e_asSq : asSq (μ ++ [.lst xs]) (.cel μ.length) = some xs := by simp [asSq, asR, asL]
@[simp] theorem e_idx' : opIdx (.cel μ.length) (.int i) (μ ++ [.lst xs]) Q = (match atI xs i with | some d => Q d (μ ++ [.lst xs]) | none => False) := by
  simp only [opIdx, e_at] <;> (cases atI xs i <;> rfl)
@[simp] theorem e_put' : opPut (.cel μ.length) (.int i) d (μ ++ [.lst xs]) P = (match ixN xs.length i with | some j => P (μ ++ [.lst (xs.set j d)]) | none => False) := by
  simp only [opPut, e_at] <;> (cases ixN xs.length i <;> simp)
@[simp] theorem e_ext {ys : List D} : opMth .extend (.cel μ.length) [.lst ys] (μ ++ [.lst xs]) Q = (xs.length + ys.length ≤ sizeLine ∧ Q .non (μ ++ [.lst (xs ++ ys)])) := by
  simp only [opMth, e_at, asL] <;> simp
theorem r_addC {y : D} : opAdd (.cel n) y μ Q = (∃ xs ys, asL μ (.cel n) = some xs ∧ asL μ y = some ys ∧ newL (xs ++ ys) μ Q) := rfl
theorem toPs_strs : ∀ ts : List Str, toPs (ts.map .str) = some (ts.map PyData.str)
  | [] => rfl
  | t :: ts => by
    show toPs (D.str t :: ts.map .str) = _
    simp only [toPs, toP, toPs_strs ts]; rfl
theorem shaped_strs {ts : List Str} (h : ∀ t ∈ ts, PyData.strOk t = true) : SeqAt.shaped (.list (ts.map PyData.str)) = true := by
  have a : ∀ ts : List Str, (∀ t ∈ ts, PyData.strOk t = true) → PyData.canLayAll0 (ts.map PyData.str) = true ∧ PyData.depthAll (ts.map PyData.str) = 0 := by
    intro ts
    induction ts with
    | nil => intro _; exact ⟨by simp [PyData.canLayAll0], by simp [PyData.depthAll]⟩
    | cons t ts ih =>
      intro h
      obtain ⟨i1, i2⟩ := ih fun x hx => h x (List.mem_cons_of_mem _ hx)
      exact ⟨by simp [PyData.canLayAll0, PyData.canLay0, h t (by simp), i1], by simp [PyData.depthAll, PyData.depth, i2]⟩
  obtain ⟨i1, i2⟩ := a ts h
  simp [SeqAt.shaped, PyData.canLay0, PyData.depth, i1, i2]
theorem e_eqnil {ts : List Str} (h : ∀ t ∈ ts, PyData.strOk t = true) : eqD (μ ++ [.lst (ts.map .str)]) (.cel μ.length) (.lst []) = some ts.isEmpty := by
  have h1 : SeqAt.shaped (.list []) = true := by simp [SeqAt.shaped, PyData.canLay0, PyData.canLayAll0, PyData.depth, PyData.depthAll]
  simp only [eqD, eqP, toPm, e_at, toPs_strs, Option.map_some, toP, toPs, shaped_strs h, h1, Bool.and_self, if_true]
  cases ts <;> simp [PyData.eqv, PyData.eqvAll]
/-- a text, a number leaves a def that has cells of its own -/
theorem rt_cut {ν : M} (hd : d.frz μ.length (μ ++ ν) = some d) (h : Q d μ) : rtD μ Q d (μ ++ ν) := by
  refine .inr ⟨d, hd, fun i c hi e => .inl ?_, ?_⟩
  · rwa [List.getElem?_append_left hi] at e
  · rw [List.take_left']
    · exact h
    · rfl
/-! texts -/
/-- no longer than that, and of letters -/
def Tx (n : Nat) (s : Str) : Prop := s.length ≤ n ∧ PyData.strOk s = true
theorem Tx.mono {n m : Nat} {s : Str} (h : Tx n s) (l : n ≤ m) : Tx m s := ⟨Nat.le_trans h.1 l, h.2⟩
theorem Tx.append {n m : Nat} {s t : Str} (h : Tx n s) (k : Tx m t) : Tx (n + m) (s ++ t) := ⟨by rw [Str.length_append]; exact Nat.add_le_add h.1 k.1, by
  have h2 := h.2
  have k2 := k.2
  unfold PyData.strOk at *
  rw [Str.cps_append, Array.all_append, h2, k2]; rfl⟩
theorem ofS_ok (s : String) : PyData.strOk (Str.ofString s) = true := by
  unfold PyData.strOk
  rw [← Array.all_toList, signs_of s]
  rw [List.all_map, List.all_eq_true]
  intro c _
  have := c.valid
  show decide (c.toNat < 0x110000) = true
  rw [decide_eq_true_eq]
  rcases this with h | h
  · exact Nat.lt_trans h (by decide)
  · exact h.2
where signs_of (s : String) : (Str.ofString s).cps.toList = s.toList.map Char.toNat := PyProof.Rows.signs_ofString s
theorem tx_int {n : Nat} {i : Int} (hn : 0 < n) (h : i.natAbs < 2 ^ n) : Tx (n + 1) (toString i : Str) := by
  refine ⟨?_, ofS_ok _⟩
  have := int_text_length_le (a := i) hn (by
    by_cases h0 : i.natAbs = 0
    · rw [h0]; exact hn
    · exact (Nat.log2_lt h0).mpr h)
  rw [ofString_length]
  exact this
theorem log_lt {n : Nat} {i : Int} (hn : 0 < n) (h : i.natAbs < 2 ^ n) (h2 : n ≤ 1920) : i.natAbs.log2 < 1920 := by
  by_cases h0 : i.natAbs = 0
  · rw [h0]; decide
  · exact Nat.lt_of_lt_of_le ((Nat.log2_lt h0).mpr h) h2
theorem tx_join {sep : Str} {n m : Nat} (hs : Tx m sep) : ∀ {ts : List Str}, (∀ t ∈ ts, Tx n t) → Tx (ts.length * (n + m)) (Txt.join sep ts) := by
  intro ts h
  show Tx _ (Builtin.Str.glued sep ts)
  rw [StrLaws.glued_eq_join]
  induction ts with
  | nil => exact ⟨Nat.le_of_eq (by simp; rfl), by show PyData.strOk Str.empty = true; decide +kernel⟩
  | cons t ts ih =>
    cases ts with
    | nil =>
      show Tx _ t
      exact (h t (by simp)).mono (by simp)
    | cons u us =>
      have ih := ih (fun x hx => h x (List.mem_cons_of_mem _ hx))
      show Tx _ (t ++ sep ++ Str.join sep (u :: us))
      refine ((h t (by simp)).append hs |>.append ih).mono ?_
      simp only [List.length_cons]
      rw [Nat.add_mul (us.length + 1) 1]
      omega
theorem join_sum {sep : Str} {n m N : Nat} (hs : Tx m sep) : ∀ {ts : List Str}, (∀ t ∈ ts, Tx n t) → ts.length ≤ N → (ts.map (·.length)).sum + ts.length * sep.length ≤ N * (n + m) := by
  intro ts h hl
  have : (ts.map (·.length)).sum ≤ ts.length * n := by
    clear hl
    induction ts with
    | nil => simp
    | cons t ts ih =>
      have := ih (fun x hx => h x (List.mem_cons_of_mem _ hx))
      have := (h t (by simp)).1
      simp only [List.map_cons, List.sum_cons, List.length_cons, Nat.add_mul]
      omega
  have h2 : ts.length * sep.length ≤ ts.length * m := Nat.mul_le_mul_left _ hs.1
  have h3 : ts.length * (n + m) ≤ N * (n + m) := Nat.mul_le_mul_right _ hl
  rw [Nat.mul_add] at h3
  omega
end
end Rf

set_option Elab.async false
set_option linter.all false
set_option maxRecDepth 100000
/-! Q1: fractions as rational numbers -/
namespace Rf
open PySem L2
def enc (x : Rat) : D := .tup [.int x.num, .int (x.den : Int)]
def Bd (n : Nat) (x : Rat) : Prop := x.num.natAbs < 2 ^ n ∧ x.den < 2 ^ n
theorem Bd.mono {n m : Nat} {x : Rat} (h : Bd n x) (l : n ≤ m) : Bd m x := by
  have := Nat.pow_le_pow_right (n := 2) (by decide) l
  exact ⟨Nat.lt_of_lt_of_le h.1 this, Nat.lt_of_lt_of_le h.2 this⟩
theorem enc_inj {x y : Rat} (h : enc x = enc y) : x = y := by
  unfold enc at h
  simp only [D.tup.injEq, List.cons.injEq, D.int.injEq, and_true] at h
  exact Rat.ext h.1 (by omega)
theorem den1 (x : Rat) : (1 : Int) ≤ x.den := by have := x.den_pos; omega
theorem mul_lt2 {i j n m : Nat} (h1 : i < 2 ^ n) (h2 : j < 2 ^ m) : i * j < 2 ^ (n + m) := by
  rw [Nat.pow_add]
  exact Nat.mul_lt_mul'' h1 h2
theorem bd_div {t b : Int} {n : Nat} (hb : b ≠ 0) (h1 : t.natAbs < 2 ^ n) (h2 : b.natAbs < 2 ^ n) : Bd n (Rat.divInt t b) := by
  have g : 0 < b.gcd t := Int.gcd_pos_of_ne_zero_left _ hb
  refine ⟨?_, ?_⟩
  · rw [Rat.num_divInt]
    have d : ((b.gcd t : Nat) : Int) ∣ b.sign * t := Int.dvd_trans (Int.gcd_dvd_right _ _) (Int.dvd_mul_left _ _)
    rw [Int.natAbs_ediv_of_dvd d]
    refine Nat.lt_of_le_of_lt (Nat.div_le_self _ _) ?_
    rw [Int.natAbs_mul, Int.natAbs_sign_of_ne_zero hb, Nat.one_mul]
    exact h1
  · rw [Rat.den_divInt, if_neg hb]
    exact Nat.lt_of_le_of_lt (Nat.div_le_self _ _) h2
/-- in lowest terms -/
theorem low_pos {t b : Int} (hb : 0 < b) : D.tup [.int (t / ((Nat.gcd t.natAbs b.natAbs : Nat) : Int)), .int (b / ((Nat.gcd t.natAbs b.natAbs : Nat) : Int))] = enc (Rat.divInt t b) := by
  unfold enc
  rw [Rat.num_divInt, Rat.den_divInt, if_neg (by omega), Int.sign_eq_one_of_pos hb, Int.one_mul]
  have e : b.gcd t = Nat.gcd t.natAbs b.natAbs := by rw [Int.gcd_comm]; rfl
  rw [e]
  congr 3
  rw [Int.natCast_ediv, Int.natAbs_of_nonneg (by omega)]
theorem low_neg {t b : Int} (hb : b < 0) : D.tup [.int ((-1) * t / ((Nat.gcd t.natAbs b.natAbs : Nat) : Int)), .int ((-1) * b / ((Nat.gcd t.natAbs b.natAbs : Nat) : Int))] = enc (Rat.divInt t b) := by
  unfold enc
  rw [Rat.num_divInt, Rat.den_divInt, if_neg (by omega), Int.sign_eq_neg_one_of_neg hb]
  have e : b.gcd t = Nat.gcd t.natAbs b.natAbs := by rw [Int.gcd_comm]; rfl
  rw [e]
  congr 3
  rw [Int.natCast_ediv, Int.ofNat_natAbs_of_nonpos (by omega)]
  congr 2
  omega
theorem di_add (x y : Rat) : Rat.divInt (x.num * y.den + y.num * x.den) (x.den * y.den) = x + y := by
  rw [Rat.add_def', ← Rat.divInt_ofNat]; rfl
theorem di_sub (x y : Rat) : Rat.divInt (x.num * y.den - y.num * x.den) (x.den * y.den) = x - y := by
  rw [Rat.sub_def', ← Rat.divInt_ofNat]; rfl
theorem di_mul (x y : Rat) : Rat.divInt (x.num * y.num) (x.den * y.den) = x * y := by
  rw [Rat.mul_def', ← Rat.divInt_ofNat]; rfl
theorem di_self (x : Rat) : Rat.divInt x.num x.den = x := Rat.num_divInt_den x
theorem numR (x : Rat) : (x.num : Rat) = x * (x.den : Rat) := by
  have h : ((x.den : Nat) : Rat) ≠ 0 := by
    intro z
    exact x.den_nz (Rat.natCast_eq_zero_iff.mp z)
  have := Rat.num_divInt_den x
  rw [Rat.divInt_eq_div] at this
  have e : (((x.den : Nat) : Int) : Rat) = ((x.den : Nat) : Rat) := rfl
  rw [e] at this
  rw [← Rat.div_mul_cancel (a := (x.num : Rat)) h, this]
theorem denR_pos (x : Rat) : (0 : Rat) < (x.den : Rat) := Rat.natCast_pos.mpr x.den_pos
theorem Bd.add {n m : Nat} {x y : Rat} (hx : Bd n x) (hy : Bd m y) : Bd (n + m + 1) (x + y) := by
  rw [← di_add]
  have p1 := x.den_pos
  have p2 := y.den_pos
  have a1 : (x.num * y.den).natAbs < 2 ^ (n + m) := by rw [Int.natAbs_mul]; exact mul_lt2 hx.1 hy.2
  have a2 : (y.num * x.den).natAbs < 2 ^ (n + m) := by rw [Int.natAbs_mul, Nat.mul_comm]; exact mul_lt2 hx.2 hy.1
  have a3 : ((x.den : Int) * y.den).natAbs < 2 ^ (n + m) := by rw [Int.natAbs_mul]; exact mul_lt2 hx.2 hy.2
  have e : 2 ^ (n + m + 1) = 2 ^ (n + m) + 2 ^ (n + m) := by rw [Nat.pow_succ]; omega
  refine bd_div (by have := Int.mul_pos (a := (x.den : Int)) (b := y.den) (by omega) (by omega); omega) (by rw [e]; omega) (by rw [e]; omega)
theorem Bd.neg {n : Nat} {x : Rat} (hx : Bd n x) : Bd n (-x) := ⟨by rw [Rat.neg_num, Int.natAbs_neg]; exact hx.1, by rw [Rat.neg_den]; exact hx.2⟩
theorem Bd.sub {n m : Nat} {x y : Rat} (hx : Bd n x) (hy : Bd m y) : Bd (n + m + 1) (x - y) := by
  rw [Rat.sub_eq_add_neg]; exact hx.add hy.neg
theorem Bd.mul {n m : Nat} {x y : Rat} (hx : Bd n x) (hy : Bd m y) : Bd (n + m) (x * y) := by
  rw [← di_mul]
  have p1 := x.den_pos
  have p2 := y.den_pos
  refine bd_div (by have := Int.mul_pos (a := (x.den : Int)) (b := y.den) (by omega) (by omega); omega) (by rw [Int.natAbs_mul]; exact mul_lt2 hx.1 hy.1) (by rw [Int.natAbs_mul]; exact mul_lt2 hx.2 hy.2)
theorem Bd.int {n : Nat} {i : Int} (hn : 0 < n) (h : i.natAbs < 2 ^ n) : Bd n (i : Rat) := ⟨h, by
  rw [Rat.den_intCast]
  exact Nat.one_lt_two_pow (by omega)⟩
theorem lt_num {x y : Rat} : (x.num * y.den < y.num * x.den) ↔ x < y := (Rat.lt_iff x y).symm
theorem fl_num {x : Rat} : x.num / (x.den : Int) = x.floor := (Rat.floor_def x).symm
theorem enc_int (i : Int) : enc (i : Rat) = .tup [.int i, .int 1] := rfl
section
variable {Γ : Tab} {ρ : Rho} {μ : M} {Q : WQ}
@[simp] theorem enc0 {x : Rat} : opIdx (enc x) (.int 0) μ Q = Q (.int x.num) μ := by simp [enc]
@[simp] theorem enc1 {x : Rat} : opIdx (enc x) (.int 1) μ Q = Q (.int x.den) μ := by simp [enc]
@[simp] theorem q_enc {x y : Rat} : eqD μ (enc x) (enc y) = some (decide (x = y)) := by
  unfold enc
  rw [q_t2]
  congr 1
  refine decide_eq_decide.mpr ⟨fun h => Rat.ext h.1 (by omega), fun h => by subst h; exact ⟨rfl, rfl⟩⟩
theorem dv {i j : Int} {n : Nat} (h : 0 < j) (h2 : j.natAbs < 2 ^ n) (hn : n ≤ 9000) : CDivW i j := ⟨h, by
  by_cases h0 : j.natAbs = 0
  · omega
  · exact Nat.lt_of_lt_of_le ((Nat.log2_lt h0).mpr h2) hn⟩
theorem log_le {n i : Nat} (h : i < 2 ^ n) : i.log2 ≤ n := by
  by_cases h0 : i = 0
  · rw [h0]; exact Nat.zero_le _
  · exact Nat.le_of_lt ((Nat.log2_lt h0).mpr h)
theorem mw {i j : Int} {n m : Nat} (h1 : i.natAbs < 2 ^ n) (h2 : j.natAbs < 2 ^ m) (h : n + m < 1000000) : CMul i j ∨ CMulW i j := by
  refine .inr ?_
  have := log_le h1
  have := log_le h2
  show i.natAbs.log2 + j.natAbs.log2 < 1000000
  omega
theorem cpw {i : Int} {j n : Nat} (h : i.natAbs < 2 ^ n) (hn : (n + 1) * j ≤ 2 ^ 27) : CPowW i (j : Int) := by
  refine ⟨by omega, ?_⟩
  have h2 : Builtin.Int.intBits i ≤ n + 1 := by
    unfold Builtin.Int.intBits
    by_cases h0 : i.natAbs = 0
    · simp [h0]
      split <;> omega
    · have := (Nat.log2_lt h0).mpr h
      split <;> omega
  have h3 : Builtin.Int.intBits i * j ≤ (n + 1) * j := Nat.mul_le_mul_right _ h2
  have h4 : ((Builtin.Int.intBits i : Nat) : Int) * (j : Int) = ((Builtin.Int.intBits i * j : Nat) : Int) := by simp
  rw [h4]
  omega
end
end Rf

set_option Elab.async false
set_option linter.all false
set_option maxRecDepth 100000
/-! Q2: cuts, spans, what a lot has (plain law) -/
namespace Rf
/-! ### parity of what is met -/
/-- how many are not beyond -/
def cntB {α : Type} (le : α → Bool) (cs : List α) : Nat := cs.countP le
def odd (n : Nat) : Bool := n % 2 == 1
@[simp] theorem odd0 : odd 0 = false := rfl
theorem odd_succ (n : Nat) : odd (n + 1) = !odd n := by
  unfold odd
  rcases Nat.mod_two_eq_zero_or_one n with h | h <;> simp [Nat.add_mod, h]
theorem odd_add (n m : Nat) : odd (n + m) = (odd n != odd m) := by
  induction m with
  | zero => simp
  | succ m ih => rw [← Nat.add_assoc, odd_succ, odd_succ, ih]; cases odd n <;> cases odd m <;> rfl
/-! ### ints in rising order -/
abbrev Asc (cs : List Int) : Prop := cs.Pairwise (· < ·)
def ind (cs : List Int) (t : Int) : Bool := odd (cs.countP fun c => decide (c ≤ t))
theorem ind_nil (t : Int) : ind [] t = false := rfl
theorem ind_cons (c : Int) (cs : List Int) (t : Int) : ind (c :: cs) t = (decide (c ≤ t) != ind cs t) := by
  unfold ind
  rw [List.countP_cons]
  by_cases h : c ≤ t
  · simp [h, odd_succ]
  · simp [h]
theorem ind_low {cs : List Int} {t : Int} (h : ∀ c ∈ cs, t < c) : ind cs t = false := by
  unfold ind
  rw [List.countP_eq_zero.mpr]
  · rfl
  · intro c hc
    have := h c hc
    simp; omega
theorem asc_mem {a b : List Int} (ha : Asc a) (hb : Asc b) (h : ∀ x, x ∈ a ↔ x ∈ b) : a = b := by
  have na : a.Nodup := ha.imp fun h => by omega
  have nb : b.Nodup := hb.imp fun h => by omega
  exact ((List.perm_ext_iff_of_nodup na nb).mpr h).eq_of_pairwise (fun x y _ _ h1 h2 => by omega) ha hb
/-- what a rule makes of two lots, mark by mark -/
def sw (g : Bool → Bool → Bool) (a b : List Int) : List Int → Bool → Bool → Bool → List Int
  | [], _, _, _ => []
  | m :: ms, p, q, ins =>
    if g (p != decide (m ∈ a)) (q != decide (m ∈ b)) != ins then m :: sw g a b ms (p != decide (m ∈ a)) (q != decide (m ∈ b)) (!ins)
    else sw g a b ms (p != decide (m ∈ a)) (q != decide (m ∈ b)) ins
theorem sw_mem {g : Bool → Bool → Bool} {a b : List Int} : ∀ {ms : List Int} {p q ins : Bool}, ∀ x ∈ sw g a b ms p q ins, x ∈ ms
  | [], _, _, _, x, h => by cases h
  | m :: ms, p, q, ins, x, h => by
    unfold sw at h
    split at h
    · rcases List.mem_cons.mp h with rfl | h
      · exact List.mem_cons_self
      · exact List.mem_cons_of_mem _ (sw_mem x h)
    · exact List.mem_cons_of_mem _ (sw_mem x h)
theorem sw_asc {g : Bool → Bool → Bool} {a b : List Int} : ∀ {ms : List Int} {p q ins : Bool}, Asc ms → Asc (sw g a b ms p q ins)
  | [], _, _, _, _ => .nil
  | m :: ms, p, q, ins, h => by
    obtain ⟨h1, h2⟩ := List.pairwise_cons.mp h
    unfold sw
    split
    · exact List.pairwise_cons.mpr ⟨fun x hx => h1 x (sw_mem x hx), sw_asc h2⟩
    · exact sw_asc h2
theorem sw_ind {g : Bool → Bool → Bool} {a b : List Int} (t : Int) : ∀ {ms : List Int} {p q ins : Bool}, Asc ms → ins = g p q →
    (ind (sw g a b ms p q ins) t != ins) = g (p != ind (ms.filter fun m => decide (m ∈ a)) t) (q != ind (ms.filter fun m => decide (m ∈ b)) t)
  | [], p, q, ins, _, e => by simp [sw, ind_nil, e]
  | m :: ms, p, q, ins, h, e => by
    obtain ⟨h1, h2⟩ := List.pairwise_cons.mp h
    by_cases hm : m ≤ t
    · have fa : ind ((m :: ms).filter fun m => decide (m ∈ a)) t = (decide (m ∈ a) != ind (ms.filter fun m => decide (m ∈ a)) t) := by
        rw [List.filter_cons]
        split
        · rename_i h; rw [ind_cons, h]; simp [hm]
        · rename_i h; simp only [Bool.not_eq_true] at h; rw [h]; simp
      have fb : ind ((m :: ms).filter fun m => decide (m ∈ b)) t = (decide (m ∈ b) != ind (ms.filter fun m => decide (m ∈ b)) t) := by
        rw [List.filter_cons]
        split
        · rename_i h; rw [ind_cons, h]; simp [hm]
        · rename_i h; simp only [Bool.not_eq_true] at h; rw [h]; simp
      rw [fa, fb]
      unfold sw
      split
      · rename_i hc
        have ih := sw_ind (g := g) (a := a) (b := b) t (ms := ms) (p := p != decide (m ∈ a)) (q := q != decide (m ∈ b)) (ins := !ins) h2 (by
          revert hc
          cases g (p != decide (m ∈ a)) (q != decide (m ∈ b)) <;> cases ins <;> simp)
        rw [ind_cons]
        simp only [hm, decide_true]
        rw [← Bool.bne_assoc, ← Bool.bne_assoc, ← ih]
        cases ind (sw g a b ms (p != decide (m ∈ a)) (q != decide (m ∈ b)) (!ins)) t <;> cases ins <;> rfl
      · rename_i hc
        have ih := sw_ind (g := g) (a := a) (b := b) t (ms := ms) (p := p != decide (m ∈ a)) (q := q != decide (m ∈ b)) (ins := ins) h2 (by
          revert hc
          cases g (p != decide (m ∈ a)) (q != decide (m ∈ b)) <;> cases ins <;> simp)
        rw [← Bool.bne_assoc, ← Bool.bne_assoc, ← ih]
    · have lo : ∀ x ∈ m :: ms, t < x := fun x hx => by
        rcases List.mem_cons.mp hx with rfl | hx
        · omega
        · have := h1 x hx; omega
      rw [ind_low fun x hx => lo x (sw_mem x hx), ind_low fun x hx => lo x (List.mem_filter.mp hx).1, ind_low fun x hx => lo x (List.mem_filter.mp hx).1, e]
      simp
/-- what swept tells -/
structure IsSw (g : Bool → Bool → Bool) (a b r : List Int) : Prop where
  asc : Asc r
  mem : ∀ x ∈ r, x ∈ a ∨ x ∈ b
  at_ : ∀ t, ind r t = g (ind a t) (ind b t)
theorem sw_is {g : Bool → Bool → Bool} {a b ms : List Int} (hg : g false false = false) (ha : Asc a) (hb : Asc b) (hm : Asc ms) (hmem : ∀ x, x ∈ ms ↔ x ∈ a ∨ x ∈ b) : IsSw g a b (sw g a b ms false false false) := by
  have fa : (ms.filter fun m => decide (m ∈ a)) = a := asc_mem (hm.filter _) ha fun x => by simp [List.mem_filter, hmem x]; exact fun h => .inl h
  have fb : (ms.filter fun m => decide (m ∈ b)) = b := asc_mem (hm.filter _) hb fun x => by simp [List.mem_filter, hmem x]; exact fun h => .inr h
  refine ⟨sw_asc hm, fun x hx => (hmem x).mp (sw_mem x hx), fun t => ?_⟩
  have := sw_ind (g := g) (a := a) (b := b) t (p := false) (q := false) (ins := false) hm hg.symm
  rw [fa, fb] at this
  simpa using this
theorem ind_all {cs : List Int} {t : Int} (h : ∀ c ∈ cs, c ≤ t) : ind cs t = odd cs.length := by
  unfold ind
  rw [List.countP_eq_length.mpr]
  intro c hc
  simpa using h c hc
theorem bound (cs : List Int) : ∃ t : Int, ∀ c ∈ cs, c ≤ t := by
  induction cs with
  | nil => exact ⟨0, fun c hc => by cases hc⟩
  | cons c cs ih =>
    obtain ⟨t, ht⟩ := ih
    refine ⟨max c t, fun x hx => ?_⟩
    rcases List.mem_cons.mp hx with rfl | hx
    · omega
    · have := ht x hx; omega
theorem IsSw.even {g : Bool → Bool → Bool} {a b r : List Int} (h : IsSw g a b r) (hg : g false false = false) (ha : odd a.length = false) (hb : odd b.length = false) : odd r.length = false := by
  obtain ⟨t, ht⟩ := bound (a ++ b ++ r)
  rw [← ind_all (t := t) fun c hc => ht c (by simp [hc]), h.at_ t, ind_all fun c hc => ht c (by simp [hc]), ind_all fun c hc => ht c (by simp [hc]), ha, hb, hg]
/-! ### cuts -/
abbrev Cut := Rat × Bool
def clt (c d : Cut) : Prop := c.1 < d.1 ∨ (c.1 = d.1 ∧ c.2 = false ∧ d.2 = true)
instance (c d : Cut) : Decidable (clt c d) := by unfold clt; infer_instance
theorem clt_irr {c : Cut} : ¬ clt c c := by
  rintro (h | ⟨_, h1, h2⟩)
  · exact Rat.lt_irrefl h
  · rw [h1] at h2; cases h2
theorem clt_trans {a b c : Cut} (h : clt a b) (g : clt b c) : clt a c := by
  rcases h with h | ⟨h, h1, h2⟩ <;> rcases g with g | ⟨g, g1, g2⟩
  · exact .inl (by grind)
  · exact .inl (by rw [← g]; exact h)
  · exact .inl (by rw [h]; exact g)
  · exact .inr ⟨h.trans g, h1, g2⟩
theorem clt_tri (a b : Cut) : clt a b ∨ a = b ∨ clt b a := by
  obtain ⟨x, s⟩ := a
  obtain ⟨y, t⟩ := b
  by_cases h : x < y
  · exact .inl (.inl h)
  · by_cases h2 : y < x
    · exact .inr (.inr (.inl h2))
    · have e : x = y := by grind
      subst e
      cases s <;> cases t
      · exact .inr (.inl rfl)
      · exact .inl (.inr ⟨rfl, rfl, rfl⟩)
      · exact .inr (.inr (.inr ⟨rfl, rfl, rfl⟩))
      · exact .inr (.inl rfl)
/-- c is not beyond p -/
def cle (p c : Cut) : Bool := decide (¬ clt p c)
def indC (cs : List Cut) (p : Cut) : Bool := odd (cs.countP (cle p))
abbrev AscC (cs : List Cut) : Prop := cs.Pairwise clt
theorem indC_cons (c : Cut) (cs : List Cut) (p : Cut) : indC (c :: cs) p = (cle p c != indC cs p) := by
  unfold indC
  rw [List.countP_cons]
  cases h : cle p c <;> simp [odd_succ]
theorem indC_low {cs : List Cut} {p : Cut} (h : ∀ c ∈ cs, clt p c) : indC cs p = false := by
  unfold indC
  rw [List.countP_eq_zero.mpr]
  · rfl
  · intro c hc
    simp [cle, h c hc]
theorem ascC_unique : ∀ {a b : List Cut}, AscC a → AscC b → (∀ p, indC a p = indC b p) → a = b
  | [], [], _, _, _ => rfl
  | [], y :: ys, _, hb, h => by
    have := h y
    rw [indC_cons, indC_low (List.pairwise_cons.mp hb).1] at this
    simp [cle, clt_irr, indC] at this
  | x :: xs, [], ha, _, h => by
    have := h x
    rw [indC_cons, indC_low (List.pairwise_cons.mp ha).1] at this
    simp [cle, clt_irr, indC] at this
  | x :: xs, y :: ys, ha, hb, h => by
    obtain ⟨a1, a2⟩ := List.pairwise_cons.mp ha
    obtain ⟨b1, b2⟩ := List.pairwise_cons.mp hb
    have e : x = y := by
      rcases clt_tri x y with q | q | q
      · have := h x
        rw [indC_cons, indC_low a1, indC_low (cs := y :: ys) fun c hc => by
          rcases List.mem_cons.mp hc with rfl | hc
          · exact q
          · exact clt_trans q (b1 c hc)] at this
        simp [cle, clt_irr] at this
      · exact q
      · have := h y
        rw [indC_cons y, indC_low b1, indC_low (cs := x :: xs) fun c hc => by
          rcases List.mem_cons.mp hc with rfl | hc
          · exact q
          · exact clt_trans q (a1 c hc)] at this
        simp [cle, clt_irr] at this
    subst e
    rw [ascC_unique a2 b2 fun p => ?_]
    have := h p
    rw [indC_cons, indC_cons] at this
    revert this
    cases cle p x <;> simp
/-! ### a scale -/
def dvs (s : Int) (x : Rat) : Prop := (x.den : Int) ∣ s
def atS (s : Int) (x : Rat) : Int := x.num * (s / x.den)
theorem atS_rat {s : Int} {x : Rat} (h : dvs s x) : ((atS s x : Int) : Rat) = x * s := by
  obtain ⟨k, rfl⟩ := h
  have hd : (x.den : Int) ≠ 0 := by have := x.den_nz; omega
  unfold atS
  rw [Int.mul_ediv_cancel_left _ hd, Rat.intCast_mul, numR, Rat.intCast_mul]
  have e : (((x.den : Nat) : Int) : Rat) = ((x.den : Nat) : Rat) := rfl
  rw [e]
  grind
def b01 (b : Bool) : Int := if b then 1 else 0
def io (s : Int) (c : Cut) : Int := 2 * atS s c.1 + b01 c.2
/-- where a cut is by a scale -/
def pos (s : Int) (p : Cut) : Int := 2 * (p.1 * s).floor + (if ((p.1 * s).floor : Rat) = p.1 * s then b01 p.2 else 1)
theorem io_le {s : Int} (hs : 0 < s) {c p : Cut} (hc : dvs s c.1) : io s c ≤ pos s p ↔ ¬ clt p c := by
  obtain ⟨x, a⟩ := c
  obtain ⟨y, b⟩ := p
  have hsR : (0 : Rat) < (s : Rat) := Rat.intCast_pos.mpr hs
  have e := atS_rat hc
  simp only at e
  have f1 := Rat.floor_le (y * s)
  have f2 := Rat.lt_floor_add_one (y * s)
  rw [Rat.intCast_add, Rat.intCast_one] at f2
  have mul : ∀ {u v : Rat}, u < v ↔ u * s < v * s := fun {u v} => (Rat.mul_lt_mul_right hsR).symm
  have z1 : ∀ {i j : Int}, i < j ↔ (i : Rat) < (j : Rat) := fun {i j} => Rat.intCast_lt_intCast.symm
  have z2 : ∀ {i j : Int}, i ≤ j ↔ (i : Rat) ≤ (j : Rat) := fun {i j} => Rat.intCast_le_intCast.symm
  unfold io pos clt
  simp only
  generalize hn : atS s x = n at *
  generalize hm : (y * s).floor = m at *
  by_cases hi : (m : Rat) = y * s
  · rw [if_pos hi]
    have k1 : y < x ↔ m < n := by rw [mul, z1, e, hi]
    have k2 : y = x ↔ m = n := by
      constructor
      · intro h; subst h
        exact Rat.intCast_inj.mp (hi.trans e.symm)
      · intro h
        subst h
        have : y * s = x * s := by rw [← hi, e]
        have h0 : (s : Rat) ≠ 0 := by grind
        grind
    rw [k1, k2]
    cases a <;> cases b <;> simp [b01] <;> omega
  · rw [if_neg hi]
    have k1 : y < x ↔ m < n := by
      rw [mul, ← e]
      constructor
      · intro h
        have : (m : Rat) < n := by grind
        exact z1.mpr this
      · intro h
        have : (m : Rat) + 1 ≤ n := by
          have := z2.mp (show m + 1 ≤ n by omega)
          rw [Rat.intCast_add, Rat.intCast_one] at this
          exact this
        grind
    have k2 : ¬ y = x := by
      intro h
      subst h
      apply hi
      rw [← e]
      have a1 : (m : Rat) ≤ n := by rw [e]; exact f1
      have a2 : (n : Rat) < m + 1 := by rw [e]; exact f2
      have b1 := z2.mpr a1
      have b2 : n < m + 1 := z1.mpr (by rw [Rat.intCast_add, Rat.intCast_one]; exact a2)
      have : m = n := by omega
      rw [this]
    rw [k1]
    simp only [k2, false_and, or_false]
    cases a <;> simp [b01] <;> omega
theorem pos_io {s : Int} {p : Cut} (hp : dvs s p.1) : pos s p = io s p := by
  have e := atS_rat hp
  unfold pos io
  rw [← e, Rat.floor_intCast, if_pos rfl]
theorem io_lt {s : Int} (hs : 0 < s) {c p : Cut} (hc : dvs s c.1) (hp : dvs s p.1) : io s p < io s c ↔ clt p c := by
  have := io_le hs (p := p) hc
  rw [pos_io hp] at this
  constructor
  · intro h
    by_cases q : clt p c
    · exact q
    · have := this.mpr q; omega
  · intro h
    by_cases q : io s c ≤ io s p
    · exact absurd h (this.mp q)
    · omega
theorem ind_io {s : Int} (hs : 0 < s) {cs : List Cut} (h : ∀ c ∈ cs, dvs s c.1) (p : Cut) : ind (cs.map (io s)) (pos s p) = indC cs p := by
  unfold ind indC
  rw [List.countP_map]
  congr 1
  refine List.countP_congr fun c hc => ?_
  simp only [Function.comp, cle, decide_eq_true_eq]
  exact io_le hs (h c hc)
theorem asc_io {s : Int} (hs : 0 < s) {cs : List Cut} (h : ∀ c ∈ cs, dvs s c.1) : Asc (cs.map (io s)) ↔ AscC cs := by
  unfold Asc AscC
  rw [List.pairwise_map]
  constructor
  · intro k
    exact List.Pairwise.imp_of_mem (fun ha hb q => (io_lt hs (h _ hb) (h _ ha)).mp q) k
  · intro k
    exact List.Pairwise.imp_of_mem (fun ha hb q => (io_lt hs (h _ hb) (h _ ha)).mpr q) k
/-- the cut of an int -/
def ko (s : Int) (a : Int) : Cut := (Rat.divInt (a / 2) s, a % 2 == 1)
theorem ko_dvs {s a : Int} (hs : 0 < s) : dvs s (ko s a).1 := by
  unfold dvs ko
  simp only
  rw [Rat.den_divInt, if_neg (by omega)]
  have e : ((s.natAbs / s.gcd (a / 2) : Nat) : Int) = s / s.gcd (a / 2) := by
    rw [Int.natCast_ediv, Int.natAbs_of_nonneg (by omega)]
  rw [e]
  obtain ⟨k, hk⟩ := Int.gcd_dvd_left s (a / 2)
  have g : (0 : Int) < ((s.gcd (a / 2) : Nat) : Int) := by
    have := Int.gcd_pos_of_ne_zero_left (a / 2) (show s ≠ 0 by omega)
    omega
  refine ⟨s.gcd (a / 2), ?_⟩
  rw [Int.ediv_mul_cancel (Int.gcd_dvd_left _ _)]
theorem io_ko {s a : Int} (hs : 0 < s) : io s (ko s a) = a := by
  have e := atS_rat (ko_dvs (a := a) hs)
  have h0 : (s : Rat) ≠ 0 := by
    intro z
    have := Rat.intCast_eq_zero_iff.mp z
    omega
  have e2 : (ko s a).1 * s = ((a / 2 : Int) : Rat) := by
    unfold ko
    simp only
    rw [Rat.divInt_eq_div, Rat.div_mul_cancel h0]
  rw [e2] at e
  have e3 := Rat.intCast_inj.mp e
  unfold io
  rw [e3]
  unfold ko b01
  simp only
  have : a % 2 = 0 ∨ a % 2 = 1 := by omega
  rcases this with h | h <;> simp [h] <;> omega
end Rf

set_option Elab.async false
set_option linter.all false
set_option maxRecDepth 100000
/-! Q3: span lists (plain law) -/
namespace Rf
structure Sp where
  lo : Rat
  hi : Rat
  lf : Bool
  hf : Bool
def encS (p : Sp) : D := .tup [enc p.lo, enc p.hi, .int (b01 p.lf), .int (b01 p.hf)]
def Sp.lc (p : Sp) : Cut := (p.lo, !p.lf)
def Sp.hc (p : Sp) : Cut := (p.hi, p.hf)
def Sp.ok (p : Sp) : Prop := clt p.lc p.hc
def cutsC (L : List Sp) : List Cut := L.flatMap fun p => [p.lc, p.hc]
def covers (p : Sp) (c : Cut) : Bool := cle c p.lc && !(cle c p.hc)
def Canon (L : List Sp) : Prop := AscC (cutsC L)
@[simp] theorem cutsC_nil : cutsC [] = [] := rfl
@[simp] theorem cutsC_cons (p : Sp) (L : List Sp) : cutsC (p :: L) = p.lc :: p.hc :: cutsC L := rfl
theorem cutsC_append (L M : List Sp) : cutsC (L ++ M) = cutsC L ++ cutsC M := by simp [cutsC]
theorem cutsC_mem {L : List Sp} {p : Sp} (h : p ∈ L) : p.lc ∈ cutsC L ∧ p.hc ∈ cutsC L := by
  simp only [cutsC, List.mem_flatMap]
  exact ⟨⟨p, h, by simp⟩, ⟨p, h, by simp⟩⟩
theorem mem_cutsC {L : List Sp} {c : Cut} (h : c ∈ cutsC L) : ∃ p ∈ L, c = p.lc ∨ c = p.hc := by
  simp only [cutsC, List.mem_flatMap] at h
  obtain ⟨p, hp, hc⟩ := h
  simp at hc
  exact ⟨p, hp, hc⟩
theorem Canon.tail {p : Sp} {L : List Sp} (h : Canon (p :: L)) : Canon L := (List.pairwise_cons.mp (List.pairwise_cons.mp h).2).2
theorem Canon.head {p : Sp} {L : List Sp} (h : Canon (p :: L)) : p.ok := (List.pairwise_cons.mp h).1 _ (by simp)
theorem Canon.ok : ∀ {L : List Sp}, Canon L → ∀ p ∈ L, p.ok
  | _ :: _, h, p, hp => by
    rcases List.mem_cons.mp hp with rfl | hp
    · exact h.head
    · exact h.tail.ok p hp
theorem cle_mono {p c d : Cut} (h : clt c d) (k : cle p d = true) : cle p c = true := by
  simp only [cle, decide_eq_true_eq] at k ⊢
  exact fun q => k (clt_trans q h)
theorem cov_low {p : Sp} {c : Cut} (h : clt c p.lc) : covers p c = false := by
  simp [covers, cle, h]
theorem canon_ind : ∀ {L : List Sp}, Canon L → ∀ c, indC (cutsC L) c = L.any (covers · c)
  | [], _, c => rfl
  | p :: L, h, c => by
    have ih := canon_ind h.tail c
    obtain ⟨h1, h2⟩ := List.pairwise_cons.mp h
    obtain ⟨h3, h4⟩ := List.pairwise_cons.mp h2
    have hlh : clt p.lc p.hc := h1 _ (by simp)
    rw [cutsC_cons, indC_cons, indC_cons, ih, List.any_cons]
    cases e : cle c p.hc with
    | true =>
      rw [cle_mono hlh e]
      simp [covers, e]
    | false =>
      have lowL : indC (cutsC L) c = false := indC_low fun d hd => by
        have : clt c p.hc := by simpa [cle] using e
        exact clt_trans this (h3 d hd)
      rw [ih] at lowL
      rw [lowL]
      simp [covers, e]
theorem cutsC_inj : ∀ {L M : List Sp}, cutsC L = cutsC M → L = M
  | [], [], _ => rfl
  | [], _ :: _, h => by simp at h
  | _ :: _, [], h => by simp at h
  | p :: L, q :: M, h => by
    simp only [cutsC_cons, List.cons.injEq] at h
    obtain ⟨h1, h2, h3⟩ := h
    rw [cutsC_inj h3]
    congr 1
    cases p; cases q
    simp only [Sp.lc, Sp.hc, Prod.mk.injEq, Bool.not_eq_not] at h1 h2
    obtain ⟨rfl, e⟩ := h1
    obtain ⟨rfl, rfl⟩ := h2
    simp_all
/-- a lot has one span list -/
theorem canon_unique {L M : List Sp} (hL : Canon L) (hM : Canon M) (h : ∀ c, indC (cutsC L) c = indC (cutsC M) c) : L = M := cutsC_inj (ascC_unique hL hM h)
/-! ### cuts by a scale -/
def dvL (s : Int) (L : List Sp) : Prop := ∀ p ∈ L, dvs s p.lo ∧ dvs s p.hi
theorem dvL.cut {s : Int} {L : List Sp} (h : dvL s L) : ∀ c ∈ cutsC L, dvs s c.1 := by
  intro c hc
  obtain ⟨p, hp, rfl | rfl⟩ := mem_cutsC hc
  · exact (h p hp).1
  · exact (h p hp).2
def cutsI (s : Int) (L : List Sp) : List Int := (cutsC L).map (io s)
theorem cutsI_cons (s : Int) (p : Sp) (L : List Sp) : cutsI s (p :: L) = (2 * atS s p.lo + b01 (!p.lf)) :: (2 * atS s p.hi + b01 p.hf) :: cutsI s L := rfl
theorem cutsI_append (s : Int) (L M : List Sp) : cutsI s (L ++ M) = cutsI s L ++ cutsI s M := by simp [cutsI, cutsC_append]
theorem cutsI_len (s : Int) (L : List Sp) : (cutsI s L).length = 2 * L.length := by
  induction L with
  | nil => rfl
  | cons p L ih => rw [cutsI_cons]; simp [ih]; omega
theorem cutsI_odd (s : Int) (L : List Sp) : odd (cutsI s L).length = false := by
  rw [cutsI_len]; unfold odd; simp
/-- spans of cuts -/
def spF (s : Int) : List Int → List Sp
  | a :: b :: r => ⟨(ko s a).1, (ko s b).1, !(ko s a).2, (ko s b).2⟩ :: spF s r
  | _ => []
theorem odd_two (n : Nat) : odd (n + 1 + 1) = odd n := by rw [odd_succ, odd_succ, Bool.not_not]
theorem spF_cuts {s : Int} : ∀ {r : List Int}, odd r.length = false → cutsC (spF s r) = r.map (ko s)
  | [], _ => rfl
  | [_], h => by cases h
  | a :: b :: r, h => by
    have h : odd r.length = false := by rw [← h]; exact (odd_two r.length).symm
    simp only [spF, cutsC_cons, List.map_cons, spF_cuts h, Sp.lc, Sp.hc, Bool.not_not]
theorem spF_dv {s : Int} (hs : 0 < s) : ∀ {r : List Int}, dvL s (spF s r)
  | [] => fun p hp => by cases hp
  | [_] => fun p hp => by cases hp
  | a :: b :: r => fun p hp => by
    simp only [spF] at hp
    rcases List.mem_cons.mp hp with rfl | hp
    · exact ⟨ko_dvs hs, ko_dvs hs⟩
    · exact spF_dv hs p hp
theorem spF_cutsI {s : Int} (hs : 0 < s) {r : List Int} (h : odd r.length = false) : cutsI s (spF s r) = r := by
  unfold cutsI
  rw [spF_cuts h, List.map_map]
  refine (List.map_congr_left fun a _ => ?_).trans (List.map_id _)
  exact io_ko hs
/-- what joined tells, by whatever scale -/
structure IsJn (g : Bool → Bool → Bool) (L M R : List Sp) : Prop where
  can : Canon R
  mem : ∀ c ∈ cutsC R, c ∈ cutsC L ∨ c ∈ cutsC M
  at_ : ∀ c, indC (cutsC R) c = g (indC (cutsC L) c) (indC (cutsC M) c)
theorem ko_io {s : Int} (hs : 0 < s) {c : Cut} (h : dvs s c.1) : ko s (io s c) = c := by
  have e := atS_rat h
  have h0 : (s : Rat) ≠ 0 := by
    intro z
    have := Rat.intCast_eq_zero_iff.mp z
    omega
  obtain ⟨x, b⟩ := c
  unfold io ko b01
  simp only at e ⊢
  have e1 : (2 * atS s x + (if b = true then 1 else 0)) / 2 = atS s x := by split <;> omega
  have e2 : (2 * atS s x + (if b = true then 1 else 0)) % 2 = (if b = true then 1 else 0) := by split <;> omega
  rw [e1, e2, Rat.divInt_eq_div, e, Rat.mul_div_cancel h0]
  cases b <;> rfl
theorem jn_of {g : Bool → Bool → Bool} {L M : List Sp} {s : Int} {r : List Int} (hg : g false false = false) (hs : 0 < s) (hL : dvL s L) (hM : dvL s M) (h : IsSw g (cutsI s L) (cutsI s M) r) : IsJn g L M (spF s r) := by
  have ev := h.even hg (cutsI_odd s L) (cutsI_odd s M)
  have ed := (spF_dv hs (r := r)).cut
  refine ⟨(asc_io hs ed).mp ?_, ?_, fun c => ?_⟩
  · have := spF_cutsI hs ev
    unfold cutsI at this
    rw [this]
    exact h.asc
  · intro c hc
    rw [spF_cuts ev] at hc
    obtain ⟨a, ha, rfl⟩ := List.mem_map.mp hc
    rcases h.mem a ha with q | q
    · left
      obtain ⟨d, hd, rfl⟩ := List.mem_map.mp q
      rw [ko_io hs (hL.cut d hd)]
      exact hd
    · right
      obtain ⟨d, hd, rfl⟩ := List.mem_map.mp q
      rw [ko_io hs (hM.cut d hd)]
      exact hd
  · have e := ind_io hs ed c
    have e1 := spF_cutsI hs ev
    unfold cutsI at e1
    rw [e1] at e
    rw [← e, h.at_, ← ind_io hs hL.cut c, ← ind_io hs hM.cut c]
    rfl
/-! ### listed cell by cell -/
def trs : List Bool → Nat → Bool → List Nat
  | [], i, ins => if ins then [i] else []
  | m :: r, i, ins => if m != ins then i :: trs r (i + 1) m else trs r (i + 1) m
theorem trs_mem : ∀ {ms : List Bool} {i : Nat} {ins : Bool}, ∀ j ∈ trs ms i ins, i ≤ j ∧ j ≤ i + ms.length
  | [], i, ins, j, h => by
    unfold trs at h
    split at h
    · simp at h; omega
    · cases h
  | m :: r, i, ins, j, h => by
    unfold trs at h
    rw [List.length_cons]
    split at h
    · rcases List.mem_cons.mp h with rfl | h
      · omega
      · have := trs_mem j h; omega
    · have := trs_mem j h; omega
theorem trs_asc : ∀ {ms : List Bool} {i : Nat} {ins : Bool}, (trs ms i ins).Pairwise (· < ·)
  | [], i, ins => by unfold trs; split <;> simp
  | m :: r, i, ins => by
    unfold trs
    split
    · exact List.pairwise_cons.mpr ⟨fun j hj => by have := trs_mem j hj; omega, trs_asc⟩
    · exact trs_asc
theorem trs_ind (N : Nat) : ∀ {ms : List Bool} {i : Nat} {ins : Bool}, i < N → N ≤ i + ms.length + 1 → (odd ((trs ms i ins).countP fun j => decide (j < N)) != ins) = (ms[N - 1 - i]?).getD false
  | [], i, ins, h1, h2 => by
    have : N = i + 1 := by simp at h2; omega
    subst this
    unfold trs
    cases ins <;> simp [odd]
  | m :: r, i, ins, h1, h2 => by
    rw [List.length_cons] at h2
    by_cases hN : N = i + 1
    · subst hN
      have z : (trs r (i + 1) m).countP (fun j => decide (j < i + 1)) = 0 := List.countP_eq_zero.mpr fun j hj => by
        have := trs_mem j hj
        simp; omega
      have e1 : trs (m :: r) i ins = if m != ins then i :: trs r (i + 1) m else trs r (i + 1) m := rfl
      rw [e1]
      split
      · rename_i hc
        rw [List.countP_cons, z]
        simp
        revert hc
        cases m <;> cases ins <;> simp [odd]
      · rename_i hc
        rw [z]
        simp
        revert hc
        cases m <;> cases ins <;> simp
    · have ih := trs_ind N (ms := r) (i := i + 1) (ins := m) (by omega) (by omega)
      have e : N - 1 - i = (N - 1 - (i + 1)) + 1 := by omega
      have e1 : trs (m :: r) i ins = if m != ins then i :: trs r (i + 1) m else trs r (i + 1) m := rfl
      rw [e, List.getElem?_cons_succ, ← ih, e1]
      split
      · rename_i hc
        rw [List.countP_cons]
        have : decide (i < N) = true := by simp [h1]
        simp only [this, if_true]
        rw [odd_succ]
        generalize odd ((trs r (i + 1) m).countP fun j => decide (j < N)) = o
        revert hc
        cases m <;> cases ins <;> cases o <;> simp
      · rename_i hc
        generalize odd ((trs r (i + 1) m).countP fun j => decide (j < N)) = o
        revert hc
        cases m <;> cases ins <;> cases o <;> simp
def mkS (c d : Cut) : Sp := ⟨c.1, d.1, !c.2, d.2⟩
def lst (kp : Nat → Cut) : List Bool → Nat → Option Nat → List Sp
  | [], _, none => []
  | [], i, some st => [mkS (kp st) (kp i)]
  | true :: r, i, none => lst kp r (i + 1) (some i)
  | false :: r, i, none => lst kp r (i + 1) none
  | true :: r, i, some st => lst kp r (i + 1) (some st)
  | false :: r, i, some st => mkS (kp st) (kp i) :: lst kp r (i + 1) none
theorem lst_cuts {kp : Nat → Cut} : ∀ {ms : List Bool} {i : Nat}, cutsC (lst kp ms i none) = (trs ms i false).map kp ∧ ∀ st, cutsC (lst kp ms i (some st)) = kp st :: (trs ms i true).map kp
  | [], i => ⟨rfl, fun st => by simp [lst, trs, mkS, Sp.lc, Sp.hc]⟩
  | true :: r, i => by
    obtain ⟨h1, h2⟩ := lst_cuts (kp := kp) (ms := r) (i := i + 1)
    exact ⟨by simp [lst, trs, h2], fun st => by simp [lst, trs, h2]⟩
  | false :: r, i => by
    obtain ⟨h1, h2⟩ := lst_cuts (kp := kp) (ms := r) (i := i + 1)
    exact ⟨by simp [lst, trs, h1], fun st => by simp [lst, trs, h1, mkS, Sp.lc, Sp.hc]⟩
theorem count_seg {P : Nat → Bool} : ∀ {m : Nat}, (∀ i j, i < j → j < m → P j = true → P i = true) → ∀ i, i < m → (P i = true ↔ i < (List.range m).countP P)
  | 0, _, i, hi => by omega
  | m + 1, h, i, hi => by
    have ih := count_seg (P := P) (m := m) fun i j h1 h2 => h i j h1 (by omega)
    rw [List.range_succ, List.countP_append]
    have hle : (List.range m).countP P ≤ m := by have := List.countP_le_length (p := P) (l := List.range m); simpa using this
    cases hm : P m with
    | true =>
      have all : ∀ j, j < m → P j = true := fun j hj => h j m hj (by omega) hm
      have hc : (List.range m).countP P = m := by
        have := List.countP_eq_length (p := P) (l := List.range m) |>.mpr fun j hj => all j (List.mem_range.mp hj)
        simpa using this
      rw [hc]
      simp [hm]
      constructor
      · intro _; omega
      · intro _
        by_cases e : i = m
        · rw [e]; exact hm
        · exact all i (by omega)
    | false =>
      simp [hm]
      by_cases e : i = m
      · subst e
        rw [hm]
        simp
        omega
      · exact ih i (by omega)
theorem any_cong {α : Type} {l : List α} {f g : α → Bool} (h : ∀ x ∈ l, f x = g x) : l.any f = l.any g := by
  induction l with
  | nil => rfl
  | cons x l ih => rw [List.any_cons, List.any_cons, h x (by simp), ih fun y hy => h y (List.mem_cons_of_mem _ hy)]
/-- the cells' span list has just what the spans have -/
theorem lst_ok {kp : Nat → Cut} {m : Nat} (hk : ∀ i j, i < j → j < m + 1 → clt (kp i) (kp j)) {listed : List Sp} (hl : ∀ p ∈ listed, ∃ a b, a < m + 1 ∧ b < m + 1 ∧ p.lc = kp a ∧ p.hc = kp b) {marks : List Bool} (hm : marks.length = m)
    (hmk : ∀ i, i < m → marks[i]? = some (listed.any (covers · (kp i)))) : Canon (lst kp marks 0 none) ∧ ∀ c, indC (cutsC (lst kp marks 0 none)) c = listed.any (covers · c) := by
  have ht := (lst_cuts (kp := kp) (ms := marks) (i := 0)).1
  have tm : ∀ j ∈ trs marks 0 false, j < m + 1 := fun j hj => by have := trs_mem j hj; omega
  refine ⟨?_, fun c => ?_⟩
  · unfold Canon AscC
    rw [ht, List.pairwise_map]
    exact List.Pairwise.imp_of_mem (fun ha hb q => hk _ _ q (tm _ hb)) trs_asc
  · rw [ht]
    unfold indC
    rw [List.countP_map]
    have seg := count_seg (P := fun i => cle c (kp i)) (m := m + 1) fun i j h1 h2 h3 => cle_mono (hk i j h1 h2) h3
    have hNle : (List.range (m + 1)).countP (fun i => cle c (kp i)) ≤ m + 1 := by
      have := List.countP_le_length (p := fun i => cle c (kp i)) (l := List.range (m + 1))
      simpa using this
    generalize (List.range (m + 1)).countP (fun i => cle c (kp i)) = N at seg hNle
    have e1 : (trs marks 0 false).countP (cle c ∘ kp) = (trs marks 0 false).countP fun j => decide (j < N) := List.countP_congr fun j hj => by
      rw [Function.comp, seg j (tm j hj), decide_eq_true_eq]
    rw [e1]
    have cov : ∀ p ∈ listed, ∀ a b, p.lc = kp a → p.hc = kp b → a < m + 1 → b < m + 1 → covers p c = (decide (a < N) && !decide (b < N)) := by
      intro p _ a b ea eb ha hb
      unfold covers
      rw [ea, eb]
      congr 1
      · rw [Bool.eq_iff_iff, seg a ha, decide_eq_true_eq]
      · congr 1
        rw [Bool.eq_iff_iff, seg b hb, decide_eq_true_eq]
    by_cases hN : N = 0
    · subst hN
      have z : (trs marks 0 false).countP (fun j => decide (j < 0)) = 0 := List.countP_eq_zero.mpr fun j _ => by simp
      rw [z, odd0]
      symm
      rw [List.any_eq_false]
      intro p hp
      obtain ⟨a, b, ha, hb, ea, eb⟩ := hl p hp
      rw [cov p hp a b ea eb ha hb]
      simp
    · by_cases hNm : N ≤ m + 1
      · have t := trs_ind N (ms := marks) (i := 0) (ins := false) (by omega) (by omega)
        have e0 : ∀ b : Bool, (b != false) = b := fun b => by cases b <;> rfl
        rw [e0] at t
        rw [t]
        have kcov : ∀ p ∈ listed, ∀ a b, p.lc = kp a → p.hc = kp b → a < m + 1 → b < m + 1 → covers p (kp (N - 1)) = covers p c := by
          intro p hp a b ea eb ha hb
          rw [cov p hp a b ea eb ha hb]
          unfold covers
          rw [ea, eb]
          have q : ∀ j, j < m + 1 → cle (kp (N - 1)) (kp j) = decide (j < N) := by
            intro j hj
            unfold cle
            rw [decide_eq_decide]
            constructor
            · intro h
              by_cases hj2 : j < N
              · exact hj2
              · exact absurd (hk (N - 1) j (by omega) hj) h
            · intro h h2
              by_cases e : j = N - 1
              · subst e; exact clt_irr h2
              · exact clt_irr (clt_trans h2 (hk j (N - 1) (by omega) (by omega)))
          rw [q a ha, q b hb]
        have cong : listed.any (covers · (kp (N - 1))) = listed.any (covers · c) := any_cong fun p hp => by
          obtain ⟨a, b, ha, hb, ea, eb⟩ := hl p hp
          exact kcov p hp a b ea eb ha hb
        rw [← cong, Nat.sub_zero]
        by_cases hlast : N - 1 < m
        · rw [hmk _ hlast]; rfl
        · have : N = m + 1 := by omega
          subst this
          rw [List.getElem?_eq_none (by omega)]
          simp only [Option.getD_none]
          symm
          rw [List.any_eq_false]
          intro p hp
          obtain ⟨a, b, ha, hb, ea, eb⟩ := hl p hp
          rw [kcov p hp a b ea eb ha hb, cov p hp a b ea eb ha hb]
          simp; omega
      · exact absurd hNle hNm
end Rf

set_option Elab.async false
set_option linter.all false
set_option maxRecDepth 100000
/-! Q5: the simplest number of a span (plain law) -/
namespace Rf
def inLo (lo : Rat) (lf : Bool) (y : Rat) : Prop := lo < y ∨ (lo = y ∧ lf = true)
def inHi (hi : Option Rat) (hf : Bool) (y : Rat) : Prop := match hi with
  | none => True
  | some h => y < h ∨ (y = h ∧ hf = true)
def inJ (lo : Rat) (lf : Bool) (hi : Option Rat) (hf : Bool) (y : Rat) : Prop := inLo lo lf y ∧ inHi hi hf y
def fstW (x : Rat) (f : Bool) : Int := if x.den = 1 ∧ f = true then x.floor else x.floor + 1
def lstW (x : Rat) (f : Bool) : Int := if x.den = 1 ∧ f = false then x.floor - 1 else x.floor
theorem den1_floor {x : Rat} (h : x.den = 1) : (x.floor : Rat) = x := by
  have : x = (x.num : Rat) := Rat.ext (by simp) (by simp [h])
  rw [this, Rat.floor_intCast]
theorem floor_den1 {x : Rat} {k : Int} (h : (k : Rat) = x) : x.den = 1 := by subst h; simp
theorem fst_le {lo : Rat} {lf : Bool} {k : Int} : inLo lo lf (k : Rat) ↔ fstW lo lf ≤ k := by
  have f1 := Rat.floor_le lo
  have f2 := Rat.lt_floor_add_one lo
  rw [Rat.intCast_add, Rat.intCast_one] at f2
  unfold inLo fstW
  generalize lo.floor = m at *
  by_cases hd : lo.den = 1
  · have e : (m : Rat) = lo := by
      have := den1_floor hd
      by_cases z : m = lo.floor
      · rw [z]; exact this
      · exfalso; apply z
        rw [← this] at f1 f2
        have g1 := Rat.intCast_le_intCast.mp f1
        have g2 : (lo.floor : Int) < m + 1 := Rat.intCast_lt_intCast.mp (by rw [Rat.intCast_add, Rat.intCast_one]; exact f2)
        omega
    rw [← e, Rat.intCast_lt_intCast, Rat.intCast_inj]
    cases lf <;> simp [e, hd] <;> omega
  · have e : ∀ k : Int, ¬ lo = (k : Rat) := fun k h => hd (floor_den1 h.symm)
    rw [if_neg (fun h => hd h.1)]
    constructor
    · rintro (h | ⟨h, _⟩)
      · have : (m : Rat) < k := by grind
        have := Rat.intCast_lt_intCast.mp this
        omega
      · exact absurd h (e k)
    · intro h
      left
      have : ((m + 1 : Int) : Rat) ≤ k := Rat.intCast_le_intCast.mpr h
      rw [Rat.intCast_add, Rat.intCast_one] at this
      grind
theorem lst_le {h : Rat} {hf : Bool} {k : Int} : inHi (some h) hf (k : Rat) ↔ k ≤ lstW h hf := by
  have f1 := Rat.floor_le h
  have f2 := Rat.lt_floor_add_one h
  rw [Rat.intCast_add, Rat.intCast_one] at f2
  unfold inHi lstW
  simp only
  generalize h.floor = m at *
  by_cases hd : h.den = 1
  · have e : (m : Rat) = h := by
      have := den1_floor hd
      by_cases z : m = h.floor
      · rw [z]; exact this
      · exfalso; apply z
        rw [← this] at f1 f2
        have g1 := Rat.intCast_le_intCast.mp f1
        have g2 : (h.floor : Int) < m + 1 := Rat.intCast_lt_intCast.mp (by rw [Rat.intCast_add, Rat.intCast_one]; exact f2)
        omega
    rw [← e, Rat.intCast_lt_intCast, Rat.intCast_inj]
    cases hf <;> simp [e, hd] <;> omega
  · have e : ∀ k : Int, ¬ (k : Rat) = h := fun k h' => hd (floor_den1 h')
    rw [if_neg (fun h => hd h.1)]
    constructor
    · rintro (h' | ⟨h', _⟩)
      · have : (k : Rat) < m + 1 := by grind
        have : (k : Rat) < ((m + 1 : Int) : Rat) := by rw [Rat.intCast_add, Rat.intCast_one]; exact this
        have := Rat.intCast_lt_intCast.mp this
        omega
      · exact absurd h' (e k)
    · intro h'
      left
      have : (k : Rat) ≤ m := Rat.intCast_le_intCast.mpr h'
      have := e k
      grind
theorem inHi_conv {hi : Option Rat} {hf : Bool} {x y : Rat} (h : inHi hi hf y) (l : x ≤ y) : inHi hi hf x := by
  cases hi with
  | none => trivial
  | some k =>
    rcases h with h | ⟨h, h2⟩
    · exact .inl (by grind)
    · by_cases e : x = k
      · exact .inr ⟨e, h2⟩
      · exact .inl (by grind)
theorem inLo_conv {lo : Rat} {lf : Bool} {x y : Rat} (h : inLo lo lf x) (l : x ≤ y) : inLo lo lf y := by
  rcases h with h | ⟨h, h2⟩
  · exact .inl (by grind)
  · by_cases e : lo = y
    · exact .inr ⟨e, h2⟩
    · exact .inl (by grind)
/-- no integer within: all between two -/
theorem between {lo : Rat} {lf : Bool} {hi : Option Rat} {hf : Bool} {w : Int} (hw : fstW lo lf = w + 1) (hno : ¬ inHi hi hf ((w + 1 : Int) : Rat)) {y : Rat} (hy : inJ lo lf hi hf y) : (w : Rat) < y ∧ y < (w : Rat) + 1 := by
  constructor
  · by_cases h : (w : Rat) < y
    · exact h
    · exfalso
      have : inLo lo lf (w : Rat) := inLo_conv hy.1 (by grind)
      have := fst_le.mp this
      omega
  · by_cases h : y < (w : Rat) + 1
    · exact h
    · exfalso
      apply hno
      exact inHi_conv hy.2 (by rw [Rat.intCast_add, Rat.intCast_one]; grind)
/-- turned about: 1 / (x - w) -/
def inv1 (w : Int) (x : Rat) : Rat := 1 / (x - w)
theorem inv1_ok {w : Int} {x : Rat} (h : (w : Rat) < x) : (inv1 w x).num = x.den ∧ ((inv1 w x).den : Int) = x.num - w * x.den ∧ 0 < x.num - w * x.den := by
  have hd := x.den_pos
  have hdR := denR_pos x
  have hp : 0 < x.num - w * x.den := by
    have h1 : (w : Rat) * x.den < x * x.den := (Rat.mul_lt_mul_right hdR).mpr h
    rw [← numR] at h1
    have h2 : ((w * (x.den : Int) : Int) : Rat) < ((x.num : Int) : Rat) := by
      rw [Rat.intCast_mul]; exact h1
    have := Rat.intCast_lt_intCast.mp h2
    omega
  have e : inv1 w x = Rat.divInt x.den (x.num - w * x.den) := by
    unfold inv1
    rw [Rat.divInt_eq_div]
    have e1 : (((x.num - w * x.den : Int)) : Rat) = (x - w) * x.den := by
      rw [Rat.intCast_sub, Rat.intCast_mul, numR]
      have : (((x.den : Nat) : Int) : Rat) = ((x.den : Nat) : Rat) := rfl
      rw [this]; grind
    have e2 : (((x.den : Nat) : Int) : Rat) = ((x.den : Nat) : Rat) := rfl
    rw [e1, e2]
    have n1 : x - w ≠ 0 := by grind
    have n2 : (x.den : Rat) ≠ 0 := by grind
    grind
  have g : (x.num - w * x.den).gcd x.den = 1 := by
    have h1 : (x.num - w * x.den).gcd x.den = x.num.gcd x.den := by
      have := Int.gcd_sub_mul_right_left x.num x.den w
      first
        | exact this
        | simpa [Int.mul_comm] using this
    rw [h1]
    exact x.reduced
  refine ⟨?_, ?_, hp⟩
  · rw [e, Rat.num_divInt, g, Int.sign_eq_one_of_pos hp]; simp
  · rw [e, Rat.den_divInt, if_neg (by omega), g]; simp; omega
theorem inv1_back {w : Int} {x : Rat} (h : (w : Rat) < x) : (w : Rat) + 1 / inv1 w x = x := by
  unfold inv1
  have : x - w ≠ 0 := by grind
  grind
/-- .. and back -/
def fwd (w : Int) (t : Rat) : Rat := w + 1 / t
theorem fwd_ok {w : Int} {t : Rat} (h : 0 < t) : (fwd w t).num = w * t.num + t.den ∧ ((fwd w t).den : Int) = t.num ∧ inv1 w (fwd w t) = t ∧ (w : Rat) < fwd w t := by
  have e : inv1 w (fwd w t) = t := by
    unfold inv1 fwd
    grind
  have l : (w : Rat) < fwd w t := by
    unfold fwd
    have : 0 < 1 / t := by rw [Rat.div_def, Rat.one_mul]; exact Rat.inv_pos.mpr h
    grind
  obtain ⟨a, b, c⟩ := inv1_ok l
  rw [e] at a b
  refine ⟨?_, a.symm, e, l⟩
  rw [← a] at b
  omega
/-- least top and bottom at once -/
def Best (lo : Rat) (lf : Bool) (hi : Option Rat) (hf : Bool) (t : Rat) : Prop := inJ lo lf hi hf t ∧ ∀ y, inJ lo lf hi hf y → t.den ≤ y.den ∧ t.num ≤ y.num
def nextHi (w : Int) (lo : Rat) : Option Rat := if (w : Rat) = lo then none else some (inv1 w lo)
theorem inv_lt {a b : Rat} (ha : 0 < a) (hb : 0 < b) : 1 / a < 1 / b ↔ b < a := by
  have e1 : 1 / a * (a * b) = b := by grind
  have e2 : 1 / b * (a * b) = a := by grind
  have hab := Rat.mul_pos ha hb
  rw [← Rat.mul_lt_mul_right hab, e1, e2]
theorem inv1_lt {w : Int} {x y : Rat} (hx : (w : Rat) < x) (hy : (w : Rat) < y) : inv1 w x < inv1 w y ↔ y < x := by
  unfold inv1
  rw [inv_lt (by grind) (by grind)]
  grind
theorem inv1_inj {w : Int} {x y : Rat} (hx : (w : Rat) < x) (hy : (w : Rat) < y) : inv1 w x = inv1 w y ↔ x = y := by
  constructor
  · intro h
    rw [← inv1_back hx, ← inv1_back hy, h]
  · intro h; rw [h]
/-- the interval turned about -/
theorem turn_in {lo : Rat} {lf : Bool} {h : Rat} {hf : Bool} {w : Int} (hw : fstW lo lf = w + 1) (hh : (w : Rat) < h) {y : Rat} (hy : (w : Rat) < y) : inJ lo lf (some h) hf y ↔ inJ (inv1 w h) hf (nextHi w lo) lf (inv1 w y) := by
  have hlo : (w : Rat) ≤ lo := by
    by_cases q : (w : Rat) ≤ lo
    · exact q
    · have : inLo lo lf (w : Rat) := .inl (by grind)
      have := fst_le.mp this
      omega
  have a1 : inHi (some h) hf y ↔ inLo (inv1 w h) hf (inv1 w y) := by
    unfold inHi inLo
    simp only
    rw [inv1_lt hh hy, inv1_inj hh hy]
    constructor
    · rintro (q | ⟨q, r⟩)
      · exact .inl q
      · exact .inr ⟨q.symm, r⟩
    · rintro (q | ⟨q, r⟩)
      · exact .inl q
      · exact .inr ⟨q.symm, r⟩
  have a2 : inLo lo lf y ↔ inHi (nextHi w lo) lf (inv1 w y) := by
    unfold nextHi
    split
    · rename_i e
      have : inLo lo lf y := .inl (by rw [← e]; exact hy)
      exact ⟨fun _ => trivial, fun _ => this⟩
    · rename_i e
      have hl : (w : Rat) < lo := by grind
      unfold inHi inLo
      simp only
      rw [inv1_lt hy hl, inv1_inj hy hl]
      constructor
      · rintro (q | ⟨q, r⟩)
        · exact .inl q
        · exact .inr ⟨q.symm, r⟩
      · rintro (q | ⟨q, r⟩)
        · exact .inl q
        · exact .inr ⟨q.symm, r⟩
  unfold inJ
  rw [a1, a2]
  exact And.comm
theorem inv1_pos {w : Int} {x : Rat} (h : (w : Rat) < x) : 0 < inv1 w x := by
  unfold inv1
  rw [Rat.div_def, Rat.one_mul]
  exact Rat.inv_pos.mpr (by grind)
/-- one step back -/
theorem best_step {lo : Rat} {lf : Bool} {h : Rat} {hf : Bool} {w : Int} (hw : fstW lo lf = w + 1) (hno : ¬ inHi (some h) hf ((w + 1 : Int) : Rat)) (hh : (w : Rat) < h) {t : Rat} (ht0 : 0 < t) (ht : Best (inv1 w h) hf (nextHi w lo) lf t) :
    inJ lo lf (some h) hf (fwd w t) ∧ ∀ y, inJ lo lf (some h) hf y → (fwd w t).den ≤ y.den ∧ t.den ≤ y.num - w * y.den := by
  obtain ⟨f1, f2, f3, f4⟩ := fwd_ok (w := w) ht0
  refine ⟨(turn_in hw hh f4).mpr (by rw [f3]; exact ht.1), fun y hy => ?_⟩
  have hwy := (between hw hno hy).1
  obtain ⟨g1, g2, g3⟩ := inv1_ok hwy
  obtain ⟨k1, k2⟩ := ht.2 _ ((turn_in hw hh hwy).mp hy)
  rw [g1] at k2
  refine ⟨by omega, by rw [← g2]; omega⟩
theorem best_up {lo : Rat} {lf : Bool} {h : Rat} {hf : Bool} {w : Int} (h0 : 0 ≤ w) (hw : fstW lo lf = w + 1) (hno : ¬ inHi (some h) hf ((w + 1 : Int) : Rat)) (hh : (w : Rat) < h) {t : Rat} (ht0 : 0 < t) (ht : Best (inv1 w h) hf (nextHi w lo) lf t) :
    Best lo lf (some h) hf (fwd w t) := by
  obtain ⟨a, b⟩ := best_step hw hno hh ht0 ht
  obtain ⟨f1, f2, f3, f4⟩ := fwd_ok (w := w) ht0
  refine ⟨a, fun y hy => ⟨(b y hy).1, ?_⟩⟩
  obtain ⟨b1, b2⟩ := b y hy
  rw [f1]
  have : w * t.num ≤ w * y.den := Int.mul_le_mul_of_nonneg_left (by omega) h0
  omega
theorem best_base {lo : Rat} {lf : Bool} {hi : Option Rat} {hf : Bool} (h1 : 1 ≤ fstW lo lf) (hin : inHi hi hf ((fstW lo lf : Int) : Rat)) : Best lo lf hi hf ((fstW lo lf : Int) : Rat) := by
  refine ⟨⟨fst_le.mpr (Int.le_refl _), hin⟩, fun y hy => ⟨?_, ?_⟩⟩
  · rw [Rat.den_intCast]; exact y.den_pos
  · rw [Rat.num_intCast]
    by_cases q : fstW lo lf ≤ y.num
    · exact q
    · exfalso
      have hd := y.den_pos
      have hdR := denR_pos y
      have : y ≤ ((fstW lo lf - 1 : Int) : Rat) := by
        have h2 : (y.num : Rat) ≤ ((fstW lo lf - 1 : Int) : Rat) * y.den := by
          have : y.num ≤ (fstW lo lf - 1) * y.den := by
            have : (fstW lo lf - 1) * 1 ≤ (fstW lo lf - 1) * y.den := Int.mul_le_mul_of_nonneg_left (by omega) (by omega)
            omega
          have := Rat.intCast_le_intCast.mpr this
          rw [Rat.intCast_mul] at this
          exact this
        rw [numR] at h2
        exact Rat.le_of_mul_le_mul_right h2 hdR
      have := fst_le.mp (inLo_conv hy.1 this)
      omega
/-- the simplest number of a span -/
structure Smp (p : Sp) (t : Rat) : Prop where
  in_ : inJ p.lo p.lf (some p.hi) p.hf t
  least : ∀ y, inJ p.lo p.lf (some p.hi) p.hf y → t.den ≤ y.den
  one : t.den = 1 → t.num = if fstW p.lo p.lf > 0 then fstW p.lo p.lf else min (lstW p.hi p.hf) 0
  sole : 1 < t.den → ∀ y, inJ p.lo p.lf (some p.hi) p.hf y → y.den = t.den → y = t
theorem di_in {a b : Int} (hb : 0 < b) : ((Rat.divInt a b).den : Int) ≤ b ∧ (Rat.divInt a b) * b = a := by
  constructor
  · rw [Rat.den_divInt, if_neg (by omega)]
    have : b.natAbs / b.gcd a ≤ b.natAbs := Nat.div_le_self _ _
    omega
  · rw [Rat.divInt_eq_div]
    exact Rat.div_mul_cancel (fun z => by have := Rat.intCast_eq_zero_iff.mp z; omega)
/-- of the least bottom there is one top only -/
theorem sole_of {lo : Rat} {lf : Bool} {hi : Option Rat} {hf : Bool} {w : Int} (hbt : ∀ y, inJ lo lf hi hf y → (w : Rat) < y ∧ y < (w : Rat) + 1) {t : Rat} (ht : inJ lo lf hi hf t) (least : ∀ y, inJ lo lf hi hf y → t.den ≤ y.den) (h1 : 1 < t.den) :
    ∀ y, inJ lo lf hi hf y → y.den = t.den → y = t := by
  have key : ∀ x y : Rat, inJ lo lf hi hf x → inJ lo lf hi hf y → x.den = t.den → y.den = t.den → x.num < y.num → False := by
    intro x y hx hy ex ey hlt
    have hB : (0 : Rat) < (t.den : Rat) := denR_pos t
    obtain ⟨x1, x2⟩ := hbt x hx
    obtain ⟨y1, y2⟩ := hbt y hy
    have nx := numR x
    have ny := numR y
    rw [ex] at nx
    rw [ey] at ny
    have hb2 : (0 : Int) < (t.den : Int) - 1 := by omega
    have hm := (di_in (a := x.num - w) hb2).2
    have hd := (di_in (a := x.num - w) hb2).1
    generalize Rat.divInt (x.num - w) ((t.den : Int) - 1) = z at hm hd
    rw [Rat.intCast_sub, Rat.intCast_sub, Rat.intCast_one] at hm
    have e2 : (((t.den : Nat) : Int) : Rat) = ((t.den : Nat) : Rat) := rfl
    rw [e2] at hm
    have b1 : (0 : Rat) < (t.den : Rat) - 1 := by
      have : ((1 : Int) : Rat) < ((t.den : Int) : Rat) := Rat.intCast_lt_intCast.mpr (by omega)
      rw [e2, Rat.intCast_one] at this
      grind
    have hle : (x.num : Rat) + 1 ≤ y.num := by
      have := Rat.intCast_le_intCast.mpr (show x.num + 1 ≤ y.num by omega)
      rw [Rat.intCast_add, Rat.intCast_one] at this
      exact this
    -- x ≤ z ≤ y
    have zx : x ≤ z := by
      have : x * ((t.den : Rat) - 1) ≤ z * ((t.den : Rat) - 1) := by
        rw [hm, nx]
        grind
      exact Rat.le_of_mul_le_mul_right this b1
    have zy : z ≤ y := by
      have h3 : z * ((t.den : Rat) - 1) ≤ y * ((t.den : Rat) - 1) := by
        rw [hm]
        have : (x.num : Rat) ≤ y * t.den - 1 := by rw [← ny]; grind
        grind
      exact Rat.le_of_mul_le_mul_right h3 b1
    have zin : inJ lo lf hi hf z := ⟨inLo_conv hx.1 zx, inHi_conv hy.2 zy⟩
    have := least z zin
    omega
  intro y hy ey
  rcases Int.lt_trichotomy y.num t.num with h | h | h
  · exact (key y t hy ht ey rfl h).elim
  · exact Rat.ext h ey
  · exact (key t y ht hy rfl ey h).elim
end Rf

set_option Elab.async false
set_option linter.all false
set_option maxRecDepth 100000
/-! Q4: cells, scaled span lists, lengths, near numbers (plain law) -/
namespace Rf
/-- the law's own look -/
def within (p : Sp) (x : Rat) : Bool := (decide (p.lo < x) && decide (x < p.hi)) || (decide (x = p.lo) && p.lf) || (decide (x = p.hi) && p.hf)
theorem ok_iff {p : Sp} : p.ok ↔ p.lo < p.hi ∨ (p.lo = p.hi ∧ p.lf = true ∧ p.hf = true) := by
  unfold Sp.ok clt Sp.lc Sp.hc
  simp
theorem within_cov {p : Sp} (h : p.ok) (x : Rat) : within p x = covers p (x, false) := by
  have h := ok_iff.mp h
  rw [Bool.eq_iff_iff]
  simp only [within, covers, cle, clt, Sp.lc, Sp.hc, Bool.or_eq_true, Bool.and_eq_true, decide_eq_true_eq, Bool.not_eq_true', decide_eq_false_iff_not, Bool.not_eq_eq_eq_not, Bool.not_true]
  cases hl : p.lf <;> cases hh : p.hf <;> simp [hl, hh] at h ⊢ <;> grind
theorem within_in {p : Sp} (h : p.ok) (x : Rat) : within p x = true ↔ inJ p.lo p.lf (some p.hi) p.hf x := by
  have h := ok_iff.mp h
  simp only [within, inJ, inLo, inHi, Bool.or_eq_true, Bool.and_eq_true, decide_eq_true_eq]
  cases hl : p.lf <;> cases hh : p.hf <;> simp [hl, hh] at h ⊢ <;> grind
theorem covers_iff {p : Sp} {c : Cut} : covers p c = true ↔ ¬ clt c p.lc ∧ clt c p.hc := by
  unfold covers cle
  simp
/-- the cut ahead of a cell -/
def kpM (s : Int) (ms : List Int) (i : Nat) : Cut := (Rat.divInt (ms.getD (i / 2) 0) s, i % 2 == 1)
theorem di_lt {a b s : Int} (hs : 0 < s) : Rat.divInt a s < Rat.divInt b s ↔ a < b := by
  have hsR : (0 : Rat) < (s : Rat) := Rat.intCast_pos.mpr hs
  rw [← Rat.mul_lt_mul_right hsR, (di_in hs).2, (di_in hs).2, Rat.intCast_lt_intCast]
theorem di_inj {a b s : Int} (hs : 0 < s) : Rat.divInt a s = Rat.divInt b s ↔ a = b := by
  constructor
  · intro h
    have := (di_in (a := a) hs).2
    rw [h, (di_in hs).2] at this
    exact (Rat.intCast_inj.mp this).symm
  · intro h; rw [h]
theorem asc_get {ms : List Int} (h : Asc ms) {i j : Nat} (hij : i < j) (hj : j < ms.length) : ms.getD i 0 < ms.getD j 0 := by
  rw [List.getD_eq_getElem?_getD, List.getD_eq_getElem?_getD, List.getElem?_eq_getElem hj, List.getElem?_eq_getElem (by omega)]
  exact List.pairwise_iff_getElem.mp h i j (by omega) hj hij
theorem kpM_lt {s : Int} {ms : List Int} (hs : 0 < s) (h : Asc ms) : ∀ i j, i < j → j < 2 * ms.length → clt (kpM s ms i) (kpM s ms j) := by
  intro i j hij hj
  unfold clt kpM
  simp only
  by_cases e : i / 2 = j / 2
  · right
    rw [e]
    refine ⟨rfl, ?_, ?_⟩
    · have : i % 2 = 0 := by omega
      simp [this]
    · have : j % 2 = 1 := by omega
      simp [this]
  · left
    rw [di_lt hs]
    exact asc_get h (by omega) (by omega)
/-- a number of a cell -/
def smpl (s : Int) (ms : List Int) (i : Nat) : Rat := if i % 2 = 0 then Rat.divInt (ms.getD (i / 2) 0) s else Rat.divInt (ms.getD (i / 2) 0 + ms.getD (i / 2 + 1) 0) (2 * s)
theorem smpl_ok {s : Int} {ms : List Int} (hs : 0 < s) (h : Asc ms) {p : Sp} (hp : p.ok) {a b : Nat} (ha : a < ms.length) (hb : b < ms.length) (ea : p.lo = Rat.divInt (ms.getD a 0) s) (eb : p.hi = Rat.divInt (ms.getD b 0) s) {i : Nat} (hi : i + 1 < 2 * ms.length) :
    within p (smpl s ms i) = covers p (kpM s ms i) := by
  by_cases e : i % 2 = 0
  · have : kpM s ms i = (smpl s ms i, false) := by
      unfold kpM smpl
      simp [e]
    rw [this, within_cov hp]
  · have e1 : i % 2 = 1 := by omega
    have hsR : (0 : Rat) < (s : Rat) := Rat.intCast_pos.mpr hs
    have hs2 : (0 : Int) < 2 * s := by omega
    have hi2 : i / 2 + 1 < ms.length := by omega
    have h0 := asc_get h (show i / 2 < i / 2 + 1 by omega) hi2
    have sm : smpl s ms i = Rat.divInt (ms.getD (i / 2) 0 + ms.getD (i / 2 + 1) 0) (2 * s) := by unfold smpl; rw [if_neg e]
    have kp : kpM s ms i = (Rat.divInt (ms.getD (i / 2) 0) s, true) := by unfold kpM; simp [e1]
    have dbl : ∀ u : Int, Rat.divInt u s = Rat.divInt (2 * u) (2 * s) := fun u => (Rat.divInt_mul_left (by decide)).symm
    -- places and the middle
    have lt1 : ∀ c, c < ms.length → (Rat.divInt (ms.getD c 0) s < smpl s ms i ↔ c ≤ i / 2) := by
      intro c hc
      rw [sm, dbl, di_lt hs2]
      constructor
      · intro q
        by_cases w : c ≤ i / 2
        · exact w
        · exfalso
          by_cases e2 : c = i / 2 + 1
          · subst e2; omega
          · have := asc_get h (show i / 2 + 1 < c by omega) hc; omega
      · intro q
        by_cases e2 : c = i / 2
        · subst e2; omega
        · have := asc_get h (show c < i / 2 by omega) (by omega); omega
    have lt2 : ∀ c, c < ms.length → (smpl s ms i < Rat.divInt (ms.getD c 0) s ↔ i / 2 < c) := by
      intro c hc
      rw [sm, dbl, di_lt hs2]
      constructor
      · intro q
        by_cases w : i / 2 < c
        · exact w
        · exfalso
          by_cases e2 : c = i / 2
          · subst e2; omega
          · have := asc_get h (show c < i / 2 by omega) (by omega); omega
      · intro q
        by_cases e2 : c = i / 2 + 1
        · subst e2; omega
        · have := asc_get h (show i / 2 + 1 < c by omega) hc; omega
    have ne1 : ∀ c, c < ms.length → ¬ smpl s ms i = Rat.divInt (ms.getD c 0) s := by
      intro c hc q
      have l1 := lt1 c hc
      have l2 := lt2 c hc
      rw [q] at l1 l2
      have n1 : ¬ c ≤ i / 2 := fun z => Rat.lt_irrefl (l1.mpr z)
      have n2 : ¬ i / 2 < c := fun z => Rat.lt_irrefl (l2.mpr z)
      omega
    have pl : ∀ c d, c < ms.length → d < ms.length → (Rat.divInt (ms.getD c 0) s < Rat.divInt (ms.getD d 0) s ↔ c < d) := by
      intro c d hc hd
      rw [di_lt hs]
      constructor
      · intro q
        rcases Nat.lt_trichotomy c d with w | w | w
        · exact w
        · subst w; omega
        · have := asc_get h w hc; omega
      · intro q; exact asc_get h q hd
    have pe : ∀ c d, c < ms.length → d < ms.length → (Rat.divInt (ms.getD c 0) s = Rat.divInt (ms.getD d 0) s ↔ c = d) := by
      intro c d hc hd
      rw [di_inj hs]
      constructor
      · intro q
        rcases Nat.lt_trichotomy c d with w | w | w
        · have := asc_get h w hd; omega
        · exact w
        · have := asc_get h w hc; omega
      · intro q; rw [q]
    have hii : i / 2 < ms.length := by omega
    rw [kp, Bool.eq_iff_iff, covers_iff]
    simp only [within, clt, Sp.lc, Sp.hc, Bool.or_eq_true, Bool.and_eq_true, decide_eq_true_eq]
    rw [ea, eb, lt1 a ha, lt2 b hb, pl _ _ hii ha, pl _ _ hii hb, pe _ _ hii ha, pe _ _ hii hb]
    simp only [ne1 a ha, ne1 b hb, false_and, or_false]
    have okk := ok_iff.mp hp
    rw [ea, eb, pl _ _ ha hb, pe _ _ ha hb] at okk
    cases p.lf <;> cases p.hf <;> simp <;> omega
/-! ### scaled -/
def scSp (p q : Rat) (s : Sp) : Sp := if 0 < p then ⟨s.lo * p + q, s.hi * p + q, s.lf, s.hf⟩ else ⟨s.hi * p + q, s.lo * p + q, s.hf, s.lf⟩
def scL (p q : Rat) (L : List Sp) : List Sp := if 0 < p then L.map (scSp p q) else (L.map (scSp p q)).reverse
def scC (p q : Rat) (c : Cut) : Cut := (c.1 * p + q, if 0 < p then c.2 else !c.2)
theorem rev_cuts : ∀ L : List Sp, (cutsC L).reverse = L.reverse.flatMap fun p => [p.hc, p.lc]
  | [] => rfl
  | p :: L => by simp [rev_cuts L]
theorem scL_cuts (p q : Rat) (L : List Sp) : cutsC (scL p q L) = if 0 < p then (cutsC L).map (scC p q) else ((cutsC L).map (scC p q)).reverse := by
  unfold scL
  split
  · rename_i h
    induction L with
    | nil => rfl
    | cons s L ih => simp only [List.map_cons, cutsC_cons, ih]; simp [scSp, scC, h, Sp.lc, Sp.hc]
  · rename_i h
    induction L with
    | nil => rfl
    | cons s L ih => simp only [List.map_cons, List.reverse_cons, cutsC_append, ih, cutsC_cons]; simp [scSp, scC, h, Sp.lc, Sp.hc]
theorem mul_lt_neg {p x y : Rat} (hp : p < 0) : x * p < y * p ↔ y < x := by
  have h : (0 : Rat) < -p := by grind
  rw [← Rat.mul_lt_mul_right (a := y) h]
  constructor <;> intro k <;> grind
theorem aff_lt {p q u v : Rat} (h : 0 < p) : u * p + q < v * p + q ↔ u < v := by
  have k := Rat.mul_lt_mul_right (a := u) (b := v) h
  constructor <;> intro z
  · exact k.mp (by grind)
  · have := k.mpr z
    grind
theorem aff_gt {p q u v : Rat} (h : p < 0) : u * p + q < v * p + q ↔ v < u := by
  have k := mul_lt_neg (x := u) (y := v) h
  constructor <;> intro z
  · exact k.mp (by grind)
  · have := k.mpr z
    grind
theorem scC_lt {p q : Rat} {c d : Cut} (hp : p ≠ 0) : clt c d ↔ if 0 < p then clt (scC p q c) (scC p q d) else clt (scC p q d) (scC p q c) := by
  obtain ⟨x, a⟩ := c
  obtain ⟨y, b⟩ := d
  unfold clt scC
  by_cases h : 0 < p
  · simp only [h, if_true]
    have e1 : x * p + q < y * p + q ↔ x < y := aff_lt h
    have e2 : x * p + q = y * p + q ↔ x = y := by grind
    rw [e1, e2]
  · have h2 : p < 0 := by grind
    simp only [h, if_false]
    have e1 : y * p + q < x * p + q ↔ x < y := aff_gt h2
    have e2 : y * p + q = x * p + q ↔ x = y := by grind
    rw [e1, e2]
    cases a <;> cases b <;> simp
theorem scL_canon {p q : Rat} {L : List Sp} (hp : p ≠ 0) (h : Canon L) : Canon (scL p q L) := by
  unfold Canon AscC at *
  rw [scL_cuts]
  split
  · rename_i h0
    rw [List.pairwise_map]
    exact h.imp fun k => by have := (scC_lt (q := q) hp).mp k; rwa [if_pos h0] at this
  · rename_i h0
    rw [List.pairwise_reverse, List.pairwise_map]
    exact h.imp fun k => by have := (scC_lt (q := q) hp).mp k; rwa [if_neg h0] at this
theorem scSp_back {p q : Rat} (hp : p ≠ 0) (s : Sp) : scSp (1 / p) (-q / p) (scSp p q s) = s := by
  have e : ∀ x : Rat, (x * p + q) * (1 / p) + -q / p = x := fun x => by grind
  unfold scSp
  by_cases h : 0 < p
  · have : 0 < 1 / p := by rw [Rat.div_def, Rat.one_mul]; exact Rat.inv_pos.mpr h
    rw [if_pos this, if_pos h]
    simp only [e]
  · have h2 : p < 0 := by grind
    have : ¬ 0 < 1 / p := by
      rw [Rat.div_def, Rat.one_mul, Rat.inv_pos]; exact h
    rw [if_neg this, if_neg h]
    simp only [e]
theorem scL_back {p q : Rat} (hp : p ≠ 0) (L : List Sp) : scL (1 / p) (-q / p) (scL p q L) = L := by
  unfold scL
  have c : (fun s => scSp (1 / p) (-q / p) (scSp p q s)) = id := funext fun s => scSp_back hp s
  by_cases h : 0 < p
  · have : 0 < 1 / p := by rw [Rat.div_def, Rat.one_mul]; exact Rat.inv_pos.mpr h
    rw [if_pos this, if_pos h, List.map_map]
    show L.map (fun s => scSp (1 / p) (-q / p) (scSp p q s)) = L
    rw [c, List.map_id]
  · have : ¬ 0 < 1 / p := by rw [Rat.div_def, Rat.one_mul, Rat.inv_pos]; exact h
    rw [if_neg this, if_neg h, List.map_reverse, List.reverse_reverse, List.map_map]
    show L.map (fun s => scSp (1 / p) (-q / p) (scSp p q s)) = L
    rw [c, List.map_id]
theorem within_sc {p q : Rat} (hp : p ≠ 0) (s : Sp) (x : Rat) : within (scSp p q s) (x * p + q) = within s x := by
  unfold within scSp
  by_cases h : 0 < p
  · simp only [h, if_true]
    have e1 : ∀ u v : Rat, u * p + q < v * p + q ↔ u < v := fun u v => aff_lt h
    have e2 : ∀ u v : Rat, u * p + q = v * p + q ↔ u = v := fun u v => by grind
    simp only [e1, e2]
  · have h2 : p < 0 := by grind
    simp only [h, if_false]
    have e1 : ∀ u v : Rat, u * p + q < v * p + q ↔ v < u := fun u v => aff_gt h2
    have e2 : ∀ u v : Rat, u * p + q = v * p + q ↔ u = v := fun u v => by grind
    simp only [e1, e2]
    cases decide (s.lo < x) <;> cases decide (x < s.hi) <;> cases decide (x = s.lo) <;> cases decide (x = s.hi) <;> cases s.lf <;> cases s.hf <;> rfl
theorem any_within_sc {p q : Rat} (hp : p ≠ 0) (L : List Sp) (x : Rat) : (scL p q L).any (fun s => within s (x * p + q)) = L.any fun s => within s x := by
  unfold scL
  split
  · rw [List.any_map]
    exact any_cong fun s _ => within_sc hp s x
  · rw [List.any_reverse, List.any_map]
    exact any_cong fun s _ => within_sc hp s x
/-- what a span list has -/
theorem has_any {L : List Sp} (h : Canon L) (x : Rat) : indC (cutsC L) (x, false) = L.any fun s => within s x := by
  rw [canon_ind h]
  exact any_cong fun s hs => (within_cov (h.ok s hs) x).symm
/-! ### lengths -/
def lenF (t : Rat) (L : List Sp) : Rat := L.foldl (fun t s => t + (s.hi - s.lo)) t
theorem lenF_add (t : Rat) : ∀ L : List Sp, lenF t L = t + lenF 0 L
  | [] => by simp only [lenF, List.foldl_nil]; grind
  | s :: L => by
    have h1 := lenF_add (t + (s.hi - s.lo)) L
    have h2 := lenF_add (0 + (s.hi - s.lo)) L
    unfold lenF at *
    rw [List.foldl_cons, List.foldl_cons, h1, h2]
    grind
theorem lenF_app (t : Rat) (L M : List Sp) : lenF t (L ++ M) = lenF (lenF t L) M := by unfold lenF; rw [List.foldl_append]
def absR (p : Rat) : Rat := if p < 0 then -p else p
theorem lenF_sc {p q : Rat} (hp : p ≠ 0) (L : List Sp) : lenF 0 (scL p q L) = lenF 0 L * absR p := by
  have one : ∀ s : Sp, (scSp p q s).hi - (scSp p q s).lo = (s.hi - s.lo) * absR p := by
    intro s
    unfold scSp absR
    by_cases h : 0 < p
    · rw [if_pos h, if_neg (by grind)]; grind
    · rw [if_neg h, if_pos (by grind)]; grind
  unfold scL
  split
  · induction L with
    | nil => simp [lenF]
    | cons s L ih =>
      have e1 : lenF 0 ((s :: L).map (scSp p q)) = lenF (0 + ((scSp p q s).hi - (scSp p q s).lo)) (L.map (scSp p q)) := rfl
      have e2 : lenF 0 (s :: L) = lenF (0 + (s.hi - s.lo)) L := rfl
      rw [e1, e2, lenF_add, lenF_add (0 + (s.hi - s.lo)), ih, one]
      grind
  · induction L with
    | nil => simp [lenF]
    | cons s L ih =>
      have e2 : lenF 0 (s :: L) = lenF (0 + (s.hi - s.lo)) L := rfl
      rw [List.map_cons, List.reverse_cons, lenF_app, ih, e2, lenF_add (0 + (s.hi - s.lo))]
      have e3 : ∀ t, lenF t [scSp p q s] = t + ((scSp p q s).hi - (scSp p q s).lo) := fun t => rfl
      rw [e3, one]
      grind
/-! ### some number with a small bottom -/
theorem small_in {p : Sp} (h : p.ok) {b : Int} (hb : 0 < b) (hw : p.lo = p.hi ∨ 1 < (p.hi - p.lo) * b) (hd : (p.lo.den : Int) ≤ b) : ∃ y, inJ p.lo p.lf (some p.hi) p.hf y ∧ (y.den : Int) ≤ b := by
  have hbR : (0 : Rat) < (b : Rat) := Rat.intCast_pos.mpr hb
  by_cases e : p.lo = p.hi
  · rcases ok_iff.mp h with q | ⟨q, r1, r2⟩
    · rw [e] at q; exact absurd q Rat.lt_irrefl
    · exact ⟨p.lo, ⟨.inr ⟨rfl, r1⟩, .inr ⟨e, r2⟩⟩, hd⟩
  · have hw := hw.resolve_left e
    obtain ⟨d1, d2⟩ := di_in (a := (p.lo * b).floor + 1) hb
    refine ⟨_, ⟨.inl ?_, .inl ?_⟩, d1⟩
    · rw [← Rat.mul_lt_mul_right hbR, d2]
      exact Rat.lt_floor_add_one _
    · rw [← Rat.mul_lt_mul_right hbR, d2, Rat.intCast_add, Rat.intCast_one]
      have := Rat.floor_le (p.lo * b)
      grind
/-- two numbers are not nearer than their bottoms allow -/
theorem apart {x y : Rat} (h : x < y) : 1 ≤ (y - x) * ((x.den : Rat) * y.den) := by
  have h1 := (Rat.lt_iff x y).mp h
  have nx := numR x
  have ny := numR y
  have : ((x.num * y.den + 1 : Int) : Rat) ≤ ((y.num * x.den : Int) : Rat) := Rat.intCast_le_intCast.mpr (by omega)
  rw [Rat.intCast_add, Rat.intCast_mul, Rat.intCast_mul, nx, ny, Rat.intCast_one] at this
  have e1 : ∀ z : Rat, (((z.den : Nat) : Int) : Rat) = ((z.den : Nat) : Rat) := fun _ => rfl
  rw [e1, e1] at this
  grind
/-- what is as near to a number has a greater bottom -/
theorem near_den {m y : Rat} (hne : y ≠ m) (h1 : m - 1 / (2 * m.den * m.den) ≤ y) (h2 : y ≤ m + 1 / (2 * m.den * m.den)) : m.den < y.den := by
  have hd : (0 : Rat) < (m.den : Rat) := denR_pos m
  have hy : (0 : Rat) < (y.den : Rat) := denR_pos y
  have key : (1 : Rat) ≤ (1 / (2 * (m.den : Rat) * m.den)) * ((m.den : Rat) * y.den) := by
    have pos := Rat.mul_pos hd hy
    by_cases hlt : y < m
    · have a := apart hlt
      have b : (m - y) * ((y.den : Rat) * m.den) ≤ (1 / (2 * (m.den : Rat) * m.den)) * ((y.den : Rat) * m.den) := Rat.mul_le_mul_of_nonneg_right (by grind) (by grind)
      grind
    · have hlt : m < y := by grind
      have a := apart hlt
      have b : (y - m) * ((m.den : Rat) * y.den) ≤ (1 / (2 * (m.den : Rat) * m.den)) * ((m.den : Rat) * y.den) := Rat.mul_le_mul_of_nonneg_right (by grind) (by grind)
      grind
  have e : (1 / (2 * (m.den : Rat) * m.den)) * ((m.den : Rat) * y.den) * (2 * m.den) = y.den := by
    have : (m.den : Rat) ≠ 0 := by grind
    grind
  have : (1 : Rat) * (2 * m.den) ≤ (1 / (2 * (m.den : Rat) * m.den)) * ((m.den : Rat) * y.den) * (2 * m.den) := Rat.mul_le_mul_of_nonneg_right key (by grind)
  rw [e] at this
  have : (m.den : Rat) < y.den := by grind
  exact Rat.natCast_lt_natCast.mp this
end Rf

set_option Elab.async false
set_option linter.all false
set_option maxRecDepth 100000
/-! U0: draws, the same, comprehensions that draw; what the laws share -/
namespace Rf
open PySem L2
def WellOk (n b : Nat) (μ : M) : Prop := ∃ (μ0 : M) (a m t : Int), n < μ0.length ∧ μ = μ0.set n (.lst [.int a, .int m, .int t]) ∧ 0 ≤ a ∧ 0 ≤ m ∧ m < 2 ^ 90 ∧ 0 ≤ t ∧ t ≤ b
theorem WellOk.mono {n b c : Nat} {μ : M} (h : WellOk n b μ) (l : b ≤ c) : WellOk n c μ := by
  obtain ⟨μ0, a, m, t, h1, h2, h3, h4, h5, h6, h7⟩ := h
  exact ⟨μ0, a, m, t, h1, h2, h3, h4, h5, h6, by omega⟩
/-- the well alone is another one -/
def Wl (n b : Nat) (μ μ' : M) : Prop := (∃ c, μ' = μ.set n c) ∧ WellOk n b μ'
theorem WellOk.lt {n b : Nat} {μ : M} (h : WellOk n b μ) : n < μ.length := by
  obtain ⟨μ0, a, m, t, h1, rfl, _⟩ := h
  simpa using h1
theorem Wl.ok {n b : Nat} {μ μ' : M} (h : Wl n b μ μ') : WellOk n b μ' := h.2
theorem Wl.refl {n b : Nat} {μ : M} (h : WellOk n b μ) : Wl n b μ μ := by
  refine ⟨?_, h⟩
  obtain ⟨μ0, a, m, t, h1, rfl, _⟩ := h
  exact ⟨.lst [.int a, .int m, .int t], by rw [List.set_set]⟩
theorem Wl.trans {n b c : Nat} {μ μ1 μ2 : M} (h : Wl n b μ μ1) (g : Wl n c μ1 μ2) : Wl n c μ μ2 := by
  obtain ⟨⟨x, rfl⟩, _⟩ := h
  obtain ⟨⟨y, rfl⟩, g2⟩ := g
  exact ⟨⟨y, by rw [List.set_set]⟩, g2⟩
theorem Wl.mono {n b c : Nat} {μ μ' : M} (h : Wl n b μ μ') (l : b ≤ c) : Wl n c μ μ' := ⟨h.1, h.2.mono l⟩
theorem WellOk.app {n b : Nat} {μ : M} (h : WellOk n b μ) (ν : M) : WellOk n b (μ ++ ν) := by
  obtain ⟨μ0, a, m, t, h1, rfl, h2⟩ := h
  exact ⟨μ0 ++ ν, a, m, t, by simp; omega, by rw [List.set_append_left _ _ h1], h2⟩
theorem WellOk.unapp {n b : Nat} {μ ν : M} (hn : n < μ.length) (h : WellOk n b (μ ++ ν)) : WellOk n b μ := by
  obtain ⟨μ0, a, m, t, h1, h2, h3⟩ := h
  refine ⟨μ, a, m, t, hn, ?_, h3⟩
  have e : (μ ++ ν)[n]? = (μ0.set n (.lst [.int a, .int m, .int t]))[n]? := by rw [h2]
  rw [List.getElem?_append_left hn, List.getElem?_set_self h1] at e
  apply List.ext_getElem?
  intro i
  by_cases hi : n = i
  · subst hi
    rw [e, List.getElem?_set_self hn]
  · rw [List.getElem?_set_ne hi]
theorem Wl.app {n b : Nat} {μ ν μ' : M} (hn : n < μ.length) (h : Wl n b (μ ++ ν) μ') : ∃ μ1, μ' = μ1 ++ ν ∧ Wl n b μ μ1 ∧ μ1.length = μ.length := by
  obtain ⟨⟨c, rfl⟩, h2⟩ := h
  rw [List.set_append_left _ _ hn] at h2 ⊢
  exact ⟨μ.set n c, rfl, ⟨⟨c, rfl⟩, h2.unapp (by simpa using hn)⟩, by simp⟩
def BIG : Nat := 1000000000
def Sm : Nat → D → Prop
  | 0, _ => False
  | _ + 1, .non => True
  | _ + 1, .bl _ => True
  | _ + 1, .int _ => True
  | _ + 1, .str _ => True
  | n + 1, .tup xs => xs.length ≤ 1000 ∧ ∀ x ∈ xs, Sm n x
  | n + 1, .lst xs => xs.length ≤ 1000 ∧ ∀ x ∈ xs, Sm n x
  | _ + 1, _ => False
section
variable {k : Nat} {Γ : Tab} {ρ : Rho} {μ : M} {Q : WQ}
theorem well_new {a m : Int} (ha : 0 ≤ a) (h0 : 0 ≤ m) (h1 : m < 2 ^ 90) : WellOk μ.length 0 (μ ++ [.lst [.int a, .int m, .int 0]]) :=
  ⟨μ ++ [.lst []], a, m, 0, by simp, by simp, ha, h0, h1, by decide, by decide⟩
/-- a comprehension that draws -/
theorem lc_gen {tg : CT} {elt : WE} {own : List Nat} {s : Src} {n b c : Nat} (R : D → Prop) (hw : WellOk n b μ) (hs : s.at_ = none) (hl : s.items.length ≤ 1000)
    (h : ∀ (i : Nat) x μ', s.items[i]? = some x → Wl n (b + c * i) μ μ' → ∃ ρ2, bindT μ' tg x (wipeD ρ own) = some ρ2 ∧ ∀ P : WQ, (∀ y μ2, Wl n (b + c * (i + 1)) μ μ2 → R y → P y μ2) → elt ρ2 μ' P)
    (hq : ∀ ys μ', Wl n (b + c * s.items.length) μ μ' → ys.length = s.items.length → (∀ y ∈ ys, R y) → newL ys μ' Q) : wLc tg (wF Γ .nil) elt own s ρ μ Q := by
  refine ⟨fun i acc μ' => Wl n (b + c * i) μ μ' ∧ acc.length = i ∧ ∀ y ∈ acc, R y, ⟨by simpa using Wl.refl hw, rfl, by simp⟩, fun _ _ _ _ _ m ys e => (by rw [hs] at e; cases e), ?_, ?_⟩
  · rintro i x acc μ' hx ⟨hw', hl', hr⟩
    obtain ⟨ρ2, hb, hh⟩ := h i x μ' hx hw'
    have hi : i < s.items.length := (List.getElem?_eq_some_iff.mp hx).1
    refine ⟨ρ2, hb, ?_⟩
    simp only [wF, if_true]
    refine hh _ fun y μ2 w2 ry => ⟨line_lt (by omega), w2, by simp [hl'], ?_⟩
    intro z hz
    rcases List.mem_append.mp hz with hz | hz
    · exact hr z hz
    · simp at hz
      subst hz
      exact ry
  · rintro acc μ' ⟨hw', hl', hr⟩
    exact hq acc μ' hw' hl' hr
mutual
def pur : D → Bool
  | .tup xs => purAll xs
  | .lst _ => false
  | .scr _ => false
  | .cel _ => false
  | _ => true
def purAll : List D → Bool
  | [] => true
  | x :: xs => pur x && purAll xs
end
mutual
theorem frz_pur {m : Nat} {ν : M} : ∀ d : D, pur d = true → d.frz m ν = some d
  | .tup xs, h => by
    have h : purAll xs = true := h
    simp only [D.frz, frz_purs xs h, Option.map_some]
  | .lst _, h => by cases h
  | .scr _, h => by cases h
  | .cel _, h => by cases h
  | .non, _ => rfl
  | .bl _, _ => rfl
  | .int _, _ => rfl
  | .str _, _ => rfl
  | .ty _, _ => rfl
  | .fn _ _, _ => rfl
theorem frz_purs {m : Nat} {ν : M} : ∀ xs : List D, purAll xs = true → frzAll m ν xs = some xs
  | [], _ => rfl
  | x :: xs, h => by
    have h : (pur x && purAll xs) = true := h
    rw [Bool.and_eq_true] at h
    simp only [frzAll, frz_pur x h.1, frz_purs xs h.2]
end
theorem purAll_of : ∀ {xs : List D}, (∀ x ∈ xs, pur x = true) → purAll xs = true
  | [], _ => rfl
  | x :: xs, h => by
    show (pur x && purAll xs) = true
    rw [h x (by simp), purAll_of fun y hy => h y (List.mem_cons_of_mem _ hy)]; rfl
theorem pur_ints {zs : List Int} : purAll (zs.map D.int) = true := purAll_of fun x hx => by
  obtain ⟨z, _, rfl⟩ := List.mem_map.mp hx
  rfl
/-- a value leaves a def that drew and has lists of its own -/
theorem rt_gen {n b : Nat} {μ1 ν : M} {d : D} (hw : WellOk n 0 μ ∨ ∃ c, WellOk n c μ) (w : Wl n b μ μ1) (hp : pur d = true) (q : Q d μ1) : rtD μ Q d (μ1 ++ ν) := by
  obtain ⟨⟨c, rfl⟩, ok⟩ := w
  refine .inr ⟨d, frz_pur d hp, fun i c' hi e => ?_, ?_⟩
  · rw [List.getElem?_append_left (by simpa using hi)] at e
    by_cases hn : n = i
    · subst hn
      obtain ⟨μ0, a, m, t, h1, h2, _⟩ := ok
      rw [h2, List.getElem?_set_self h1] at e
      cases e
      exact .inr rfl
    · rw [List.getElem?_set_ne hn] at e
      exact .inl e
  · rw [List.take_left']
    · exact q
    · simp
theorem ife_any {c a b : CE} (h1 : ∀ P : Bool → M → Prop, (∀ v, P v μ) → wT Γ c ρ μ P) (ha : wE Γ a ρ μ Q) (hb : wE Γ b ρ μ Q) : wE Γ (.ife c a b) ρ μ Q := h1 _ fun v => by cases v <;> simp [ha, hb]
theorem unp2_post {i j : Nat} {e : CE} {E : DEnds} (R : D → D → Prop) (h1 : ∀ P : WQ, (∀ a c, R a c → P (.tup [a, c]) μ) → wE Γ e ρ μ P) (h2 : ∀ a c, R a c → E.nx ((ρ.set i (some a)).set j (some c)) μ) : wS Γ (.unp [i, j] e) E ρ μ :=
  h1 _ fun a c h => h2 a c h
theorem f_at {c e : CO} : (μ ++ [c] ++ [e])[μ.length]? = some c := by simp
theorem f_app {xs : List D} {e : CO} {d : D} : opMth .append (.cel μ.length) [d] (μ ++ [.lst xs] ++ [e]) Q = (xs.length < sizeLine ∧ Q .non (μ ++ [.lst (xs ++ [d])] ++ [e])) := by
  simp only [opMth, f_at] <;> simp
theorem f_mok {xs : List D} {e : CO} : mOkM .append (μ ++ [.lst xs] ++ [e]) (.cel μ.length) = true := by simp [mOkM, mOk]
theorem f_asR {xs : List D} {e : CO} : asR (μ ++ [.lst xs] ++ [e]) (.cel μ.length) = some xs := by simp [asR, asL]
theorem e_app1 {xs : List D} {e : CO} {d : D} : opMth .append (.cel (μ.length + 1)) [d] (μ ++ [e] ++ [.lst xs]) Q = (xs.length < sizeLine ∧ Q .non (μ ++ [e] ++ [.lst (xs ++ [d])])) := by
  have h := e_app (μ := μ ++ [e]) (xs := xs) (d := d) (Q := Q)
  rw [List.length_append] at h
  exact h
theorem e_mok1 {xs : List D} {e : CO} : mOkM .append (μ ++ [e] ++ [.lst xs]) (.cel (μ.length + 1)) = true := by
  have h := e_mok (μ := μ ++ [e]) (xs := xs)
  rw [List.length_append] at h
  exact h
theorem e_asR1 {xs : List D} {e : CO} : asR (μ ++ [e] ++ [.lst xs]) (.cel (μ.length + 1)) = some xs := by
  have h := e_asR (μ := μ ++ [e]) (xs := xs)
  rw [List.length_append] at h
  exact h
theorem e_idx1 {xs : List D} {e : CO} {i : Int} : opIdx (.cel (μ.length + 1)) (.int i) (μ ++ [e] ++ [.lst xs]) Q = (match atI xs i with | some d => Q d (μ ++ [e] ++ [.lst xs]) | none => False) := by
  have h := e_idx' (μ := μ ++ [e]) (xs := xs) (i := i) (Q := Q)
  rw [List.length_append] at h
  exact h
theorem f_idx {xs : List D} {e : CO} {i : Int} : opIdx (.cel μ.length) (.int i) (μ ++ [.lst xs] ++ [e]) Q = (match atI xs i with | some d => Q d (μ ++ [.lst xs] ++ [e]) | none => False) := by
  simp only [opIdx, f_at] <;> (cases atI xs i <;> rfl)
theorem f_len {xs : List D} {e : CO} : lenD (μ ++ [.lst xs] ++ [e]) (.cel μ.length) = some xs.length := by simp [lenD]
theorem at_last {xs : List D} {x : D} : atI (xs ++ [x]) (-1) = some x := by
  unfold atI ixN
  rw [if_neg (by decide), if_pos (by simp; omega)]
  have : (-1 + (((xs ++ [x]).length : Nat) : Int)).toNat = xs.length := by simp; omega
  simp only [Option.bind_some, this]
  simp

end
end Rf

set_option Elab.async false
set_option linter.all false
set_option maxRecDepth 100000
/-! S0: helpers of the walks through spans.py -/
namespace Rf
open PySem L2
def isIntB : D → Bool
  | .int _ => true
  | _ => false
def okT : D → Bool
  | .non | .bl _ | .int _ | .str _ | .tup _ | .lst _ => true
  | _ => false
def blwB (d : D) (m : Int) : Bool := match d with
  | .int i => decide (0 ≤ i) && decide (i < m)
  | _ => false
def isFrB : D → Bool
  | .tup [.int a, .int b] => decide (1 ≤ b) && decide (Nat.gcd a.natAbs b.natAbs = 1)
  | _ => false
def okF : D → Bool
  | .tup [a, b] => okT a && okT b
  | d => okT d
theorem fr_enc (x : Rat) : isFrB (enc x) = true := by
  have h1 := x.den_pos
  have h2 := x.reduced
  unfold enc isFrB
  simp only [Bool.and_eq_true, decide_eq_true_eq]
  exact ⟨by omega, by simpa using h2⟩
theorem okF_enc (x : Rat) : okF (enc x) = true := rfl
mutual
theorem pur_blw {n : Nat} : ∀ d : D, pur d = true → d.blw n = true
  | .tup xs, h => pur_blws xs h
  | .lst _, h => by cases h
  | .scr _, h => by cases h
  | .cel _, h => by cases h
  | .non, _ => rfl
  | .bl _, _ => rfl
  | .int _, _ => rfl
  | .str _, _ => rfl
  | .ty _, _ => rfl
  | .fn _ _, _ => rfl
theorem pur_blws {n : Nat} : ∀ xs : List D, purAll xs = true → belowAll n xs = true
  | [], _ => rfl
  | x :: xs, h => by
    have h : (pur x && purAll xs) = true := h
    rw [Bool.and_eq_true] at h
    simp only [belowAll, pur_blw x h.1, pur_blws xs h.2, Bool.and_self]
end
theorem pur_spans (L : List Sp) : purAll (L.map encS) = true := purAll_of fun x hx => by
  obtain ⟨p, _, rfl⟩ := List.mem_map.mp hx
  rfl
theorem pur_encs (L : List Rat) : purAll (L.map enc) = true := purAll_of fun x hx => by
  obtain ⟨p, _, rfl⟩ := List.mem_map.mp hx
  rfl
section
variable {k : Nat} {Γ : Tab} {ρ : Rho} {μ ν : M} {Q : WQ}
/-- a list of its own leaves a def -/
theorem rt_lst {j : Nat} {xs : List D} (h : (μ ++ ν)[j]? = some (.lst xs)) (hj : μ.length ≤ j) (hb : purAll xs = true) (q : Q (.lst xs) μ) : rtD μ Q (.cel j) (μ ++ ν) := by
  refine .inr ⟨.lst xs, ?_, fun i c hi e => .inl ?_, ?_⟩
  · show (if j < μ.length then some (D.cel j) else match (μ ++ ν)[j]? with | some (.lst xs) => if belowAll μ.length xs then some (.lst xs) else none | _ => none) = _
    rw [if_neg (by omega), h]
    simp only [pur_blws xs hb, if_true]
  · rwa [List.getElem?_append_left hi] at e
  · rw [List.take_left']
    · exact q
    · rfl
theorem rt_lst1 {xs : List D} (hb : purAll xs = true) (q : Q (.lst xs) μ) : rtD μ Q (.cel μ.length) (μ ++ [.lst xs]) := rt_lst (by simp) (Nat.le_refl _) hb q
theorem rt_pure {d : D} (hb : pur d = true) (q : Q d μ) : rtD μ Q d (μ ++ ν) := rt_cut (frz_pur d hb) q
theorem dput_get {acc : List (Key × D)} {a b : Key} {v : D} : (dget (dput acc a v) b).isSome = (decide (a = b) || (dget acc b).isSome) := by
  unfold dput dget
  split
  · rename_i h
    induction acc with
    | nil => simp at h
    | cons kv acc ih =>
      rw [List.map_cons, List.find?_cons, List.find?_cons]
      by_cases e : kv.1 = a
      · rw [if_pos e]
        by_cases e2 : a = b
        · subst e2; simp [e]
        · have e3 : ¬ kv.1 = b := by rw [e]; exact e2
          simp only [e2, e3, decide_false, Bool.false_or]
          by_cases hr : (acc.any fun kv => decide (kv.1 = a)) = true
          · rw [ih hr]; simp [e2]
          · have : acc.map (fun kv => if kv.1 = a then (kv.1, v) else kv) = acc := by
              refine (List.map_congr_left fun x hx => ?_).trans (List.map_id _)
              have := hr
              simp only [List.any_eq_true, not_exists, not_and, decide_eq_true_eq] at this
              rw [if_neg (this x hx)]; rfl
            rw [this]
      · rw [if_neg e]
        by_cases e3 : kv.1 = b
        · simp [e3]
        · simp only [e3, decide_false]
          refine ih ?_
          simpa [e] using h
  · rename_i h
    rw [List.find?_append]
    cases h1 : List.find? (fun kv => decide (kv.1 = b)) acc with
    | some x => simp
    | none =>
      by_cases e : a = b
      · simp [e]
      · simp [e]
theorem dput_len {acc : List (Key × D)} {a : Key} {v : D} : (dput acc a v).length ≤ acc.length + 1 := by
  unfold dput
  split
  · simp
  · simp
/-- {k: True for k in ints} -/
theorem dc_ids {j : Nat} {ns : List Int} (hj : j < ρ.length) (hl : ns.length ≤ 4000) (hq : ∀ acc : List (Key × D), (∀ k : Int, (dget acc (.inl k)).isSome = decide (k ∈ ns)) → Q (.cel μ.length) (μ ++ [.dK acc])) :
    wDc (.nm j) (wF Γ .nil) (wE Γ (.var j)) (wE Γ (.cst (.bl true))) [j] ⟨none, ns.map .int⟩ ρ μ Q := by
  refine ⟨fun i acc μ' => μ' = μ ∧ acc.length ≤ i ∧ ∀ k : Int, (dget acc (.inl k)).isSome = decide (k ∈ ns.take i), ⟨rfl, Nat.le_refl _, fun k => by simp [dget]⟩, fun _ _ _ _ _ n xs e => (by cases e), ?_, ?_⟩
  · rintro i x acc μ' hx ⟨rfl, hlen, hk⟩
    have hx' : (ns.map D.int)[i]? = some x := hx
    rw [List.getElem?_map] at hx'
    cases hn : ns[i]? with
    | none => rw [hn] at hx'; cases hx'
    | some z =>
      rw [hn] at hx'
      cases hx'
      have hi := (List.getElem?_eq_some_iff.mp hn).1
      refine ⟨_, rfl, ?_⟩
      simp only [wF, if_true, wE, wipeD]
      have g : getV (((ρ.set j none).set j (some (D.int z)))) j = some (.int z) := by
        unfold getV
        rw [List.getElem?_set_self (by simpa using hj)]
      rw [g]
      simp only [keyD]
      refine ⟨line_lt (by omega), trivial, by have := dput_len (acc := acc) (a := .inl z) (v := D.bl true); omega, fun k => ?_⟩
      rw [dput_get, hk, List.take_add_one, hn]
      by_cases e : z = k
      · subst e; simp
      · have : ¬ (Sum.inl z : Key) = Sum.inl k := fun h => e (Sum.inl.inj h)
        have e2 : ¬ k = z := fun h => e h.symm
        simp [this, e2]
  · rintro acc μ' ⟨rfl, hlen, hk⟩
    refine hq acc fun k => ?_
    rw [hk]
    have : (⟨none, ns.map D.int⟩ : Src).items.length = ns.length := by simp
    rw [this, List.take_length]
/-- sorted({k for k in ints}) -/
theorem ssc_ids {j : Nat} {ns : List Int} (hj : j < ρ.length) (hl : ns.length ≤ 4000) (hq : srtS ns μ Q) :
    wSc (.nm j) (wF Γ .nil) (wE Γ (.var j)) [j] ⟨none, ns.map .int⟩ ρ μ Q := by
  refine ⟨fun i acc μ' => μ' = μ ∧ acc = ns.take i, ⟨rfl, by simp⟩, fun _ _ _ _ _ n xs e => (by cases e), ?_, ?_⟩
  · rintro i x acc μ' hx ⟨rfl, rfl⟩
    have hx' : (ns.map D.int)[i]? = some x := hx
    rw [List.getElem?_map] at hx'
    cases hn : ns[i]? with
    | none => rw [hn] at hx'; cases hx'
    | some z =>
      rw [hn] at hx'
      cases hx'
      have hi := (List.getElem?_eq_some_iff.mp hn).1
      refine ⟨_, rfl, ?_⟩
      simp only [wF, if_true, wE, wipeD]
      have g : getV (((ρ.set j none).set j (some (D.int z)))) j = some (.int z) := by
        unfold getV
        rw [List.getElem?_set_self (by simpa using hj)]
      rw [g]
      refine ⟨by simp; omega, trivial, ?_⟩
      rw [List.take_add_one, hn]; rfl
  · rintro acc μ' ⟨rfl, rfl⟩
    have : (⟨none, ns.map D.int⟩ : Src).items.length = ns.length := by simp
    rw [this, List.take_length]
    exact hq
/-! slices with a step -/
theorem pick_map {f : Int → D} {ns : List Int} {lo st : Option Int} : pickD (ns.map f) lo st = ((sliceRange (sliceBounds lo none st ns.length).1 (sliceBounds lo none st ns.length).2.1 (sliceBounds lo none st ns.length).2.2).filterMap (ns[·]?)).map f := by
  unfold pickD
  rw [List.length_map, List.map_filterMap]
  congr 1
  funext i
  simp
def evens : List Int → List Int
  | [] => []
  | [a] => [a]
  | a :: _ :: r => a :: evens r
def odds : List Int → List Int
  | [] => []
  | [_] => []
  | _ :: b :: r => b :: odds r
theorem evens_get : ∀ (ns : List Int) (i : Nat), (evens ns)[i]? = ns[2 * i]?
  | [], i => by simp [evens]
  | [a], 0 => rfl
  | [a], i + 1 => by
    rw [show 2 * (i + 1) = 2 * i + 1 + 1 by omega]
    simp [evens]
  | a :: b :: r, 0 => rfl
  | a :: b :: r, i + 1 => by
    rw [show 2 * (i + 1) = 2 * i + 1 + 1 by omega]
    simp only [evens, List.getElem?_cons_succ]
    exact evens_get r i
theorem odds_get : ∀ (ns : List Int) (i : Nat), (odds ns)[i]? = ns[2 * i + 1]?
  | [], i => by simp [odds]
  | [a], i => by simp [odds]
  | a :: b :: r, 0 => rfl
  | a :: b :: r, i + 1 => by
    rw [show 2 * (i + 1) + 1 = (2 * i + 1) + 1 + 1 by omega]
    simp only [odds, List.getElem?_cons_succ]
    exact odds_get r i
theorem filterMap_get {α : Type} {n : Nat} {xs : List α} {g : Nat → Nat} (h : ∀ i, i < n → g i < xs.length) : (((List.range n).map g).filterMap (xs[·]?)).length = n ∧ ∀ i, i < n → (((List.range n).map g).filterMap (xs[·]?))[i]? = xs[g i]? := by
  induction n with
  | zero => exact ⟨rfl, fun i hi => by omega⟩
  | succ n ih =>
    obtain ⟨h1, h2⟩ := ih fun i hi => h i (by omega)
    have e : ((List.range (n + 1)).map g).filterMap (xs[·]?) = ((List.range n).map g).filterMap (xs[·]?) ++ [xs[g n]'(h n (by omega))] := by
      rw [List.range_succ, List.map_append, List.filterMap_append]
      simp [List.getElem?_eq_getElem (h n (by omega))]
    rw [e]
    refine ⟨by rw [List.length_append, h1]; rfl, fun i hi => ?_⟩
    by_cases q : i < n
    · rw [List.getElem?_append_left (by omega)]
      exact h2 i q
    · have : i = n := by omega
      subst this
      rw [List.getElem?_append_right (by omega), h1]
      simp [List.getElem?_eq_getElem (h i (by omega))]
theorem pick_step2 {α : Type} (xs : List α) (a : Nat) (ha : a = 0 ∨ a = 1) : ∀ i, ((sliceRange (sliceBounds (if a = 0 then none else some 1) none (some 2) xs.length).1 (sliceBounds (if a = 0 then none else some 1) none (some 2) xs.length).2.1 (sliceBounds (if a = 0 then none else some 1) none (some 2) xs.length).2.2).filterMap (xs[·]?))[i]? = xs[2 * i + a]? := by
  intro i
  have hb : sliceBounds (if a = 0 then none else some 1) none (some 2) xs.length = (((min a xs.length : Nat) : Int), ((xs.length : Nat) : Int), 2) := by
    rcases ha with rfl | rfl
    · simp [sliceBounds]
    · simp [sliceBounds]
      omega
  rw [hb]
  simp only
  have hr : sliceRange ((min a xs.length : Nat) : Int) ((xs.length : Nat) : Int) 2 = (List.range ((xs.length + 1 - a) / 2)).map fun k => 2 * k + a := by
    unfold sliceRange
    simp only [show (2 : Int) > 0 by decide, if_true]
    have hc : (if ((min a xs.length : Nat) : Int) < ((xs.length : Nat) : Int) then (((xs.length : Nat) : Int) - ((min a xs.length : Nat) : Int) + 2 - 1) / 2 else 0).toNat = (xs.length + 1 - a) / 2 := by
      split <;> omega
    rw [hc]
    refine List.map_congr_left fun k hk => ?_
    have := List.mem_range.mp hk
    omega
  rw [hr]
  obtain ⟨h1, h2⟩ := filterMap_get (n := (xs.length + 1 - a) / 2) (xs := xs) (g := fun k => 2 * k + a) fun i hi => by omega
  by_cases q : i < (xs.length + 1 - a) / 2
  · exact h2 i q
  · rw [List.getElem?_eq_none (by rw [h1]; omega), List.getElem?_eq_none (by omega)]
theorem pick_ev {f : Int → D} {ns : List Int} : pickD (ns.map f) none (some 2) = (evens ns).map f := by
  rw [pick_map]
  congr 1
  apply List.ext_getElem?
  intro i
  rw [evens_get]
  exact pick_step2 ns 0 (.inl rfl) i
theorem pick_od {f : Int → D} {ns : List Int} : pickD (ns.map f) (some 1) (some 2) = (odds ns).map f := by
  rw [pick_map]
  congr 1
  apply List.ext_getElem?
  intro i
  rw [odds_get]
  exact pick_step2 ns 1 (.inr rfl) i
theorem pick_rev {xs : List D} : pickD xs none (some (-1)) = xs.reverse := by
  unfold pickD
  have hb : sliceBounds none none (some (-1)) xs.length = ((xs.length : Int) - 1, -1, -1) := PySem.W.krv_bounds _
  rw [hb, PySem.W.krv_sliceRange]
  apply List.ext_getElem?
  intro i
  obtain ⟨h1, h2⟩ := filterMap_get (n := xs.length) (xs := xs) (g := fun k => xs.length - 1 - k) fun i hi => by omega
  by_cases q : i < xs.length
  · rw [List.getElem?_reverse (by omega)]
    exact h2 i q
  · rw [List.getElem?_eq_none (by rw [h1]; omega), List.getElem?_eq_none (by simp; omega)]
end
end Rf

set_option Elab.async false
set_option linter.all false
set_option maxRecDepth 100000
namespace K30
open PySem L2 Rf
def topS (i : Nat) : Stmt := PySem.Challenge.pw_wholelines_k30_whole_spans_scaled_and_si.main.body.getD i (.Pass ⟨0, 0, 0, 0⟩)
def ir_is_integer : CSs :=
  (.cons (.ret (.and (.blt .isi (.cons (.var 0) (.cons (.typ "int") .nil))) (.not (.blt .isi (.cons (.var 0) (.cons (.typ "bool") .nil))))))
  .nil)
def d_is_integer : DefI := ⟨"is_integer", topS 7, ["value"], ["value"], ir_is_integer⟩
def ir_is_below : CSs :=
  (.cons (.ret (.and (.cal 0 (.cons (.var 0) .nil)) (.chn .LtE .Lt (.cst (.int 0)) (.var 0) (.var 1))))
  .nil)
def d_is_below : DefI := ⟨"is_below", topS 8, ["value", "many"], ["value", "many"], ir_is_below⟩
def ir_made : CSs :=
  (.cons (.set 2 (.blt .gcd (.cons (.var 0) (.cons (.var 1) .nil))))
  (.cons (.ret (.tup (.cons (.bin .FloorDiv (.var 0) (.var 2)) (.cons (.bin .FloorDiv (.var 1) (.var 2)) .nil))))
  .nil))
def d_made : DefI := ⟨"made", topS 10, ["top", "bottom"], ["top", "bottom", "common"], ir_made⟩
def ir_plus : CSs :=
  (.cons (.ret (.cal 2 (.cons (.bin .Add (.bin .Mult (.idx (.var 0) (.cst (.int 0))) (.idx (.var 1) (.cst (.int 1)))) (.bin .Mult (.idx (.var 1) (.cst (.int 0))) (.idx (.var 0) (.cst (.int 1))))) (.cons (.bin .Mult (.idx (.var 0) (.cst (.int 1))) (.idx (.var 1) (.cst (.int 1)))) .nil))))
  .nil)
def d_plus : DefI := ⟨"plus", topS 11, ["x", "y"], ["x", "y"], ir_plus⟩
def ir_minus : CSs :=
  (.cons (.ret (.cal 2 (.cons (.bin .Sub (.bin .Mult (.idx (.var 0) (.cst (.int 0))) (.idx (.var 1) (.cst (.int 1)))) (.bin .Mult (.idx (.var 1) (.cst (.int 0))) (.idx (.var 0) (.cst (.int 1))))) (.cons (.bin .Mult (.idx (.var 0) (.cst (.int 1))) (.idx (.var 1) (.cst (.int 1)))) .nil))))
  .nil)
def d_minus : DefI := ⟨"minus", topS 12, ["x", "y"], ["x", "y"], ir_minus⟩
def ir_whole_of : CSs :=
  (.cons (.ret (.bin .FloorDiv (.idx (.var 0) (.cst (.int 0))) (.idx (.var 0) (.cst (.int 1)))))
  .nil)
def d_whole_of : DefI := ⟨"whole_of", topS 13, ["x"], ["x"], ir_whole_of⟩
def ir_is_fraction : CSs :=
  (.cons (.iff (.or (.not (.blt .isi (.cons (.var 0) (.cons (.typ "tuple") .nil)))) (.cmp .NotEq (.blt .len (.cons (.var 0) .nil)) (.cst (.int 2))))
    (.cons (.ret (.cst (.bl false)))
    .nil)
    .nil)
  (.cons (.unp [1, 2] (.var 0))
  (.cons (.ret (.and (.cal 0 (.cons (.var 1) .nil)) (.and (.cal 0 (.cons (.var 2) .nil)) (.and (.cmp .GtE (.var 2) (.cst (.int 1))) (.cmp .Eq (.blt .gcd (.cons (.var 1) (.cons (.var 2) .nil))) (.cst (.int 1)))))))
  .nil)))
def d_is_fraction : DefI := ⟨"is_fraction", topS 14, ["value"], ["value", "top", "bottom"], ir_is_fraction⟩
def ir_check_fraction : CSs :=
  (.cons (.iff (.not (.cal 6 (.cons (.var 0) .nil)))
    (.cons .dead
    .nil)
    .nil)
  .nil)
def d_check_fraction : DefI := ⟨"check_fraction", topS 15, ["value"], ["value"], ir_check_fraction⟩
def ir_first_whole : CSs :=
  (.cons (.set 2 (.cal 5 (.cons (.var 0) .nil)))
  (.cons (.ret (.ife (.and (.cmp .Eq (.idx (.var 0) (.cst (.int 1))) (.cst (.int 1))) (.cmp .Eq (.var 1) (.cst (.int 1)))) (.var 2) (.bin .Add (.var 2) (.cst (.int 1)))))
  .nil))
def d_first_whole : DefI := ⟨"first_whole", topS 16, ["low", "low_in"], ["low", "low_in", "whole"], ir_first_whole⟩
def ir_last_whole : CSs :=
  (.cons (.set 2 (.cal 5 (.cons (.var 0) .nil)))
  (.cons (.ret (.ife (.and (.cmp .Eq (.idx (.var 0) (.cst (.int 1))) (.cst (.int 1))) (.cmp .Eq (.var 1) (.cst (.int 0)))) (.bin .Sub (.var 2) (.cst (.int 1))) (.var 2)))
  .nil))
def d_last_whole : DefI := ⟨"last_whole", topS 17, ["high", "high_in"], ["high", "high_in", "whole"], ir_last_whole⟩
def ir_simplest_within : CSs :=
  (.cons (.unp [1, 2, 3, 4] (.var 0))
  (.cons (.set 5 (.cal 8 (.cons (.var 1) (.cons (.var 3) .nil))))
  (.cons (.set 6 (.cal 9 (.cons (.var 2) (.cons (.var 4) .nil))))
  (.cons (.iff (.cmp .LtE (.var 5) (.var 6))
    (.cons (.ret (.ife (.cmp .Gt (.var 5) (.cst (.int 0))) (.tup (.cons (.var 5) (.cons (.cst (.int 1)) .nil))) (.tup (.cons (.blt .min2 (.cons (.var 6) (.cons (.cst (.int 0)) .nil))) (.cons (.cst (.int 1)) .nil)))))
    .nil)
    .nil)
  (.cons (.set 7 (.lst .nil))
  (.cons (.whl (.cmp .Gt (.var 5) (.var 6))
    (.cons (.set 8 (.bin .Sub (.var 5) (.cst (.int 1))))
    (.cons (.drop (.mth .append (.var 7) (.cons (.var 8) .nil)))
    (.cons (.set 9 (.tup (.cons (.idx (.var 1) (.cst (.int 1))) (.cons (.bin .Sub (.idx (.var 1) (.cst (.int 0))) (.bin .Mult (.var 8) (.idx (.var 1) (.cst (.int 1))))) .nil))))
    (.cons (.set 1 (.tup (.cons (.idx (.var 2) (.cst (.int 1))) (.cons (.bin .Sub (.idx (.var 2) (.cst (.int 0))) (.bin .Mult (.var 8) (.idx (.var 2) (.cst (.int 1))))) .nil))))
    (.cons (.par 3 4 (.var 4) (.var 3))
    (.cons (.set 2 (.var 9))
    (.cons (.set 5 (.cal 8 (.cons (.var 1) (.cons (.var 3) .nil))))
    (.cons (.set 6 (.ife (.cmp .Eq (.idx (.var 2) (.cst (.int 1))) (.cst (.int 0))) (.var 5) (.cal 9 (.cons (.var 2) (.cons (.var 4) .nil)))))
    .nil)))))))))
  (.cons (.par 10 11 (.var 5) (.cst (.int 1)))
  (.cons (.for (.nm 8) (.rv (.var 7))
    (.cons (.par 10 11 (.bin .Add (.bin .Mult (.var 8) (.var 10)) (.var 11)) (.var 10))
    .nil))
  (.cons (.ret (.tup (.cons (.var 10) (.cons (.var 11) .nil))))
  .nil)))))))))
def d_simplest_within : DefI := ⟨"simplest_within", topS 18, ["span"], ["span", "low", "high", "low_in", "high_in", "first", "last", "floors", "whole", "upper", "top", "bottom"], ir_simplest_within⟩
def ir_is_span : CSs :=
  (.cons (.iff (.or (.not (.blt .isi (.cons (.var 0) (.cons (.typ "tuple") .nil)))) (.or (.cmp .NotEq (.blt .len (.cons (.var 0) .nil)) (.cst (.int 4))) (.or (.not (.cal 6 (.cons (.idx (.var 0) (.cst (.int 0))) .nil))) (.not (.cal 6 (.cons (.idx (.var 0) (.cst (.int 1))) .nil))))))
    (.cons (.ret (.cst (.bl false)))
    .nil)
    .nil)
  (.cons (.iff (.or (.not (.cal 1 (.cons (.idx (.var 0) (.cst (.int 2))) (.cons (.cst (.int 2)) .nil)))) (.not (.cal 1 (.cons (.idx (.var 0) (.cst (.int 3))) (.cons (.cst (.int 2)) .nil)))))
    (.cons (.ret (.cst (.bl false)))
    .nil)
    .nil)
  (.cons (.set 1 (.bin .Sub (.bin .Mult (.idx (.idx (.var 0) (.cst (.int 1))) (.cst (.int 0))) (.idx (.idx (.var 0) (.cst (.int 0))) (.cst (.int 1)))) (.bin .Mult (.idx (.idx (.var 0) (.cst (.int 0))) (.cst (.int 0))) (.idx (.idx (.var 0) (.cst (.int 1))) (.cst (.int 1))))))
  (.cons (.ret (.or (.cmp .Gt (.var 1) (.cst (.int 0))) (.and (.cmp .Eq (.var 1) (.cst (.int 0))) (.and (.cmp .Eq (.idx (.var 0) (.cst (.int 2))) (.cst (.int 1))) (.cmp .Eq (.idx (.var 0) (.cst (.int 3))) (.cst (.int 1)))))))
  .nil))))
def d_is_span : DefI := ⟨"is_span", topS 20, ["value"], ["value", "gap"], ir_is_span⟩
def ir_scale_of : CSs :=
  (.cons (.set 1 (.cst (.int 1)))
  (.cons (.for (.tp [2, 3, 4, 4]) (.sq (.var 0))
    (.cons (.set 1 (.blt .lcm (.cons (.var 1) (.cons (.blt .lcm (.cons (.idx (.var 2) (.cst (.int 1))) (.cons (.idx (.var 3) (.cst (.int 1))) .nil))) .nil))))
    .nil))
  (.cons (.ret (.var 1))
  .nil)))
def d_scale_of : DefI := ⟨"scale_of", topS 21, ["spans"], ["spans", "found", "low", "high", "_"], ir_scale_of⟩
def ir_cuts_of : CSs :=
  (.cons (.set 2 (.lst .nil))
  (.cons (.for (.tp [3, 4, 5, 6]) (.sq (.var 0))
    (.cons (.drop (.mth .append (.var 2) (.cons (.bin .Sub (.bin .Add (.bin .Mult (.bin .Mult (.cst (.int 2)) (.idx (.var 3) (.cst (.int 0)))) (.bin .FloorDiv (.var 1) (.idx (.var 3) (.cst (.int 1))))) (.cst (.int 1))) (.var 5)) .nil)))
    (.cons (.drop (.mth .append (.var 2) (.cons (.bin .Add (.bin .Mult (.bin .Mult (.cst (.int 2)) (.idx (.var 4) (.cst (.int 0)))) (.bin .FloorDiv (.var 1) (.idx (.var 4) (.cst (.int 1))))) (.var 6)) .nil)))
    .nil)))
  (.cons (.ret (.var 2))
  .nil)))
def d_cuts_of : DefI := ⟨"cuts_of", topS 22, ["spans", "scale"], ["spans", "scale", "found", "low", "high", "left", "right"], ir_cuts_of⟩
def ir_spans_from : CSs :=
  (.cons (.set 2 (.lst .nil))
  (.cons (.for (.tp [3, 4]) (.zp (.sls (.var 0) .nil (2)) (.sls (.var 0) (.cons (.cst (.int 1)) .nil) (2)))
    (.cons (.drop (.mth .append (.var 2) (.cons (.tup (.cons (.cal 2 (.cons (.bin .FloorDiv (.var 3) (.cst (.int 2))) (.cons (.var 1) .nil))) (.cons (.cal 2 (.cons (.bin .FloorDiv (.var 4) (.cst (.int 2))) (.cons (.var 1) .nil))) (.cons (.bin .Sub (.cst (.int 1)) (.bin .Mod (.var 3) (.cst (.int 2)))) (.cons (.bin .Mod (.var 4) (.cst (.int 2))) .nil))))) .nil)))
    .nil))
  (.cons (.ret (.blt .tuple (.cons (.var 2) .nil)))
  .nil)))
def d_spans_from : DefI := ⟨"spans_from", topS 23, ["cuts", "scale"], ["cuts", "scale", "found", "low", "high"], ir_spans_from⟩
def ir_swept : CSs :=
  (.cons (.set 3 (.ssc (.nm 11) (.sq (.bin .Add (.var 0) (.var 1))) .nil (.var 11) [11]))
  (.cons (.par 4 5 (.dc (.nm 11) (.sq (.var 0)) .nil (.var 11) (.cst (.bl true)) [11]) (.dc (.nm 11) (.sq (.var 1)) .nil (.var 11) (.cst (.bl true)) [11]))
  (.cons (.unp [6, 7, 8, 9] (.tup (.cons (.cst (.bl false)) (.cons (.cst (.bl false)) (.cons (.cst (.bl false)) (.cons (.lst .nil) .nil))))))
  (.cons (.for (.nm 10) (.sq (.var 3))
    (.cons (.set 6 (.cmp .NotEq (.var 6) (.cmp .In (.var 10) (.var 4))))
    (.cons (.set 7 (.cmp .NotEq (.var 7) (.cmp .In (.var 10) (.var 5))))
    (.cons (.iff (.cmp .NotEq (.calv 2 (.cons (.var 6) (.cons (.var 7) .nil)) [(16, "in_either")]) (.var 8))
      (.cons (.set 8 (.not (.var 8)))
      (.cons (.drop (.mth .append (.var 9) (.cons (.var 10) .nil)))
      .nil))
      .nil)
    .nil))))
  (.cons (.ret (.var 9))
  .nil)))))
def d_swept : DefI := ⟨"swept", topS 24, ["one", "other", "rule"], ["one", "other", "rule", "marks", "ones", "others", "in_one", "in_other", "inside", "found", "mark", "cut"], ir_swept⟩
def ir_in_either : CSs :=
  (.cons (.ret (.or (.var 0) (.var 1)))
  .nil)
def d_in_either : DefI := ⟨"in_either", topS 25, ["one", "other"], ["one", "other"], ir_in_either⟩
def ir_is_spans : CSs :=
  (.cons (.iff (.or (.not (.blt .isi (.cons (.var 0) (.cons (.typ "tuple") .nil)))) (.not (.blt .all (.cons (.lc (.nm 2) (.sq (.var 0)) .nil (.cal 11 (.cons (.var 2) .nil)) [2]) .nil))))
    (.cons (.ret (.cst (.bl false)))
    .nil)
    .nil)
  (.cons (.set 1 (.cal 13 (.cons (.var 0) (.cons (.cal 12 (.cons (.var 0) .nil)) .nil))))
  (.cons (.ret (.blt .all (.cons (.lc (.tp [2, 3]) (.zp (.var 1) (.slc (.var 1) (.cons (.cst (.int 1)) .nil) .nil)) .nil (.cmp .Lt (.var 2) (.var 3)) [2, 3]) .nil)))
  .nil)))
def d_is_spans : DefI := ⟨"is_spans", topS 26, ["value"], ["value", "cuts", "one", "other"], ir_is_spans⟩
def ir_check_spans : CSs :=
  (.cons (.iff (.not (.cal 17 (.cons (.var 0) .nil)))
    (.cons .dead
    .nil)
    .nil)
  .nil)
def d_check_spans : DefI := ⟨"check_spans", topS 27, ["spans"], ["spans"], ir_check_spans⟩
def ir_joined : CSs :=
  (.cons (.set 3 (.blt .lcm (.cons (.cal 12 (.cons (.var 0) .nil)) (.cons (.cal 12 (.cons (.var 1) .nil)) .nil))))
  (.cons (.ret (.cal 14 (.cons (.cal 15 (.cons (.cal 13 (.cons (.var 0) (.cons (.var 3) .nil))) (.cons (.cal 13 (.cons (.var 1) (.cons (.var 3) .nil))) (.cons (.var 2) .nil)))) (.cons (.var 3) .nil))))
  .nil))
def d_joined : DefI := ⟨"joined", topS 28, ["one", "other", "rule"], ["one", "other", "rule", "scale"], ir_joined⟩
def ir_melted : CSs :=
  (.cons (.set 1 (.tup .nil))
  (.cons (.for (.nm 2) (.sq (.var 0))
    (.cons (.set 1 (.cal 19 (.cons (.var 1) (.cons (.tup (.cons (.var 2) .nil)) (.cons (.fnv 16 "in_either") .nil)))))
    .nil))
  (.cons (.ret (.var 1))
  .nil)))
def d_melted : DefI := ⟨"melted", topS 29, ["some"], ["some", "found", "span"], ir_melted⟩
def ir_has_in : CSs :=
  (.cons (.set 2 (.blt .lcm (.cons (.cal 12 (.cons (.var 0) .nil)) (.cons (.idx (.var 1) (.cst (.int 1))) .nil))))
  (.cons (.set 3 (.bin .Mult (.bin .Mult (.cst (.int 2)) (.idx (.var 1) (.cst (.int 0)))) (.bin .FloorDiv (.var 2) (.idx (.var 1) (.cst (.int 1))))))
  (.cons (.ret (.cmp .Eq (.bin .Mod (.blt .len (.cons (.lc (.nm 4) (.sq (.cal 13 (.cons (.var 0) (.cons (.var 2) .nil)))) (.cons (.cmp .LtE (.var 4) (.var 3)) .nil) (.var 4) [4]) .nil)) (.cst (.int 2))) (.cst (.int 1))))
  .nil)))
def d_has_in : DefI := ⟨"has_in", topS 30, ["spans", "x"], ["spans", "x", "scale", "place", "cut"], ir_has_in⟩
def ir_number_scaled : CSs :=
  (.cons (.ret (.cal 3 (.cons (.cal 2 (.cons (.bin .Mult (.idx (.var 0) (.cst (.int 0))) (.idx (.var 1) (.cst (.int 0)))) (.cons (.bin .Mult (.idx (.var 0) (.cst (.int 1))) (.idx (.var 1) (.cst (.int 1)))) .nil))) (.cons (.var 2) .nil))))
  .nil)
def d_number_scaled : DefI := ⟨"number_scaled", topS 31, ["x", "p", "q"], ["x", "p", "q"], ir_number_scaled⟩
def ir_span_scaled : CSs :=
  (.cons (.par 3 4 (.cal 22 (.cons (.idx (.var 0) (.cst (.int 0))) (.cons (.var 1) (.cons (.var 2) .nil)))) (.cal 22 (.cons (.idx (.var 0) (.cst (.int 1))) (.cons (.var 1) (.cons (.var 2) .nil)))))
  (.cons (.ret (.ife (.cmp .Gt (.idx (.var 1) (.cst (.int 0))) (.cst (.int 0))) (.bin .Add (.tup (.cons (.var 3) (.cons (.var 4) .nil))) (.slc (.var 0) (.cons (.cst (.int 2)) .nil) .nil)) (.tup (.cons (.var 4) (.cons (.var 3) (.cons (.idx (.var 0) (.cst (.int 3))) (.cons (.idx (.var 0) (.cst (.int 2))) .nil)))))))
  .nil))
def d_span_scaled : DefI := ⟨"span_scaled", topS 32, ["span", "p", "q"], ["span", "p", "q", "low", "high"], ir_span_scaled⟩
def ir_long_of : CSs :=
  (.cons (.set 1 (.tup (.cons (.cst (.int 0)) (.cons (.cst (.int 1)) .nil))))
  (.cons (.for (.tp [2, 3, 4, 4]) (.sq (.var 0))
    (.cons (.set 1 (.cal 3 (.cons (.var 1) (.cons (.cal 4 (.cons (.var 3) (.cons (.var 2) .nil))) .nil))))
    .nil))
  (.cons (.ret (.var 1))
  .nil)))
def d_long_of : DefI := ⟨"long_of", topS 33, ["spans"], ["spans", "found", "low", "high", "_"], ir_long_of⟩
def ir_check_factor : CSs :=
  (.cons (.drop (.cal 7 (.cons (.var 0) .nil)))
  (.cons (.iff (.cmp .Eq (.idx (.var 0) (.cst (.int 0))) (.cst (.int 0)))
    (.cons .dead
    .nil)
    .nil)
  .nil))
def d_check_factor : DefI := ⟨"check_factor", topS 34, ["p"], ["p"], ir_check_factor⟩
def ir_spans_of : CSs :=
  (.cons (.iff (.not (.blt .isi (.cons (.var 0) (.cons (.tup (.cons (.typ "list") (.cons (.typ "tuple") .nil))) .nil))))
    (.cons .dead
    .nil)
    .nil)
  (.cons (.for (.nm 1) (.sq (.var 0))
    (.cons (.iff (.not (.cal 11 (.cons (.var 1) .nil)))
      (.cons .dead
      .nil)
      .nil)
    .nil))
  (.cons (.ret (.cal 20 (.cons (.var 0) .nil)))
  .nil)))
def d_spans_of : DefI := ⟨"spans_of", topS 35, ["listed"], ["listed", "span"], ir_spans_of⟩
def ir_contains : CSs :=
  (.cons (.drop (.cal 18 (.cons (.var 0) .nil)))
  (.cons (.drop (.cal 7 (.cons (.var 1) .nil)))
  (.cons (.ret (.cal 21 (.cons (.var 0) (.cons (.var 1) .nil))))
  .nil)))
def d_contains : DefI := ⟨"contains", topS 36, ["spans", "x"], ["spans", "x"], ir_contains⟩
def ir_scaled : CSs :=
  (.cons (.drop (.cal 18 (.cons (.var 0) .nil)))
  (.cons (.drop (.cal 25 (.cons (.var 1) .nil)))
  (.cons (.drop (.cal 7 (.cons (.var 2) .nil)))
  (.cons (.set 3 (.lc (.nm 4) (.sq (.var 0)) .nil (.cal 23 (.cons (.var 4) (.cons (.var 1) (.cons (.var 2) .nil)))) [4]))
  (.cons (.ret (.blt .tuple (.cons (.ife (.cmp .Gt (.idx (.var 1) (.cst (.int 0))) (.cst (.int 0))) (.var 3) (.sls (.var 3) .nil (-1))) .nil)))
  .nil)))))
def d_scaled : DefI := ⟨"scaled", topS 37, ["spans", "p", "q"], ["spans", "p", "q", "found", "span"], ir_scaled⟩
def ir_length_of : CSs :=
  (.cons (.drop (.cal 18 (.cons (.var 0) .nil)))
  (.cons (.ret (.cal 24 (.cons (.var 0) .nil)))
  .nil))
def d_length_of : DefI := ⟨"length_of", topS 38, ["spans"], ["spans"], ir_length_of⟩
def ir_simplest_in : CSs :=
  (.cons (.iff (.not (.cal 11 (.cons (.var 0) .nil)))
    (.cons .dead
    .nil)
    .nil)
  (.cons (.ret (.cal 10 (.cons (.var 0) .nil)))
  .nil))
def d_simplest_in : DefI := ⟨"simplest_in", topS 39, ["span"], ["span"], ir_simplest_in⟩
def ir__law_begin : CSs :=
  (.cons (.set 2 (.bin .Add (.bin .Add (.cst (.int 1013904223)) (.bin .Mult (.cst (.int 69069)) (.var 1))) (.blt .len (.cons (.var 0) .nil))))
  (.cons (.for (.nm 3) (.sq (.slc (.var 0) .nil (.cons (.cst (.int 200)) .nil)))
    (.cons (.set 2 (.bin .Mod (.blt .int (.cons (.bin .Add (.bin .Add (.bin .Mult (.var 2) (.cst (.int 6364136223846793005))) (.bin .Mult (.var 3) (.cst (.int 2862933555777941757)))) (.cst (.int 3037000493))) .nil)) (.cst (.int 618970019642690137449562111))))
    .nil))
  (.cons (.set 3 (.ife (.cmp .Lt (.var 1) (.blt .len (.cons (.var 0) .nil))) (.blt .int (.cons (.idx (.var 0) (.var 1)) .nil)) (.cst (.int 0))))
  (.cons (.ret (.lst (.cons (.blt .max2 (.cons (.cst (.int 0)) (.cons (.bin .Sub (.blt .abs (.cons (.var 3) .nil)) (.bin .Pow (.cst (.int 10)) (.cst (.int 18)))) .nil))) (.cons (.var 2) (.cons (.cst (.int 0)) .nil)))))
  .nil))))
def d__law_begin : DefI := ⟨"_law_begin", topS 41, ["script", "place"], ["script", "place", "seed", "cell"], ir__law_begin⟩
def ir__law_pick : CSs :=
  (.cons (.iff (.cmp .Gt (.idx (.var 0) (.cst (.int 0))) (.cst (.int 0)))
    (.cons (.set 2 (.bin .Mod (.blt .int (.cons (.idx (.var 0) (.cst (.int 0))) .nil)) (.var 1)))
    (.cons (.put (.var 0) (.cst (.int 0)) (.bin .FloorDiv (.idx (.var 0) (.cst (.int 0))) (.var 1)))
    (.cons (.ret (.var 2))
    .nil)))
    .nil)
  (.cons (.put (.var 0) (.cst (.int 2)) (.bin .Add (.idx (.var 0) (.cst (.int 2))) (.cst (.int 1))))
  (.cons (.set 3 (.bin .Mod (.blt .int (.cons (.bin .Add (.bin .Pow (.bin .Add (.idx (.var 0) (.cst (.int 1))) (.bin .Mult (.cst (.int 3935559000370003845)) (.idx (.var 0) (.cst (.int 2))))) (.cst (.int 3))) (.idx (.var 0) (.cst (.int 2)))) .nil)) (.cst (.int 618970019642690137449562111))))
  (.cons (.set 3 (.bin .Mod (.blt .int (.cons (.bin .Add (.bin .Add (.bin .Pow (.var 3) (.cst (.int 3))) (.idx (.var 0) (.cst (.int 1)))) (.cst (.int 2691343689449507681))) .nil)) (.cst (.int 162259276829213363391578010288127))))
  (.cons (.ret (.bin .Mod (.blt .int (.cons (.bin .FloorDiv (.var 3) (.cst (.int 1000003))) .nil)) (.var 1)))
  .nil)))))
def d__law_pick : DefI := ⟨"_law_pick", topS 42, ["source", "many"], ["source", "many", "found", "mixed"], ir__law_pick⟩
def ir__law_same : CSs :=
  (.cons (.iff (.cmp .Is (.var 1) (.cst .non))
    (.cons (.ret (.cmp .Is (.var 0) (.cst .non)))
    .nil)
    .nil)
  (.cons (.iff (.blt .isi (.cons (.var 1) (.cons (.typ "bool") .nil)))
    (.cons (.ret (.and (.blt .isi (.cons (.var 0) (.cons (.typ "bool") .nil))) (.cmp .Eq (.var 0) (.var 1))))
    .nil)
    .nil)
  (.cons (.iff (.blt .isi (.cons (.var 1) (.cons (.typ "int") .nil)))
    (.cons (.ret (.and (.blt .isi (.cons (.var 0) (.cons (.typ "int") .nil))) (.and (.not (.blt .isi (.cons (.var 0) (.cons (.typ "bool") .nil)))) (.cmp .Eq (.var 0) (.var 1)))))
    .nil)
    .nil)
  (.cons (.iff (.blt .isi (.cons (.var 1) (.cons (.typ "str") .nil)))
    (.cons (.ret (.and (.blt .isi (.cons (.var 0) (.cons (.typ "str") .nil))) (.cmp .Eq (.var 0) (.var 1))))
    .nil)
    .nil)
  (.cons (.iff (.or (.cmp .NotEq (.blt .isi (.cons (.var 1) (.cons (.typ "tuple") .nil))) (.blt .isi (.cons (.var 0) (.cons (.typ "tuple") .nil)))) (.cmp .NotEq (.blt .isi (.cons (.var 1) (.cons (.typ "list") .nil))) (.blt .isi (.cons (.var 0) (.cons (.typ "list") .nil)))))
    (.cons (.ret (.cst (.bl false)))
    .nil)
    .nil)
  (.cons (.ret (.and (.cmp .Eq (.blt .len (.cons (.var 0) .nil)) (.blt .len (.cons (.var 1) .nil))) (.blt .all (.cons (.lc (.nm 2) (.r1 (.blt .len (.cons (.var 1) .nil))) .nil (.cal 33 (.cons (.idx (.var 0) (.var 2)) (.cons (.idx (.var 1) (.var 2)) .nil))) [2]) .nil))))
  .nil))))))
def d__law_same : DefI := ⟨"_law_same", topS 43, ["told", "due"], ["told", "due", "k"], ir__law_same⟩
def ir__law_frac : CSs :=
  (.cons (.par 2 3 (.blt .abs (.cons (.var 0) .nil)) (.blt .abs (.cons (.var 1) .nil)))
  (.cons (.whl (.cmp .Gt (.var 3) (.cst (.int 0)))
    (.cons (.par 2 3 (.var 3) (.bin .Mod (.blt .int (.cons (.var 2) .nil)) (.var 3)))
    .nil))
  (.cons (.set 4 (.ife (.cmp .Lt (.var 1) (.cst (.int 0))) (.neg (.cst (.int 1))) (.cst (.int 1))))
  (.cons (.ret (.tup (.cons (.bin .FloorDiv (.bin .Mult (.var 4) (.var 0)) (.var 2)) (.cons (.bin .FloorDiv (.bin .Mult (.var 4) (.var 1)) (.var 2)) .nil))))
  .nil))))
def d__law_frac : DefI := ⟨"_law_frac", topS 44, ["top", "bottom"], ["top", "bottom", "one", "other", "sign"], ir__law_frac⟩
def ir__law_less : CSs :=
  (.cons (.ret (.cmp .Lt (.bin .Mult (.idx (.var 0) (.cst (.int 0))) (.idx (.var 1) (.cst (.int 1)))) (.bin .Mult (.idx (.var 1) (.cst (.int 0))) (.idx (.var 0) (.cst (.int 1))))))
  .nil)
def d__law_less : DefI := ⟨"_law_less", topS 45, ["one", "other"], ["one", "other"], ir__law_less⟩
def ir__law_scale : CSs :=
  (.cons (.set 1 (.cst (.int 1)))
  (.cons (.for (.nm 2) (.sq (.var 0))
    (.cons (.set 1 (.bin .Mult (.var 1) (.idx (.cal 34 (.cons (.idx (.var 2) (.cst (.int 1))) (.cons (.var 1) .nil))) (.cst (.int 0)))))
    .nil))
  (.cons (.ret (.var 1))
  .nil)))
def d__law_scale : DefI := ⟨"_law_scale", topS 46, ["numbers"], ["numbers", "found", "x"], ir__law_scale⟩
def ir__law_within : CSs :=
  (.cons (.for (.tp [2, 3, 4, 5]) (.sq (.var 0))
    (.cons (.iff (.or (.and (.cal 35 (.cons (.var 2) (.cons (.var 1) .nil))) (.cal 35 (.cons (.var 1) (.cons (.var 3) .nil)))) (.or (.and (.cmp .Eq (.var 1) (.var 2)) (.cmp .Eq (.var 4) (.cst (.int 1)))) (.and (.cmp .Eq (.var 1) (.var 3)) (.cmp .Eq (.var 5) (.cst (.int 1))))))
      (.cons (.ret (.cst (.bl true)))
      .nil)
      .nil)
    .nil))
  (.cons (.ret (.cst (.bl false)))
  .nil))
def d__law_within : DefI := ⟨"_law_within", topS 47, ["spans", "x"], ["spans", "x", "low", "high", "low_in", "high_in"], ir__law_within⟩
def ir__law_places : CSs :=
  (.cons (.set 1 (.lst .nil))
  (.cons (.for (.nm 2) (.sq (.var 0))
    (.cons (.set 1 (.bin .Add (.var 1) (.lst (.cons (.idx (.var 2) (.cst (.int 0))) (.cons (.idx (.var 2) (.cst (.int 1))) .nil)))))
    .nil))
  (.cons (.set 3 (.cal 36 (.cons (.var 1) .nil)))
  (.cons (.ret (.tup (.cons (.var 3) (.cons (.sset (.lc (.nm 4) (.sq (.var 1)) .nil (.bin .Mult (.idx (.var 4) (.cst (.int 0))) (.bin .FloorDiv (.var 3) (.idx (.var 4) (.cst (.int 1))))) [4])) .nil))))
  .nil))))
def d__law_places : DefI := ⟨"_law_places", topS 48, ["spans"], ["spans", "ends", "span", "scale", "end"], ir__law_places⟩
def ir__law_cell : CSs :=
  (.cons (.iff (.cmp .Eq (.bin .Mod (.blt .int (.cons (.var 2) .nil)) (.cst (.int 2))) (.cst (.int 0)))
    (.cons (.ret (.cal 34 (.cons (.idx (.var 1) (.bin .FloorDiv (.var 2) (.cst (.int 2)))) (.cons (.var 0) .nil))))
    .nil)
    .nil)
  (.cons (.ret (.cal 34 (.cons (.bin .Add (.idx (.var 1) (.bin .FloorDiv (.var 2) (.cst (.int 2)))) (.idx (.var 1) (.bin .Add (.bin .FloorDiv (.var 2) (.cst (.int 2))) (.cst (.int 1))))) (.cons (.bin .Mult (.cst (.int 2)) (.var 0)) .nil))))
  .nil))
def d__law_cell : DefI := ⟨"_law_cell", topS 49, ["scale", "places", "at"], ["scale", "places", "at"], ir__law_cell⟩
def ir__law_listed : CSs :=
  (.cons (.par 3 4 (.lst .nil) (.neg (.cst (.int 1))))
  (.cons (.for (.nm 5) (.r1 (.bin .Add (.blt .len (.cons (.var 2) .nil)) (.cst (.int 1))))
    (.cons (.set 6 (.and (.cmp .Lt (.var 5) (.blt .len (.cons (.var 2) .nil))) (.idx (.var 2) (.var 5))))
    (.cons (.iff (.and (.var 6) (.cmp .Lt (.var 4) (.cst (.int 0))))
      (.cons (.set 4 (.var 5))
      .nil)
      .nil)
    (.cons (.iff (.and (.not (.var 6)) (.cmp .GtE (.var 4) (.cst (.int 0))))
      (.cons (.par 7 8 (.cal 34 (.cons (.idx (.var 1) (.bin .FloorDiv (.var 4) (.cst (.int 2)))) (.cons (.var 0) .nil))) (.cal 34 (.cons (.idx (.var 1) (.bin .FloorDiv (.var 5) (.cst (.int 2)))) (.cons (.var 0) .nil))))
      (.cons (.drop (.mth .append (.var 3) (.cons (.tup (.cons (.var 7) (.cons (.var 8) (.cons (.bin .Sub (.cst (.int 1)) (.bin .Mod (.blt .int (.cons (.var 4) .nil)) (.cst (.int 2)))) (.cons (.bin .Mod (.blt .int (.cons (.var 5) .nil)) (.cst (.int 2))) .nil))))) .nil)))
      (.cons (.set 4 (.neg (.cst (.int 1))))
      .nil)))
      .nil)
    .nil))))
  (.cons (.ret (.blt .tuple (.cons (.var 3) .nil)))
  .nil)))
def d__law_listed : DefI := ⟨"_law_listed", topS 50, ["scale", "places", "marks"], ["scale", "places", "marks", "found", "start", "at", "inside", "low", "high"], ir__law_listed⟩
def ir__law_end : CSs :=
  (.cons (.iff (.cmp .Eq (.var 1) (.cst (.int 0)))
    (.cons (.ret (.cal 34 (.cons (.bin .Sub (.cal 32 (.cons (.var 0) (.cons (.cst (.int 41)) .nil))) (.cst (.int 20))) (.cons (.bin .Add (.cst (.int 1)) (.cal 32 (.cons (.var 0) (.cons (.cst (.int 4)) .nil)))) .nil))))
    .nil)
    .nil)
  (.cons (.iff (.cmp .Eq (.var 1) (.cst (.int 1)))
    (.cons (.ret (.tup (.cons (.bin .Sub (.cal 32 (.cons (.var 0) (.cons (.cst (.int 13)) .nil))) (.cst (.int 6))) (.cons (.cst (.int 1)) .nil))))
    .nil)
    .nil)
  (.cons (.iff (.cmp .Eq (.var 1) (.cst (.int 2)))
    (.cons (.ret (.cal 34 (.cons (.bin .Sub (.cal 32 (.cons (.var 0) (.cons (.cst (.int 4001)) .nil))) (.cst (.int 2000))) (.cons (.bin .Add (.cst (.int 1)) (.cal 32 (.cons (.var 0) (.cons (.cst (.int 61)) .nil)))) .nil))))
    .nil)
    .nil)
  (.cons (.ret (.cal 34 (.cons (.bin .Sub (.cal 32 (.cons (.var 0) (.cons (.bin .Add (.bin .Mult (.cst (.int 2)) (.bin .Pow (.cst (.int 10)) (.cst (.int 14)))) (.cst (.int 1))) .nil))) (.bin .Pow (.cst (.int 10)) (.cst (.int 14)))) (.cons (.bin .Add (.cst (.int 1)) (.cal 32 (.cons (.var 0) (.cons (.bin .Pow (.cst (.int 10)) (.cst (.int 14))) .nil)))) .nil))))
  .nil))))
def d__law_end : DefI := ⟨"_law_end", topS 51, ["source", "way"], ["source", "way"], ir__law_end⟩
def ir__law_span : CSs :=
  (.cons (.set 2 (.cal 41 (.cons (.var 0) (.cons (.var 1) .nil))))
  (.cons (.set 3 (.ife (.cmp .Eq (.cal 32 (.cons (.var 0) (.cons (.cst (.int 5)) .nil))) (.cst (.int 0))) (.var 2) (.cal 41 (.cons (.var 0) (.cons (.var 1) .nil)))))
  (.cons (.iff (.cmp .Eq (.var 2) (.var 3))
    (.cons (.ret (.tup (.cons (.var 2) (.cons (.var 3) (.cons (.cst (.int 1)) (.cons (.cst (.int 1)) .nil))))))
    .nil)
    .nil)
  (.cons (.iff (.cal 35 (.cons (.var 3) (.cons (.var 2) .nil)))
    (.cons (.par 2 3 (.var 3) (.var 2))
    .nil)
    .nil)
  (.cons (.ret (.tup (.cons (.var 2) (.cons (.var 3) (.cons (.cal 32 (.cons (.var 0) (.cons (.cst (.int 2)) .nil))) (.cons (.cal 32 (.cons (.var 0) (.cons (.cst (.int 2)) .nil))) .nil))))))
  .nil)))))
def d__law_span : DefI := ⟨"_law_span", topS 52, ["source", "way"], ["source", "way", "low", "high"], ir__law_span⟩
def ir__law_due : CSs :=
  (.cons (.iff (.cmp .Eq (.var 0) (.lst .nil))
    (.cons (.ret (.tup .nil))
    .nil)
    .nil)
  (.cons (.unp [1, 2] (.cal 38 (.cons (.var 0) .nil)))
  (.cons (.set 3 (.lc (.nm 4) (.r1 (.bin .Sub (.bin .Mult (.cst (.int 2)) (.blt .len (.cons (.var 2) .nil))) (.cst (.int 1)))) .nil (.cal 37 (.cons (.var 0) (.cons (.cal 39 (.cons (.var 1) (.cons (.var 2) (.cons (.var 4) .nil)))) .nil))) [4]))
  (.cons (.ret (.cal 40 (.cons (.var 1) (.cons (.var 2) (.cons (.var 3) .nil)))))
  .nil))))
def d__law_due : DefI := ⟨"_law_due", topS 53, ["listed"], ["listed", "scale", "places", "marks", "at"], ir__law_due⟩
def ir__law_scaled : CSs :=
  (.cons (.ret (.cal 34 (.cons (.bin .Add (.bin .Mult (.bin .Mult (.idx (.var 0) (.cst (.int 0))) (.idx (.var 1) (.cst (.int 0)))) (.idx (.var 2) (.cst (.int 1)))) (.bin .Mult (.bin .Mult (.idx (.var 2) (.cst (.int 0))) (.idx (.var 0) (.cst (.int 1)))) (.idx (.var 1) (.cst (.int 1))))) (.cons (.bin .Mult (.bin .Mult (.idx (.var 0) (.cst (.int 1))) (.idx (.var 1) (.cst (.int 1)))) (.idx (.var 2) (.cst (.int 1)))) .nil))))
  .nil)
def d__law_scaled : DefI := ⟨"_law_scaled", topS 54, ["x", "p", "q"], ["x", "p", "q"], ir__law_scaled⟩
def ir__law_scaled_list : CSs :=
  (.cons (.set 3 (.lst .nil))
  (.cons (.for (.tp [4, 5, 6, 7]) (.sq (.var 0))
    (.cons (.set 8 (.lst (.cons (.cal 44 (.cons (.var 4) (.cons (.var 1) (.cons (.var 2) .nil)))) (.cons (.cal 44 (.cons (.var 5) (.cons (.var 1) (.cons (.var 2) .nil)))) .nil))))
    (.cons (.iff (.cmp .Gt (.idx (.var 1) (.cst (.int 0))) (.cst (.int 0)))
      (.cons (.drop (.mth .append (.var 3) (.cons (.tup (.cons (.idx (.var 8) (.cst (.int 0))) (.cons (.idx (.var 8) (.cst (.int 1))) (.cons (.var 6) (.cons (.var 7) .nil))))) .nil)))
      .nil)
      (.cons (.set 3 (.bin .Add (.lst (.cons (.tup (.cons (.idx (.var 8) (.cst (.int 1))) (.cons (.idx (.var 8) (.cst (.int 0))) (.cons (.var 7) (.cons (.var 6) .nil))))) .nil)) (.var 3)))
      .nil))
    .nil)))
  (.cons (.ret (.blt .tuple (.cons (.var 3) .nil)))
  .nil)))
def d__law_scaled_list : DefI := ⟨"_law_scaled_list", topS 55, ["spans", "p", "q"], ["spans", "p", "q", "found", "low", "high", "low_in", "high_in", "ends"], ir__law_scaled_list⟩
def ir__law_simplest : CSs :=
  (.cons (.unp [2, 3, 4, 5] (.var 0))
  (.cons (.for (.nm 6) (.r2 (.cst (.int 1)) (.bin .Add (.var 1) (.cst (.int 1))))
    (.cons (.set 7 (.neg (.bin .FloorDiv (.bin .Mult (.neg (.idx (.var 2) (.cst (.int 0)))) (.var 6)) (.idx (.var 2) (.cst (.int 1))))))
    (.cons (.iff (.and (.cmp .Eq (.var 4) (.cst (.int 0))) (.cmp .Eq (.bin .Mult (.var 7) (.idx (.var 2) (.cst (.int 1)))) (.bin .Mult (.idx (.var 2) (.cst (.int 0))) (.var 6))))
      (.cons (.set 7 (.bin .Add (.var 7) (.cst (.int 1))))
      .nil)
      .nil)
    (.cons (.set 8 (.bin .FloorDiv (.bin .Mult (.idx (.var 3) (.cst (.int 0))) (.var 6)) (.idx (.var 3) (.cst (.int 1)))))
    (.cons (.iff (.and (.cmp .Eq (.var 5) (.cst (.int 0))) (.cmp .Eq (.bin .Mult (.var 8) (.idx (.var 3) (.cst (.int 1)))) (.bin .Mult (.idx (.var 3) (.cst (.int 0))) (.var 6))))
      (.cons (.set 8 (.bin .Sub (.var 8) (.cst (.int 1))))
      .nil)
      .nil)
    (.cons (.iff (.cmp .LtE (.var 7) (.var 8))
      (.cons (.set 9 (.ife (.cmp .Gt (.var 7) (.cst (.int 0))) (.var 7) (.blt .min2 (.cons (.var 8) (.cons (.cst (.int 0)) .nil)))))
      (.cons (.ret (.tup (.cons (.var 9) (.cons (.var 6) .nil))))
      .nil))
      .nil)
    .nil))))))
  (.cons (.ret (.cst .non))
  .nil)))
def d__law_simplest : DefI := ⟨"_law_simplest", topS 56, ["span", "most"], ["span", "most", "low", "high", "low_in", "high_in", "bottom", "first", "last", "top"], ir__law_simplest⟩
def ir__law_narrow : CSs :=
  (.cons (.set 1 (.bin .Add (.bin .Pow (.cst (.int 10)) (.cst (.int 6))) (.cal 32 (.cons (.var 0) (.cons (.bin .Mult (.cst (.int 9)) (.bin .Pow (.cst (.int 10)) (.cst (.int 9)))) .nil)))))
  (.cons (.set 2 (.cal 34 (.cons (.bin .Sub (.cal 32 (.cons (.var 0) (.cons (.bin .Mult (.cst (.int 2)) (.bin .Pow (.cst (.int 10)) (.cst (.int 10)))) .nil))) (.bin .Pow (.cst (.int 10)) (.cst (.int 10)))) (.cons (.var 1) .nil))))
  (.cons (.set 3 (.bin .Mult (.bin .Mult (.cst (.int 2)) (.idx (.var 2) (.cst (.int 1)))) (.idx (.var 2) (.cst (.int 1)))))
  (.cons (.set 4 (.lc (.nm 7) (.sq (.lst (.cons (.neg (.cst (.int 1))) (.cons (.cst (.int 1)) .nil)))) .nil (.cal 34 (.cons (.bin .Add (.bin .Mult (.bin .Mult (.cst (.int 2)) (.idx (.var 2) (.cst (.int 0)))) (.idx (.var 2) (.cst (.int 1)))) (.var 7)) (.cons (.var 3) .nil))) [7]))
  (.cons (.set 5 (.tup (.cons (.cal 32 (.cons (.var 0) (.cons (.cst (.int 2)) .nil))) (.cons (.cal 32 (.cons (.var 0) (.cons (.cst (.int 2)) .nil))) .nil))))
  (.cons (.set 6 (.cal 32 (.cons (.var 0) (.cons (.cst (.int 3)) .nil))))
  (.cons (.iff (.cmp .Eq (.var 6) (.cst (.int 0)))
    (.cons (.ret (.tup (.cons (.tup (.cons (.var 2) (.cons (.idx (.var 4) (.cst (.int 1))) (.cons (.cst (.int 1)) (.cons (.idx (.var 5) (.cst (.int 1))) .nil))))) (.cons (.var 2) .nil))))
    .nil)
    .nil)
  (.cons (.iff (.cmp .Eq (.var 6) (.cst (.int 1)))
    (.cons (.ret (.tup (.cons (.tup (.cons (.idx (.var 4) (.cst (.int 0))) (.cons (.var 2) (.cons (.idx (.var 5) (.cst (.int 0))) (.cons (.cst (.int 1)) .nil))))) (.cons (.var 2) .nil))))
    .nil)
    .nil)
  (.cons (.ret (.tup (.cons (.bin .Add (.tup (.cons (.idx (.var 4) (.cst (.int 0))) (.cons (.idx (.var 4) (.cst (.int 1))) .nil))) (.var 5)) (.cons (.var 2) .nil))))
  .nil)))))))))
def d__law_narrow : DefI := ⟨"_law_narrow", topS 57, ["source"], ["source", "bottom", "middle", "far", "ends", "flags", "way", "side"], ir__law_narrow⟩
def ir__law_wide : CSs :=
  (.cons (.set 1 (.cal 34 (.cons (.bin .Sub (.cal 32 (.cons (.var 0) (.cons (.cst (.int 2401)) .nil))) (.cst (.int 1200))) (.cons (.bin .Add (.cst (.int 1)) (.cal 32 (.cons (.var 0) (.cons (.cst (.int 400)) .nil)))) .nil))))
  (.cons (.iff (.cmp .Eq (.cal 32 (.cons (.var 0) (.cons (.cst (.int 6)) .nil))) (.cst (.int 0)))
    (.cons (.ret (.tup (.cons (.var 1) (.cons (.var 1) (.cons (.cst (.int 1)) (.cons (.cst (.int 1)) .nil))))))
    .nil)
    .nil)
  (.cons (.set 2 (.cal 34 (.cons (.bin .Add (.bin .Mult (.idx (.var 1) (.cst (.int 0))) (.cst (.int 400))) (.bin .Mult (.idx (.var 1) (.cst (.int 1))) (.bin .Add (.cst (.int 1)) (.cal 32 (.cons (.var 0) (.cons (.idx (.lst (.cons (.cst (.int 3)) (.cons (.cst (.int 40)) (.cons (.cst (.int 900)) .nil)))) (.cal 32 (.cons (.var 0) (.cons (.cst (.int 3)) .nil)))) .nil)))))) (.cons (.bin .Mult (.idx (.var 1) (.cst (.int 1))) (.cst (.int 400))) .nil))))
  (.cons (.ret (.tup (.cons (.var 1) (.cons (.var 2) (.cons (.cal 32 (.cons (.var 0) (.cons (.cst (.int 2)) .nil))) (.cons (.cal 32 (.cons (.var 0) (.cons (.cst (.int 2)) .nil))) .nil))))))
  .nil))))
def d__law_wide : DefI := ⟨"_law_wide", topS 58, ["source"], ["source", "low", "high"], ir__law_wide⟩
def ir_law : CSs :=
  (.cons (.for (.nm 1) (.r1 (.blt .max2 (.cons (.cst (.int 1)) (.cons (.blt .min2 (.cons (.cst (.int 3)) (.cons (.blt .len (.cons (.var 0) .nil)) .nil))) .nil))))
    (.cons (.set 2 (.cal 31 (.cons (.var 0) (.cons (.var 1) .nil))))
    (.cons (.for (.nm 3) (.r1 (.cst (.int 3)))
      (.cons (.set 4 (.lc (.nm 16) (.r1 (.cal 32 (.cons (.var 2) (.cons (.idx (.lst (.cons (.cst (.int 10)) (.cons (.cst (.int 31)) .nil))) (.bin .FloorDiv (.cal 32 (.cons (.var 2) (.cons (.cst (.int 3)) .nil))) (.cst (.int 2)))) .nil)))) .nil (.cal 42 (.cons (.var 2) (.cons (.var 3) .nil))) [16]))
      (.cons (.par 5 6 (.cal 43 (.cons (.var 4) .nil)) (.blt .repr (.cons (.var 4) .nil)))
      (.cons (.set 7 (.cal 34 (.cons (.bin .Mult (.bin .Add (.cst (.int 1)) (.cal 32 (.cons (.var 2) (.cons (.cst (.int 60)) .nil)))) (.bin .Sub (.cst (.int 1)) (.bin .Mult (.cst (.int 2)) (.cal 32 (.cons (.var 2) (.cons (.cst (.int 2)) .nil)))))) (.cons (.bin .Add (.cst (.int 1)) (.cal 32 (.cons (.var 2) (.cons (.cst (.int 60)) .nil)))) .nil))))
      (.cons (.set 8 (.cal 34 (.cons (.bin .Sub (.cal 32 (.cons (.var 2) (.cons (.cst (.int 121)) .nil))) (.cst (.int 60))) (.cons (.bin .Add (.cst (.int 1)) (.cal 32 (.cons (.var 2) (.cons (.cst (.int 60)) .nil)))) .nil))))
      (.cons (.set 9 (.cal 45 (.cons (.var 5) (.cons (.var 7) (.cons (.var 8) .nil)))))
      (.cons (.set 10 (.lst (.cons (.cal 28 (.cons (.var 5) (.cons (.var 7) (.cons (.var 8) .nil)))) (.cons (.cak 28 .nil ["q", "spans", "p"] (.cons (.var 8) (.cons (.var 5) (.cons (.var 7) .nil))) [1, 2, 0] 0) (.cons (.cal 28 (.cons (.cal 26 (.cons (.var 4) .nil)) (.cons (.var 7) (.cons (.var 8) .nil)))) .nil)))))
      (.cons (.iff (.or (.not (.cal 33 (.cons (.var 10) (.cons (.lst (.cons (.var 9) (.cons (.var 9) (.cons (.var 9) .nil)))) .nil)))) (.cmp .NotEq (.blt .repr (.cons (.var 4) .nil)) (.var 6)))
        (.cons (.ret (.cst (.bl false)))
        .nil)
        .nil)
      (.cons (.set 11 (.tup (.cons (.cal 34 (.cons (.idx (.var 7) (.cst (.int 1))) (.cons (.idx (.var 7) (.cst (.int 0))) .nil))) (.cons (.cal 34 (.cons (.bin .Mult (.neg (.idx (.var 8) (.cst (.int 0)))) (.idx (.var 7) (.cst (.int 1)))) (.cons (.bin .Mult (.idx (.var 8) (.cst (.int 1))) (.idx (.var 7) (.cst (.int 0)))) .nil))) .nil))))
      (.cons (.iff (.not (.cal 33 (.cons (.cal 28 (.cons (.idx (.var 10) (.cst (.int 0))) (.cons (.idx (.var 11) (.cst (.int 0))) (.cons (.idx (.var 11) (.cst (.int 1))) .nil)))) (.cons (.var 5) .nil))))
        (.cons (.ret (.cst (.bl false)))
        .nil)
        .nil)
      (.cons (.set 12 (.tup (.cons (.cst (.int 0)) (.cons (.cst (.int 1)) .nil))))
      (.cons (.for (.nm 13) (.sq (.var 5))
        (.cons (.set 12 (.cal 44 (.cons (.var 12) (.cons (.tup (.cons (.cst (.int 1)) (.cons (.cst (.int 1)) .nil))) (.cons (.cal 44 (.cons (.idx (.var 13) (.cst (.int 0))) (.cons (.tup (.cons (.neg (.cst (.int 1))) (.cons (.cst (.int 1)) .nil))) (.cons (.idx (.var 13) (.cst (.int 1))) .nil)))) .nil)))))
        .nil))
      (.cons (.set 14 (.cal 44 (.cons (.var 12) (.cons (.tup (.cons (.blt .abs (.cons (.idx (.var 7) (.cst (.int 0))) .nil)) (.cons (.idx (.var 7) (.cst (.int 1))) .nil))) (.cons (.tup (.cons (.cst (.int 0)) (.cons (.cst (.int 1)) .nil))) .nil)))))
      (.cons (.iff (.not (.cal 33 (.cons (.lst (.cons (.cal 29 (.cons (.var 5) .nil)) (.cons (.cak 29 .nil ["spans"] (.cons (.var 5) .nil) [0] 0) (.cons (.cal 29 (.cons (.var 9) .nil)) .nil)))) (.cons (.lst (.cons (.var 12) (.cons (.var 12) (.cons (.var 14) .nil)))) .nil))))
        (.cons (.ret (.cst (.bl false)))
        .nil)
        .nil)
      (.cons (.for (.nm 13) (.sq (.slc (.var 4) .nil (.cons (.cst (.int 8)) .nil)))
        (.cons (.for (.nm 15) (.sq (.lst (.cons (.idx (.var 13) (.cst (.int 0))) (.cons (.idx (.var 13) (.cst (.int 1))) .nil))))
          (.cons (.iff (.not (.cal 33 (.cons (.cal 27 (.cons (.var 9) (.cons (.cal 44 (.cons (.var 15) (.cons (.var 7) (.cons (.var 8) .nil)))) .nil))) (.cons (.cal 37 (.cons (.var 5) (.cons (.var 15) .nil))) .nil))))
            (.cons (.ret (.cst (.bl false)))
            .nil)
            .nil)
          .nil))
        .nil))
      .nil)))))))))))))))
    (.cons (.for (.nm 3) (.r1 (.cst (.int 8)))
      (.cons (.set 13 (.ife (.cmp .Lt (.var 3) (.cst (.int 5))) (.cal 48 (.cons (.var 2) .nil)) (.cal 42 (.cons (.var 2) (.cons (.bin .Mod (.blt .int (.cons (.var 3) .nil)) (.cst (.int 3))) .nil)))))
      (.cons (.set 9 (.cal 46 (.cons (.var 13) (.cons (.cst (.int 4000)) .nil))))
      (.cons (.iff (.not (.cal 33 (.cons (.lst (.cons (.cal 30 (.cons (.var 13) .nil)) (.cons (.cak 30 .nil ["span"] (.cons (.var 13) .nil) [0] 0) .nil))) (.cons (.lst (.cons (.var 9) (.cons (.var 9) .nil))) .nil))))
        (.cons (.ret (.cst (.bl false)))
        .nil)
        .nil)
      (.cons (.unp [13, 9] (.cal 47 (.cons (.var 2) .nil)))
      (.cons (.iff (.not (.cal 33 (.cons (.cal 30 (.cons (.var 13) .nil)) (.cons (.var 9) .nil))))
        (.cons (.ret (.cst (.bl false)))
        .nil)
        .nil)
      .nil))))))
    .nil))))
  (.cons (.ret (.cst (.bl true)))
  .nil))
def d_law : DefI := ⟨"law", topS 59, ["script"], ["script", "place", "source", "turn", "listed", "spans", "kept", "p", "q", "due", "told", "back", "total", "span", "size", "x", "step"], ir_law⟩
def KW : List (Nat × Nat × List Str × List Nat) := [(28, 0, ["q", "spans", "p"], [1, 2, 0]), (29, 0, ["spans"], [0]), (30, 0, ["span"], [0])]
def BN : List Str := ["abs", "all", "bool", "int", "isinstance", "len", "list", "max", "min", "range", "repr", "reversed", "set", "sorted", "str", "tuple", "zip"]
def GC : Bool := true
def GD : Bool := true
def LC : Bool := true
def GL : List (Str × D) := []
def Ds : List DefI := [d_is_integer, d_is_below, d_made, d_plus, d_minus, d_whole_of, d_is_fraction, d_check_fraction, d_first_whole, d_last_whole, d_simplest_within, d_is_span, d_scale_of, d_cuts_of, d_spans_from, d_swept, d_in_either, d_is_spans, d_check_spans, d_joined, d_melted, d_has_in, d_number_scaled, d_span_scaled, d_long_of, d_check_factor, d_spans_of, d_contains, d_scaled, d_length_of, d_simplest_in, d__law_begin, d__law_pick, d__law_same, d__law_frac, d__law_less, d__law_scale, d__law_within, d__law_places, d__law_cell, d__law_listed, d__law_end, d__law_span, d__law_due, d__law_scaled, d__law_scaled_list, d__law_simplest, d__law_narrow, d__law_wide]
-- 0:is_integer 1:is_below 2:made 3:plus 4:minus 5:whole_of 6:is_fraction 7:check_fraction 8:first_whole 9:last_whole 10:simplest_within 11:is_span 12:scale_of 13:cuts_of 14:spans_from 15:swept 16:in_either 17:is_spans 18:check_spans 19:joined 20:melted 21:has_in 22:number_scaled 23:span_scaled 24:long_of 25:check_factor 26:spans_of 27:contains 28:scaled 29:length_of 30:simplest_in 31:_law_begin 32:_law_pick 33:_law_same 34:_law_frac 35:_law_less 36:_law_scale 37:_law_within 38:_law_places 39:_law_cell 40:_law_listed 41:_law_end 42:_law_span 43:_law_due 44:_law_scaled 45:_law_scaled_list 46:_law_simplest 47:_law_narrow 48:_law_wide 49:law
theorem ds_ok : Ds.all (fun d => d.ok (Ds.map (·.name)) KW BN GC false LC GL) = true := by decide +kernel
theorem law_okB : d_law.ok (Ds.map (·.name)) KW BN GC true LC GL = true := by decide +kernel
end K30

set_option Elab.async false
set_option linter.all false
set_option maxRecDepth 100000
namespace K30
open PySem L2 Rf
def SpB (S : Int) (L : List Rf.Sp) : Prop := 0 < S ∧ S.natAbs < 2 ^ 8000 ∧ dvL S L ∧ (∀ p ∈ L, Bd 1000 p.lo ∧ Bd 1000 p.hi) ∧ L.length ≤ 400
/-- a rule by its def -/
def Rul (f : Nat) (x : Str) (g : Bool → Bool → Bool) : Prop := f = 16 ∧ x = "in_either" ∧ g = fun a b => a || b
def tupS (L : List Rf.Sp) : D := .tup (L.map encS)
def lstS (L : List Rf.Sp) : D := .lst (L.map encS)
def sp (k : Nat) : Nat → DSpec
  | 0 => fun ds μ Q => ∃ d, ds = [d] ∧ okT d = true ∧ Q (.bl (isIntB d)) μ
  | 1 => fun ds μ Q => ∃ d m, ds = [d, .int m] ∧ okT d = true ∧ Q (.bl (blwB d m)) μ
  | 2 => fun ds μ Q => ∃ t b : Int, ds = [.int t, .int b] ∧ 0 < b ∧ b.natAbs < 2 ^ 9000 ∧ Q (enc (Rat.divInt t b)) μ
  | 3 => fun ds μ Q => ∃ x y, ds = [enc x, enc y] ∧ Bd 4000 x ∧ Bd 4000 y ∧ Q (enc (x + y)) μ
  | 4 => fun ds μ Q => ∃ x y, ds = [enc x, enc y] ∧ Bd 4000 x ∧ Bd 4000 y ∧ Q (enc (x - y)) μ
  | 5 => fun ds μ Q => ∃ x, ds = [enc x] ∧ Bd 9000 x ∧ Q (.int x.floor) μ
  | 6 => fun ds μ Q => ∃ d, ds = [d] ∧ okF d = true ∧ Q (.bl (isFrB d)) μ
  | 7 => fun ds μ Q => ∃ x, ds = [enc x] ∧ Q .non μ
  | 8 => fun ds μ Q => ∃ x f, ds = [enc x, .int (b01 f)] ∧ Bd 9000 x ∧ Q (.int (fstW x f)) μ
  | 9 => fun ds μ Q => ∃ x f, ds = [enc x, .int (b01 f)] ∧ Bd 9000 x ∧ Q (.int (lstW x f)) μ
  | 10 => fun ds μ Q => ∃ p, ds = [encS p] ∧ p.ok ∧ Bd 200 p.lo ∧ Bd 200 p.hi ∧ ∀ t, Smp p t → Q (enc t) μ
  | 11 => fun ds μ Q => ∃ p, ds = [encS p] ∧ p.ok ∧ Bd 4000 p.lo ∧ Bd 4000 p.hi ∧ Q (.bl true) μ
  | 12 => fun ds μ Q => ∃ L S, ds = [tupS L] ∧ SpB S L ∧ ∀ s, 0 < s → s ∣ S → dvL s L → Q (.int s) μ
  | 13 => fun ds μ Q => ∃ L S s, ds = [tupS L, .int s] ∧ SpB S L ∧ 0 < s ∧ s ∣ S ∧ dvL s L ∧ Q (.lst ((cutsI s L).map .int)) μ
  | 14 => fun ds μ Q => ∃ (r : List Int) (s : Int), ds = [.lst (r.map .int), .int s] ∧ 0 < s ∧ s.natAbs < 2 ^ 8000 ∧ odd r.length = false ∧ r.length ≤ 2000 ∧ Q (tupS (spF s r)) μ
  | 15 => fun ds μ Q => ∃ (a b : List Int) (f : Nat) (x : Str) (g : Bool → Bool → Bool), ds = [.lst (a.map .int), .lst (b.map .int), .fn f x] ∧ Rul f x g ∧ Asc a ∧ Asc b ∧ a.length + b.length ≤ 2000 ∧ ∀ r, IsSw g a b r → Q (.lst (r.map .int)) μ
  | 16 => fun ds μ Q => ∃ a b, ds = [.bl a, .bl b] ∧ Q (.bl (a || b)) μ
  | 17 => fun ds μ Q => ∃ L S, ds = [tupS L] ∧ SpB S L ∧ Canon L ∧ Q (.bl true) μ
  | 18 => fun ds μ Q => ∃ L S, ds = [tupS L] ∧ SpB S L ∧ Canon L ∧ Q .non μ
  | 19 => fun ds μ Q => ∃ L M S f x g, ds = [tupS L, tupS M, .fn f x] ∧ Rul f x g ∧ SpB S L ∧ SpB S M ∧ Canon L ∧ Canon M ∧ ∀ R, IsJn g L M R → Q (tupS R) μ
  | 20 => fun ds μ Q => ∃ L S, ds = [lstS L] ∧ SpB S L ∧ (∀ p ∈ L, p.ok) ∧ L.length ≤ 64 ∧ ∀ R, Canon R → (∀ c ∈ cutsC R, c ∈ cutsC L) → (∀ c, indC (cutsC R) c = L.any (covers · c)) → Q (tupS R) μ
  | 21 => fun ds μ Q => ∃ L S x, ds = [tupS L, enc x] ∧ SpB S L ∧ dvs S x ∧ Bd 1000 x ∧ Q (.bl (indC (cutsC L) (x, false))) μ
  | 22 => fun ds μ Q => ∃ x p q, ds = [enc x, enc p, enc q] ∧ Bd 1000 x ∧ Bd 1000 p ∧ Bd 1000 q ∧ Q (enc (x * p + q)) μ
  | 23 => fun ds μ Q => ∃ s p q, ds = [encS s, enc p, enc q] ∧ Bd 1000 s.lo ∧ Bd 1000 s.hi ∧ Bd 1000 p ∧ Bd 1000 q ∧ Q (encS (scSp p q s)) μ
  | 24 => fun ds μ Q => ∃ L m, ds = [tupS L] ∧ (∀ p ∈ L, Bd m p.lo ∧ Bd m p.hi) ∧ L.length * (2 * m + 2) ≤ 3900 ∧ m ≤ 1000 ∧ Q (enc (lenF 0 L)) μ
  | 25 => fun ds μ Q => ∃ x, ds = [enc x] ∧ x ≠ 0 ∧ Q .non μ
  | 26 => fun ds μ Q => ∃ L S, ds = [lstS L] ∧ SpB S L ∧ (∀ p ∈ L, p.ok) ∧ L.length ≤ 64 ∧ ∀ R, Canon R → (∀ c ∈ cutsC R, c ∈ cutsC L) → (∀ c, indC (cutsC R) c = L.any (covers · c)) → Q (tupS R) μ
  | 27 => fun ds μ Q => ∃ L S x, ds = [tupS L, enc x] ∧ SpB S L ∧ Canon L ∧ dvs S x ∧ Bd 1000 x ∧ Q (.bl (indC (cutsC L) (x, false))) μ
  | 28 => fun ds μ Q => ∃ L S p q, ds = [tupS L, enc p, enc q] ∧ SpB S L ∧ Canon L ∧ Bd 1000 p ∧ Bd 1000 q ∧ p ≠ 0 ∧ Q (tupS (scL p q L)) μ
  | 29 => fun ds μ Q => ∃ L S m, ds = [tupS L] ∧ SpB S L ∧ Canon L ∧ (∀ p ∈ L, Bd m p.lo ∧ Bd m p.hi) ∧ L.length * (2 * m + 2) ≤ 3900 ∧ m ≤ 1000 ∧ Q (enc (lenF 0 L)) μ
  | 30 => fun ds μ Q => ∃ p, ds = [encS p] ∧ p.ok ∧ Bd 200 p.lo ∧ Bd 200 p.hi ∧ ∀ t, Smp p t → Q (enc t) μ
  | 31 => fun ds μ Q => ∃ (ns : List Int) (place : Int), ds = [.scr (ns.map .int), .int place] ∧ ns.length ≤ 63 ∧ (0 ≤ place ∧ place < 3) ∧ ∀ μ', WellOk μ.length 0 μ' → Q (.cel μ.length) μ'
  | 32 => fun ds μ Q => ∃ (n b : Nat) (many : Int), ds = [.cel n, .int many] ∧ WellOk n b μ ∧ b ≤ BIG ∧ 0 < many ∧ many.natAbs < 2 ^ 400 ∧ ∀ r μ', Wl n (b + 1) μ μ' → 0 ≤ r → r < many → Q (.int r) μ'
  | 33 => fun ds μ Q => ∃ d, ds = [d, d] ∧ Sm k d ∧ Q (.bl true) μ
  | 34 => fun ds μ Q => ∃ t b : Int, ds = [.int t, .int b] ∧ b ≠ 0 ∧ b.natAbs < 2 ^ 9000 ∧ Q (enc (Rat.divInt t b)) μ
  | 35 => fun ds μ Q => ∃ x y, ds = [enc x, enc y] ∧ Bd 4000 x ∧ Bd 4000 y ∧ Q (.bl (decide (x < y))) μ
  | 36 => fun ds μ Q => ∃ (xs : List Rat) (S : Int), ds = [.lst (xs.map enc)] ∧ 0 < S ∧ S.natAbs < 2 ^ 8000 ∧ (∀ x ∈ xs, dvs S x) ∧ xs.length ≤ 1000 ∧ ∀ s, 0 < s → s ∣ S → (∀ x ∈ xs, dvs s x) → Q (.int s) μ
  | 37 => fun ds μ Q => ∃ L x, (ds = [lstS L, enc x] ∨ ds = [tupS L, enc x]) ∧ (∀ p ∈ L, Bd 2000 p.lo ∧ Bd 2000 p.hi) ∧ Bd 4000 x ∧ Q (.bl (L.any fun p => within p x)) μ
  | 38 => fun ds μ Q => ∃ L S, ds = [lstS L] ∧ SpB S L ∧ ∀ s ms, 0 < s → s ∣ S → dvL s L → Asc ms → (∀ k, k ∈ ms ↔ ∃ p ∈ L, k = atS s p.lo ∨ k = atS s p.hi) → ms.length ≤ 2 * L.length → Q (.tup [.int s, .lst (ms.map .int)]) μ
  | 39 => fun ds μ Q => ∃ (s : Int) (ms : List Int) (i : Nat), ds = [.int s, .lst (ms.map .int), .int i] ∧ 0 < s ∧ s.natAbs < 2 ^ 8000 ∧ i + 1 < 2 * ms.length ∧ Q (enc (smpl s ms i)) μ
  | 40 => fun ds μ Q => ∃ (s : Int) (ms : List Int) (marks : List Bool), ds = [.int s, .lst (ms.map .int), .lst (marks.map .bl)] ∧ 0 < s ∧ s.natAbs < 2 ^ 8000 ∧ marks.length + 1 = 2 * ms.length ∧ marks.length ≤ 1000 ∧ Q (tupS (lst (kpM s ms) marks 0 none)) μ
  | 41 => fun ds μ Q => ∃ (n b : Nat) (way : Int), ds = [.cel n, .int way] ∧ WellOk n b μ ∧ b ≤ 900000000 ∧ 0 ≤ way ∧ way ≤ 2 ∧ ∀ x μ', Wl n (b + 2) μ μ' → Bd 14 x → x.den ≤ 61 → Q (enc x) μ'
  | 42 => fun ds μ Q => ∃ (n b : Nat) (way : Int), ds = [.cel n, .int way] ∧ WellOk n b μ ∧ b ≤ 800000000 ∧ 0 ≤ way ∧ way ≤ 2 ∧ ∀ p μ', Wl n (b + 10) μ μ' → p.ok → Bd 14 p.lo → Bd 14 p.hi → p.lo.den ≤ 61 → p.hi.den ≤ 61 → Q (encS p) μ'
  | 43 => fun ds μ Q => ∃ L S, ds = [lstS L] ∧ SpB S L ∧ S.natAbs < 2 ^ 2000 ∧ (∀ p ∈ L, p.ok) ∧ L.length ≤ 64 ∧ ∀ R, Canon R → (∀ c ∈ cutsC R, c ∈ cutsC L) → (∀ c, indC (cutsC R) c = L.any (covers · c)) → Q (tupS R) μ
  | 44 => fun ds μ Q => ∃ x p q, ds = [enc x, enc p, enc q] ∧ Bd 4000 x ∧ Bd 1000 p ∧ Bd 3000 q ∧ Q (enc (x * p + q)) μ
  | 45 => fun ds μ Q => ∃ L p q, ds = [tupS L, enc p, enc q] ∧ L.length ≤ 400 ∧ (∀ p ∈ L, Bd 1000 p.lo ∧ Bd 1000 p.hi) ∧ Bd 1000 p ∧ Bd 1000 q ∧ p ≠ 0 ∧ Q (tupS (scL p q L)) μ
  | 46 => fun ds μ Q => ∃ p, ds = [encS p, .int 4000] ∧ p.ok ∧ Bd 200 p.lo ∧ Bd 200 p.hi ∧ (∃ y, inJ p.lo p.lf (some p.hi) p.hf y ∧ y.den ≤ 4000) ∧ ∀ t, Smp p t → Q (enc t) μ
  | 47 => fun ds μ Q => ∃ n b : Nat, ds = [.cel n] ∧ WellOk n b μ ∧ b ≤ 800000000 ∧ ∀ p m μ', Wl n (b + 10) μ μ' → p.ok → Bd 200 p.lo → Bd 200 p.hi → (∀ t, Smp p t → t = m) → Q (.tup [encS p, enc m]) μ'
  | 48 => fun ds μ Q => ∃ n b : Nat, ds = [.cel n] ∧ WellOk n b μ ∧ b ≤ 800000000 ∧ ∀ p μ', Wl n (b + 10) μ μ' → p.ok → Bd 200 p.lo → Bd 200 p.hi → (∃ y, inJ p.lo p.lf (some p.hi) p.hf y ∧ y.den ≤ 4000) → Q (encS p) μ'
  | _ => fun _ _ _ => False
def lv : Nat → Nat
  | 0 | 2 | 5 | 12 | 13 | 16 | 31 | 32 | 33 | 34 | 35 | 46 => 1
  | 1 | 3 | 4 | 6 | 8 | 9 | 14 | 15 | 21 | 36 | 37 | 39 | 40 | 41 | 44 | 47 | 48 => 2
  | 7 | 10 | 11 | 19 | 22 | 24 | 38 | 42 | 45 => 3
  | 17 | 20 | 23 | 25 | 30 | 43 => 4
  | 18 | 26 => 5
  | 27 | 28 | 29 => 6
  | _ => 1
def T (k : Nat) : Tab := fun f ds μ Q => lv f ≤ k ∧ sp k f ds μ Q
def LV : Nat := 6 + 8
theorem tc {k f m : Nat} {ds : List D} {μ : M} {Q : WQ} (hk : m ≤ k) (h : lv f ≤ m) (s : sp k f ds μ Q) : T k f ds μ Q := ⟨Nat.le_trans h hk, s⟩
theorem T_zero : ∀ f ds μ Q, ¬ T 0 f ds μ Q := by
  rintro f ds μ Q ⟨h, _⟩
  unfold lv at h
  split at h <;> omega
end K30


set_option Elab.async false
set_option linter.all false
set_option maxRecDepth 100000
namespace K30
open PySem L2 Rf
section
variable {k : Nat} {μ : M} {Q : WQ}
theorem b_is_integer {d : D} (h : okT d = true) (hq : Q (.bl (isIntB d)) μ) : wDef (T k) 1 ir_is_integer [d] μ Q := by
  have h2 := rt_here (μ0 := μ) hq
  cases d with
  | non => simpa [wDef, ir_is_integer, wSs, wS, wE, wEs, startD, isIntB] using h2
  | bl b => simpa [wDef, ir_is_integer, wSs, wS, wE, wEs, startD, isIntB] using h2
  | int i => simpa [wDef, ir_is_integer, wSs, wS, wE, wEs, startD, isIntB] using h2
  | str i => simpa [wDef, ir_is_integer, wSs, wS, wE, wEs, startD, isIntB] using h2
  | tup i => simpa [wDef, ir_is_integer, wSs, wS, wE, wEs, startD, isIntB] using h2
  | lst i => simpa [wDef, ir_is_integer, wSs, wS, wE, wEs, startD, isIntB] using h2
  | _ => cases h
theorem nat1 (n : Nat) : ((n : Int) = 1) = (n = 1) := propext ⟨fun h => by omega, fun h => by omega⟩
theorem c_int (hk : 1 ≤ k) {d : D} {P : WQ} (h : okT d = true) (hq : P (.bl (isIntB d)) μ) : T k 0 [d] μ P := tc hk (by decide) ⟨d, rfl, h, hq⟩
theorem b_is_below (hk : 1 ≤ k) {d : D} {m : Int} (h : okT d = true) (hq : Q (.bl (blwB d m)) μ) : wDef (T k) 2 ir_is_below [d, .int m] μ Q := by
  have h2 := rt_here (μ0 := μ) hq
  simp only [wDef, ir_is_below, startD]
  rw [wS1]
  simp only [wS, wE, wEs]
  simp
  refine c_int hk h ?_
  cases d with
  | int i =>
    simp [isIntB, wCmp, opCmp]
    simp [blwB] at h2
    split
    · rename_i q; simpa [q] using h2
    · rename_i q; simpa [q] using h2
  | _ => simpa [isIntB, blwB] using h2
theorem b_made {t b : Int} (hb : 0 < b) (h2 : b.natAbs < 2 ^ 9000) (hq : Q (enc (Rat.divInt t b)) μ) : wDef (T k) 3 ir_made [.int t, .int b] μ Q := by
  have g : 0 < Nat.gcd t.natAbs b.natAbs := Nat.gcd_pos_of_pos_right _ (by omega)
  have gl : Nat.gcd t.natAbs b.natAbs ≤ b.natAbs := Nat.gcd_le_right _ (by omega)
  have c : ∀ i, CDivW i ((Nat.gcd t.natAbs b.natAbs : Nat) : Int) := fun i => dv (n := 9000) (by omega) (by rw [Int.natAbs_natCast]; omega) (by decide)
  simp only [wDef, ir_made, startD]
  rw [wS1]; simp [wS, wE, wEs, wT, wI, wO, wF, ofE, wCmp, opCmp, setsD]
  rw [wS1]; simp [wS, wE, wEs, wT, wI, wO, wF, ofE, wCmp, opCmp, setsD]
  refine ⟨c _, c _, rt_here ?_⟩
  rw [low_pos hb]
  exact hq
theorem c_made (hk : 1 ≤ k) {t b : Int} {P : WQ} (hb : 0 < b) (h2 : b.natAbs < 2 ^ 9000) (hq : P (enc (Rat.divInt t b)) μ) : T k 2 [.int t, .int b] μ P := tc hk (by decide) ⟨t, b, rfl, hb, h2, hq⟩
theorem den_mul {x y : Rat} (hx : Bd 4000 x) (hy : Bd 4000 y) : (0 : Int) < (x.den : Int) * y.den ∧ ((x.den : Int) * y.den).natAbs < 2 ^ 9000 := by
  have := x.den_pos
  have := y.den_pos
  refine ⟨Int.mul_pos (by omega) (by omega), ?_⟩
  rw [Int.natAbs_mul]
  exact Nat.lt_of_lt_of_le (mul_lt2 hx.2 hy.2) (Nat.pow_le_pow_right (by decide) (by decide))
theorem mww {x y : Rat} {n m : Nat} (hx : Bd n x) (hy : Bd m y) (l : n + m < 1000000) : (CMul x.num y.den ∨ CMulW x.num y.den) ∧ (CMul x.den y.den ∨ CMulW x.den y.den) ∧ (CMul x.num y.num ∨ CMulW x.num y.num) ∧ (CMul x.den y.num ∨ CMulW x.den y.num) :=
  ⟨mw hx.1 (by simpa using hy.2) l, mw (by simpa using hx.2) (by simpa using hy.2) l, mw hx.1 hy.1 l, mw (by simpa using hx.2) hy.1 l⟩
theorem b_plus (hk : 1 ≤ k) {x y : Rat} (hx : Bd 4000 x) (hy : Bd 4000 y) (hq : Q (enc (x + y)) μ) : wDef (T k) 2 ir_plus [enc x, enc y] μ Q := by
  have hd := den_mul hx hy
  have m1 := mww hx hy (by decide)
  have m2 := mww hy hx (by decide)
  simp only [wDef, ir_plus, startD]
  rw [wS1]; simp [wS, wE, wEs]
  refine ⟨m1.1, m2.1, m1.2.1, c_made hk hd.1 hd.2 ?_⟩
  rw [di_add]
  exact rt_here hq
theorem b_minus (hk : 1 ≤ k) {x y : Rat} (hx : Bd 4000 x) (hy : Bd 4000 y) (hq : Q (enc (x - y)) μ) : wDef (T k) 2 ir_minus [enc x, enc y] μ Q := by
  have hd := den_mul hx hy
  have m1 := mww hx hy (by decide)
  have m2 := mww hy hx (by decide)
  simp only [wDef, ir_minus, startD]
  rw [wS1]; simp [wS, wE, wEs]
  refine ⟨m1.1, m2.1, m1.2.1, c_made hk hd.1 hd.2 ?_⟩
  rw [di_sub]
  exact rt_here hq
theorem b_whole_of {x : Rat} (hx : Bd 9000 x) (hq : Q (.int x.floor) μ) : wDef (T k) 1 ir_whole_of [enc x] μ Q := by
  have := x.den_pos
  simp only [wDef, ir_whole_of, startD]
  rw [wS1]; simp [wS, wE, wEs]
  refine ⟨dv (n := 9000) (by omega) (by simpa using hx.2) (by decide), ?_⟩
  rw [fl_num]
  exact rt_here hq
theorem b_is_fraction (hk : 1 ≤ k) {d : D} (h : okF d = true) (hq : Q (.bl (isFrB d)) μ) : wDef (T k) 3 ir_is_fraction [d] μ Q := by
  have h2 := rt_here (μ0 := μ) hq
  simp only [wDef, ir_is_fraction, startD]
  have notT : (∀ xs, d ≠ .tup xs) → okT d = true → isFrB d = false → wSs (T k) ir_is_fraction { nx := fun x μ' => rtD μ Q D.non μ', rt := rtD μ Q } [some d, none, none] μ := by
    intro ht ho hf
    rw [hf] at h2
    unfold ir_is_fraction
    cases d with
    | tup xs => exact absurd rfl (ht xs)
    | non => rw [wS1]; simp [wS, wE, wEs, wT, ofE]; rw [wS1]; simpa [wS, wE] using h2
    | bl b => rw [wS1]; simp [wS, wE, wEs, wT, ofE]; rw [wS1]; simpa [wS, wE] using h2
    | int i => rw [wS1]; simp [wS, wE, wEs, wT, ofE]; rw [wS1]; simpa [wS, wE] using h2
    | str i => rw [wS1]; simp [wS, wE, wEs, wT, ofE]; rw [wS1]; simpa [wS, wE] using h2
    | lst i => rw [wS1]; simp [wS, wE, wEs, wT, ofE]; rw [wS1]; simpa [wS, wE] using h2
    | _ => cases ho
  unfold ir_is_fraction at notT
  cases d with
  | tup xs =>
    match xs, h with
    | [a, b], h =>
      simp only [okF, Bool.and_eq_true] at h
      rw [wS1]; simp [wS, wE, wEs, wT, wI, wO, wF, ofE, wCmp, opCmp, setsD]
      rw [wS1]; simp [wS, wE, wEs, wT, wI, wO, wF, ofE, wCmp, opCmp, setsD]
      rw [wS1]
      simp only [wS, wE, wEs]
      simp
      refine c_int hk h.1 ?_
      cases a with
      | int i =>
        simp [isIntB]
        refine c_int hk h.2 ?_
        cases b with
        | int j =>
          simp [isIntB, wCmp, opCmp]
          simp only [isFrB] at h2
          split
          · rename_i q; simpa [q, nat1] using h2
          · rename_i q; simpa [q, nat1] using h2
        | _ => simpa [isIntB, isFrB] using h2
      | _ => simpa [isIntB, isFrB] using h2
    | [], h => rw [wS1]; simp [wS, wE, wEs, wT, ofE, wCmp, opCmp]; rw [wS1]; simpa [wS, wE, isFrB] using h2
    | [a], h => rw [wS1]; simp [wS, wE, wEs, wT, ofE, wCmp, opCmp]; rw [wS1]; simpa [wS, wE, isFrB] using h2
    | a :: b :: c :: r, h =>
      rw [wS1]
      have : ¬ ((r.length : Int) + 1 + 1 + 1 = 2) := by omega
      simp [wS, wE, wEs, wT, ofE, wCmp, opCmp, this]
      rw [wS1]; simpa [wS, wE, isFrB] using h2
  | non => exact notT (fun xs z => by cases z) h rfl
  | bl b => exact notT (fun xs z => by cases z) h rfl
  | int b => exact notT (fun xs z => by cases z) h rfl
  | str b => exact notT (fun xs z => by cases z) h rfl
  | lst b => exact notT (fun xs z => by cases z) h rfl
  | _ => cases h
theorem c_fr (hk : 2 ≤ k) {x : Rat} {P : WQ} (hq : P (.bl true) μ) : T k 6 [enc x] μ P := tc hk (by decide) ⟨enc x, rfl, rfl, by rw [fr_enc]; exact hq⟩
theorem b_check_fraction (hk : 2 ≤ k) {x : Rat} (hq : Q .non μ) : wDef (T k) 1 ir_check_fraction [enc x] μ Q := by
  simp only [wDef, ir_check_fraction, startD]
  rw [wS1]
  simp only [wS, wT, wE, wEs, ofE]
  simp
  exact c_fr hk (rt_here hq)
theorem b_first_whole (hk : 1 ≤ k) {x : Rat} {f : Bool} (hx : Bd 9000 x) (hq : Q (.int (fstW x f)) μ) : wDef (T k) 3 ir_first_whole [enc x, .int (b01 f)] μ Q := by
  have h2 := rt_here (μ0 := μ) hq
  simp only [wDef, ir_first_whole, startD]
  rw [wS1]
  simp only [wS, wE, wEs]
  simp
  refine tc hk (by decide) ⟨x, rfl, hx, ?_⟩
  try dsimp only
  rw [wS1]
  simp only [wS, wE, wEs, wT, wCmp, opCmp]
  simp
  have e : ((x.den : Int) = 1) ↔ x.den = 1 := by omega
  unfold fstW at h2
  cases f
  · simpa [b01] using h2
  · by_cases h : x.den = 1 <;> simpa [b01, h, nat1] using h2
theorem b_last_whole (hk : 1 ≤ k) {x : Rat} {f : Bool} (hx : Bd 9000 x) (hq : Q (.int (lstW x f)) μ) : wDef (T k) 3 ir_last_whole [enc x, .int (b01 f)] μ Q := by
  have h2 := rt_here (μ0 := μ) hq
  simp only [wDef, ir_last_whole, startD]
  rw [wS1]
  simp only [wS, wE, wEs]
  simp
  refine tc hk (by decide) ⟨x, rfl, hx, ?_⟩
  try dsimp only
  rw [wS1]
  simp only [wS, wE, wEs, wT, wCmp, opCmp]
  simp
  unfold lstW at h2
  cases f
  · by_cases h : x.den = 1 <;> simpa [b01, h, nat1] using h2
  · by_cases h : x.den = 1 <;> simpa [b01, h, nat1] using h2
@[simp] theorem encS0 {p : Rf.Sp} : opIdx (encS p) (.int 0) μ Q = Q (enc p.lo) μ := by simp [encS]
@[simp] theorem encS1 {p : Rf.Sp} : opIdx (encS p) (.int 1) μ Q = Q (enc p.hi) μ := by simp [encS]
@[simp] theorem encS2 {p : Rf.Sp} : opIdx (encS p) (.int 2) μ Q = Q (.int (b01 p.lf)) μ := by simp [encS]
@[simp] theorem encS3 {p : Rf.Sp} : opIdx (encS p) (.int 3) μ Q = Q (.int (b01 p.hf)) μ := by simp [encS]
theorem b_is_span (hk : 2 ≤ k) {p : Rf.Sp} (hp : p.ok) (h1 : Bd 4000 p.lo) (h2 : Bd 4000 p.hi) (hq : Q (.bl true) μ) : wDef (T k) 2 ir_is_span [encS p] μ Q := by
  have m1 := mww h2 h1 (by decide)
  have m2 := mww h1 h2 (by decide)
  have bb : ∀ f : Bool, blwB (.int (b01 f)) 2 = true := by decide
  have hf := rt_here (μ0 := μ) hq
  have okk := ok_iff.mp hp
  simp only [wDef, ir_is_span, startD]
  rw [wS1]
  refine iff_val false (fun P hP => ?_) ?_
  · simp only [wT, wE, wEs, ofE, wCmp, opCmp]
    simp
    have e1 : isiD μ (encS p) (.ty "tuple") = some true := by simp [encS]
    have e2 : lenD μ (encS p) = some 4 := rfl
    simp [e1, e2]
    exact c_fr (by omega) (by simp; exact c_fr (by omega) (by simpa using hP))
  rw [if_neg Bool.false_ne_true, wS0]
  try dsimp only
  rw [wS1]
  refine iff_val false (fun P hP => ?_) ?_
  · simp only [wT, wE, wEs, ofE]
    simp
    refine tc hk (by decide) ⟨_, 2, rfl, rfl, ?_⟩
    rw [bb]
    simp
    refine tc hk (by decide) ⟨_, 2, rfl, rfl, ?_⟩
    rw [bb]
    simpa using hP
  rw [if_neg Bool.false_ne_true, wS0]
  try dsimp only
  rw [wS1]
  simp only [wS, wE, wEs]
  simp
  refine ⟨m1.1, m2.1, ?_⟩
  rw [wS1]
  simp only [wS, wE, wEs, wCmp, opCmp]
  simp
  rcases okk with q | ⟨q, r1, r2⟩
  · have := lt_num.mpr q
    rw [if_pos (by omega)]
    exact hf
  · rw [q, r1, r2]
    simp [b01]
    exact hf
end
end K30


set_option Elab.async false
set_option linter.all false
set_option maxRecDepth 100000
namespace K30
open PySem L2 Rf
theorem dv_lcm {a b S : Int} (ha : 0 < a) (hb : 0 < b) (h1 : a ∣ S) (h2 : b ∣ S) : ((Nat.lcm a.natAbs b.natAbs : Nat) : Int) ∣ S ∧ a ∣ ((Nat.lcm a.natAbs b.natAbs : Nat) : Int) ∧ b ∣ ((Nat.lcm a.natAbs b.natAbs : Nat) : Int) ∧ (0 : Int) < ((Nat.lcm a.natAbs b.natAbs : Nat) : Int) := by
  have p : 0 < Nat.lcm a.natAbs b.natAbs := Nat.lcm_pos (by omega) (by omega)
  refine ⟨?_, ?_, ?_, by omega⟩
  · exact Int.natAbs_dvd_natAbs.mp (by rw [Int.natAbs_natCast]; exact Nat.lcm_dvd (Int.natAbs_dvd_natAbs.mpr h1) (Int.natAbs_dvd_natAbs.mpr h2))
  · exact Int.natAbs_dvd_natAbs.mp (by rw [Int.natAbs_natCast]; exact Nat.dvd_lcm_left _ _)
  · exact Int.natAbs_dvd_natAbs.mp (by rw [Int.natAbs_natCast]; exact Nat.dvd_lcm_right _ _)
theorem log13 {a S : Int} (hS : 0 < S) (h2 : S.natAbs < 2 ^ 8000) (ha : 0 < a) (h : a ∣ S) : a.natAbs.log2 < 13000 := by
  have := Int.le_of_dvd hS h
  have := log_le (n := 8000) (show a.natAbs < 2 ^ 8000 by omega)
  omega
theorem lt8 {a S : Int} (hS : 0 < S) (h2 : S.natAbs < 2 ^ 8000) (ha : 0 < a) (h : a ∣ S) : a.natAbs < 2 ^ 8000 := by
  have := Int.le_of_dvd hS h
  omega
theorem dvs_mono {s t : Int} {x : Rat} (h : dvs s x) (d : s ∣ t) : dvs t x := Int.dvd_trans h d
theorem dvL_mono {s t : Int} {L : List Rf.Sp} (h : dvL s L) (d : s ∣ t) : dvL t L := fun p hp => ⟨dvs_mono (h p hp).1 d, dvs_mono (h p hp).2 d⟩
theorem denp (x : Rat) : (0 : Int) < x.den := by have := x.den_pos; omega
theorem items_S {L : List Rf.Sp} {i : Nat} {x : D} (h : (L.map encS)[i]? = some x) : ∃ p, L[i]? = some p ∧ x = encS p ∧ p ∈ L := by
  rw [List.getElem?_map] at h
  cases e : L[i]? with
  | none => rw [e] at h; cases h
  | some p => rw [e] at h; cases h; exact ⟨p, rfl, rfl, List.mem_of_getElem? e⟩
theorem items_I {L : List Int} {i : Nat} {x : D} (h : (L.map D.int)[i]? = some x) : ∃ p, L[i]? = some p ∧ x = .int p := by
  rw [List.getElem?_map] at h
  cases e : L[i]? with
  | none => rw [e] at h; cases h
  | some p => rw [e] at h; cases h; exact ⟨p, rfl, rfl⟩
theorem nodup_sub {α : Type} [DecidableEq α] : ∀ {l m : List α}, l.Nodup → (∀ x ∈ l, x ∈ m) → l.length ≤ m.length
  | [], _, _, _ => Nat.zero_le _
  | x :: l, m, hn, h => by
    obtain ⟨h1, h2⟩ := List.nodup_cons.mp hn
    have hx := h x (by simp)
    have := nodup_sub (l := l) (m := m.erase x) h2 fun y hy => (List.mem_erase_of_ne (fun e => h1 (by rw [← e]; exact hy))).mpr (h y (List.mem_cons_of_mem _ hy))
    rw [List.length_erase_of_mem hx] at this
    have := List.length_pos_of_mem hx
    rw [List.length_cons]
    omega
theorem take_snoc {α : Type} {L : List α} {i : Nat} {p : α} (h : L[i]? = some p) : L.take (i + 1) = L.take i ++ [p] := by rw [List.take_add_one, h]; rfl
section
variable {k : Nat} {μ : M} {Q : WQ}
theorem r_lcm {i j : Int} : opBlt .lcm [.int i, .int j] μ Q = ((i.natAbs.log2 < 13000 ∧ j.natAbs.log2 < 13000) ∧ Q (.int ((Nat.lcm i.natAbs j.natAbs : Nat) : Int)) μ) := rfl
theorem b_scale_of {L : List Rf.Sp} {S : Int} (hS : SpB S L) (hq : ∀ s, 0 < s → s ∣ S → dvL s L → Q (.int s) μ) : wDef (T k) 5 ir_scale_of [tupS L] μ Q := by
  obtain ⟨s0, s1, s2, s3, s4⟩ := hS
  simp only [wDef, ir_scale_of, startD, tupS]
  rw [wS1]; simp [wS, wE, wEs, wT, wI, wO, wF, ofE, wCmp, opCmp, setsD]
  rw [wS1]
  simp only [wS, wI, wE, r_getV0, r_getVs, srcOf, asSq, Option.map_some]
  refine ⟨fun i ρ μ' => μ' = μ ∧ ∃ (s : Int) (o2 o3 o4 : Option D), ρ = [some (.tup (L.map encS)), some (.int s), o2, o3, o4] ∧ 0 < s ∧ s ∣ S ∧ dvL s (L.take i), ⟨rfl, 1, _, _, _, rfl, by decide, Int.one_dvd _, fun p hp => by simp at hp⟩, fun _ _ _ _ _ _ _ h => (by cases h), ?_, ?_⟩
  · rintro i x ρ μ' hx ⟨rfl, s, o2, o3, o4, rfl, p0, p1, p2⟩
    obtain ⟨p, hp, rfl, hm⟩ := items_S hx
    have h1 := denp p.lo
    have h2 := denp p.hi
    obtain ⟨d1, d2⟩ := s2 p hm
    obtain ⟨l1, l2, l3, l4⟩ := dv_lcm h1 h2 d1 d2
    obtain ⟨k1, k2, k3, k4⟩ := dv_lcm p0 l4 p1 l1
    refine ⟨_, rfl, ?_⟩
    rw [wS1]
    simp only [wS, wE, wEs, List.set, r_getV0, r_getVs, enc1, r_lcm]
    refine ⟨⟨log13 s0 s1 h1 d1, log13 s0 s1 h2 d2⟩, ⟨log13 s0 s1 p0 p1, log13 s0 s1 l4 l1⟩, ?_⟩
    refine ⟨rfl, _, _, _, _, rfl, k4, k1, fun q hq' => ?_⟩
    rw [take_snoc hp] at hq'
    rcases List.mem_append.mp hq' with z | z
    · exact ⟨dvs_mono (p2 q z).1 k2, dvs_mono (p2 q z).2 k2⟩
    · simp at z
      subst z
      exact ⟨Int.dvd_trans l2 k3, Int.dvd_trans l3 k3⟩
  · rintro ρ μ' ⟨rfl, s, o2, o3, o4, rfl, p0, p1, p2⟩
    rw [wS1]
    simp only [wS, wE, r_getV0, r_getVs]
    have e : L.take (⟨none, L.map encS⟩ : Src).items.length = L := by
      have : (⟨none, L.map encS⟩ : Src).items.length = L.length := by simp
      rw [this, List.take_length]
    rw [e] at p2
    exact rt_here (hq s p0 p1 p2)
theorem b01_not (b : Bool) : (1 : Int) - b01 b = b01 (!b) := by cases b <;> rfl
theorem b_cuts_of {L : List Rf.Sp} {S s : Int} (hS : SpB S L) (p0 : 0 < s) (p1 : s ∣ S) (p2 : dvL s L) (hq : Q (.lst ((cutsI s L).map .int)) μ) : wDef (T k) 7 ir_cuts_of [tupS L, .int s] μ Q := by
  obtain ⟨s0, s1, s2, s3, s4⟩ := hS
  have sb := lt8 s0 s1 p0 p1
  simp only [wDef, ir_cuts_of, startD, tupS]
  rw [wS1]
  simp only [wS, wE, wEs, List.set]
  refine new_c (line_le (by simp)) ?_
  try dsimp only
  rw [wS1]
  simp only [wS, wI, wE, r_getV0, r_getVs, srcOf, asSq, Option.map_some]
  refine ⟨fun i ρ μ' => μ' = μ ++ [.lst ((cutsI s (L.take i)).map .int)] ∧ ∃ (o3 o4 o5 o6 : Option D), ρ = [some (.tup (L.map encS)), some (.int s), some (.cel μ.length), o3, o4, o5, o6], ⟨by simp [cutsI], _, _, _, _, rfl⟩, fun _ _ _ _ _ _ _ h => (by cases h), ?_, ?_⟩
  · rintro i x ρ μ' hx ⟨rfl, o3, o4, o5, o6, rfl⟩
    obtain ⟨p, hp, rfl, hm⟩ := items_S hx
    have hi := (List.getElem?_eq_some_iff.mp hp).1
    have h1 := denp p.lo
    have h2 := denp p.hi
    obtain ⟨d1, d2⟩ := p2 p hm
    obtain ⟨e1, e2⟩ := s3 p hm
    have dl : ∀ x : Rat, Bd 1000 x → dvs s x → CDivW s x.den ∧ ((CMul 2 x.num ∨ CMulW 2 x.num) ∧ (CMul (2 * x.num) (s / x.den) ∨ CMulW (2 * x.num) (s / x.den))) := by
      intro x hx hd
      have hxd := denp x
      refine ⟨dv (n := 1000) hxd (by simpa using hx.2) (by decide), mw (n := 2) (by decide) hx.1 (by decide), mw (n := 1001) (m := 8000) ?_ ?_ (by decide)⟩
      · have := hx.1
        rw [Int.natAbs_mul]
        have e : 2 ^ 1001 = 2 * 2 ^ 1000 := by rw [Nat.pow_succ, Nat.mul_comm]
        rw [e]
        show 2 * x.num.natAbs < _
        omega
      · rw [Int.natAbs_ediv_of_dvd hd]
        exact Nat.lt_of_le_of_lt (Nat.div_le_self _ _) sb
    obtain ⟨q1, q2, q3⟩ := dl p.lo e1 d1
    obtain ⟨r1, r2, r3⟩ := dl p.hi e2 d2
    have ll : ∀ j, j ≤ L.length → (cutsI s (L.take j)).length ≤ 800 := fun j hj => by
      rw [cutsI_len]; simp; omega
    refine ⟨_, rfl, ?_⟩
    rw [wS1]
    simp only [wS, wE, wEs, opBin, List.set, r_getV0, r_getVs, enc0, enc1, r_opI]
    refine ⟨e_mok, q2, q1, q3, ?_⟩
    simp only [r_addI, r_opI]
    refine ⟨trivial, ?_⟩
    rw [e_app]
    refine ⟨line_lt (by simp; have := ll i (by omega); omega), ?_⟩
    try dsimp only
    rw [wS1]
    simp only [wS, wE, wEs, opBin, List.set, r_getV0, r_getVs, enc0, enc1, r_opI]
    refine ⟨e_mok, r2, r1, r3, ?_⟩
    simp only [r_addI]
    rw [e_app]
    refine ⟨line_lt (by simp; have := ll i (by omega); omega), ?_, _, _, _, _, rfl⟩
    rw [take_snoc hp, cutsI_append]
    have : cutsI s [p] = [2 * atS s p.lo + b01 (!p.lf), 2 * atS s p.hi + b01 p.hf] := rfl
    rw [this]
    simp only [List.map_append, List.map_cons, List.map_nil, List.append_assoc, List.cons_append, List.nil_append]
    have a1 : 2 * p.lo.num * (s / ↑p.lo.den) + 1 - b01 p.lf = 2 * atS s p.lo + b01 (!p.lf) := by
      rw [← b01_not]; unfold atS; rw [Int.mul_assoc]; omega
    have a2 : 2 * p.hi.num * (s / ↑p.hi.den) + b01 p.hf = 2 * atS s p.hi + b01 p.hf := by
      unfold atS; rw [Int.mul_assoc]
    rw [a1, a2]
  · rintro ρ μ' ⟨rfl, o3, o4, o5, o6, rfl⟩
    rw [wS1]
    simp only [wS, wE, r_getV0, r_getVs]
    have e : L.take (⟨none, L.map encS⟩ : Src).items.length = L := by
      have : (⟨none, L.map encS⟩ : Src).items.length = L.length := by simp
      rw [this, List.take_length]
    rw [e]
    exact rt_lst1 pur_ints hq
theorem spF_zip {s : Int} : ∀ {r : List Int}, odd r.length = false → (spF s r).map encS = (List.zipWith (fun x y => (x, y)) (evens r) (odds r)).map fun p => D.tup [enc (Rat.divInt (p.1 / 2) s), enc (Rat.divInt (p.2 / 2) s), .int (1 - p.1 % 2), .int (p.2 % 2)]
  | [], _ => rfl
  | [_], h => by cases h
  | a :: b :: r, h => by
    have h : odd r.length = false := by rw [← h]; exact (odd_two r.length).symm
    have ha : a % 2 = 0 ∨ a % 2 = 1 := by omega
    have hb : b % 2 = 0 ∨ b % 2 = 1 := by omega
    simp only [spF, evens, odds, List.zipWith_cons_cons, List.map_cons, spF_zip h]
    congr 1
    unfold encS ko b01
    simp only
    rcases ha with ha | ha <;> rcases hb with hb | hb <;> simp [ha, hb]
theorem zip_map (xs ys : List Int) : List.zipWith (fun x y => D.tup [x, y]) (xs.map .int) (ys.map .int) = (List.zipWith (fun x y => (x, y)) xs ys).map fun p => D.tup [.int p.1, .int p.2] := by
  rw [List.zipWith_map, List.map_zipWith]
theorem b_spans_from (hk : 1 ≤ k) {r : List Int} {s : Int} (p0 : 0 < s) (sb : s.natAbs < 2 ^ 8000) (ho : odd r.length = false) (hl : r.length ≤ 2000) (hq : Q (tupS (spF s r)) μ) : wDef (T k) 5 ir_spans_from [.lst (r.map .int), .int s] μ Q := by
  have hev : (evens r).length ≤ 2000 := by
    have : ∀ i, i < (evens r).length → i < r.length := fun i hi => by
      have := List.getElem?_eq_getElem hi
      rw [evens_get] at this
      have := (List.getElem?_eq_some_iff.mp this).1
      omega
    by_cases h : (evens r).length ≤ r.length
    · omega
    · have := this r.length (by omega); omega
  have hod : (odds r).length ≤ 2000 := by
    have : ∀ i, i < (odds r).length → i < r.length := fun i hi => by
      have := List.getElem?_eq_getElem hi
      rw [odds_get] at this
      have := (List.getElem?_eq_some_iff.mp this).1
      omega
    by_cases h : (odds r).length ≤ r.length
    · omega
    · have := this r.length (by omega); omega
  simp only [wDef, ir_spans_from]
  rw [show startD 5 [D.lst (r.map .int), .int s] = [some (.lst (r.map .int)), some (.int s), none, none, none] from rfl]
  rw [wS1]
  simp only [wS, wE, wEs, List.set]
  refine new_c (line_le (by simp)) ?_
  try dsimp only
  rw [wS1]
  simp only [wS, wI, wE, wO, r_getV0, r_getVs, r_asRl]
  rw [pick_ev]
  refine new_l (line_le (by simp; omega)) ?_
  rw [pick_od]
  refine new_l (line_le (by simp; omega)) ?_
  simp only [zip_map]
  generalize hz : List.zipWith (fun x y => (x, y)) (evens r) (odds r) = zs
  have hzl : zs.length ≤ 2000 := by rw [← hz, List.length_zipWith]; omega
  rw [show tupS (spF s r) = .tup (zs.map fun p => D.tup [enc (Rat.divInt (p.1 / 2) s), enc (Rat.divInt (p.2 / 2) s), .int (1 - p.1 % 2), .int (p.2 % 2)]) by unfold tupS; rw [spF_zip ho, hz]] at hq
  refine ⟨fun i ρ μ' => μ' = μ ++ [.lst ((zs.take i).map fun p => D.tup [enc (Rat.divInt (p.1 / 2) s), enc (Rat.divInt (p.2 / 2) s), .int (1 - p.1 % 2), .int (p.2 % 2)])] ∧ ∃ (o3 o4 : Option D), ρ = [some (.lst (r.map .int)), some (.int s), some (.cel μ.length), o3, o4], ⟨by simp, _, _, rfl⟩, fun _ _ _ _ _ _ _ h => (by cases h), ?_, ?_⟩
  · rintro i x ρ μ' hx ⟨rfl, o3, o4, rfl⟩
    have hx : (zs.map fun p => D.tup [.int p.1, .int p.2])[i]? = some x := hx
    rw [List.getElem?_map] at hx
    cases e : zs[i]? with
    | none => rw [e] at hx; cases hx
    | some p =>
      rw [e] at hx
      cases hx
      have hi := (List.getElem?_eq_some_iff.mp e).1
      have d2 : ∀ i, CDivW i 2 := fun i => dv (n := 2) (by decide) (by decide) (by decide)
      have s9 : s.natAbs < 2 ^ 9000 := Nat.lt_of_lt_of_le sb (Nat.pow_le_pow_right (by decide) (by decide))
      refine ⟨_, rfl, ?_⟩
      rw [wS1]
      simp only [wS, wE, wEs, opBin, List.set, r_getV0, r_getVs, r_opI]
      refine ⟨e_mok, d2 _, c_made hk p0 s9 ⟨d2 _, c_made hk p0 s9 ⟨by decide, trivial, by decide, ⟨line_le (by simp), ?_⟩⟩⟩⟩
      rw [e_app]
      refine ⟨line_lt (by simp; omega), ?_, _, _, rfl⟩
      rw [take_snoc e, List.map_append]
      rfl
  · rintro ρ μ' ⟨rfl, o3, o4, rfl⟩
    have e : zs.take (⟨none, zs.map fun p => D.tup [.int p.1, .int p.2]⟩ : Src).items.length = zs := by
      have : (⟨none, zs.map fun p => D.tup [.int p.1, .int p.2]⟩ : Src).items.length = zs.length := by simp
      rw [this, List.take_length]
    rw [e, wS1]
    simp only [wS, wE, wEs, r_getV0, r_getVs, r_tupleC, e_asR]
    refine rt_pure ?_ hq
    refine purAll_of fun x hx => ?_
    obtain ⟨p, _, rfl⟩ := List.mem_map.mp hx
    rfl
theorem b_in_either {a b : Bool} (hq : Q (.bl (a || b)) μ) : wDef (T k) 2 ir_in_either [.bl a, .bl b] μ Q := by
  have h2 := rt_here (μ0 := μ) hq
  simp only [wDef, ir_in_either, startD]
  rw [wS1]
  simp only [wS, wE, r_getV0, r_getVs]
  cases a
  · simpa using h2
  · simpa using h2
theorem c_rul (hk : 1 ≤ k) {f : Nat} {x : Str} {g : Bool → Bool → Bool} (h : Rul f x g) {a b : Bool} {P : WQ} (hq : P (.bl (g a b)) μ) : T k f [.bl a, .bl b] μ P := by
  obtain ⟨rfl, rfl, rfl⟩ := h
  exact tc hk (by decide) ⟨a, b, rfl, hq⟩
theorem Rul.ff {f : Nat} {x : Str} {g : Bool → Bool → Bool} (h : Rul f x g) : g false false = false := by
  obtain ⟨rfl, rfl, rfl⟩ := h
  rfl
theorem b_swept (hk : 1 ≤ k) {a b : List Int} {f : Nat} {x : Str} {g : Bool → Bool → Bool} (hg : Rul f x g) (ha : Asc a) (hb : Asc b) (hl : a.length + b.length ≤ 2000) (hq : ∀ r, IsSw g a b r → Q (.lst (r.map .int)) μ) : wDef (T k) 12 ir_swept [.lst (a.map .int), .lst (b.map .int), .fn f x] μ Q := by
  simp only [wDef, ir_swept]
  rw [show startD 12 [D.lst (a.map .int), .lst (b.map .int), .fn f x] = [some (.lst (a.map .int)), some (.lst (b.map .int)), some (.fn f x), none, none, none, none, none, none, none, none, none] from rfl]
  rw [wS1]
  simp only [wS, wE, wI, opBin, r_getV0, r_getVs, r_addL]
  rw [← List.map_append]
  refine new_l (line_le (by simp; omega)) ?_
  simp only [srcOf, asSq, asR, asL, Option.map_some]
  refine ssc_ids (by simp) (by simp; omega) fun ms hms hmem => ?_
  have hmem' : ∀ x, x ∈ ms ↔ x ∈ a ∨ x ∈ b := fun x => by rw [hmem x, List.mem_append]
  have hml : ms.length ≤ 2000 := by
    have nd : ms.Nodup := hms.imp fun h => by omega
    have := nodup_sub nd (m := a ++ b) fun x hx => (hmem x).mp hx
    rw [List.length_append] at this
    omega
  refine new_l (line_le (by simp; omega)) ?_
  simp only [List.set]
  rw [wS1]
  simp only [wS, wE, wI, r_getV0, r_getVs, srcOf, asSq, asR, asL, Option.map_some]
  refine dc_ids (by simp) (by omega) fun A hA => dc_ids (by simp) (by omega) fun B hB => ?_
  simp only [List.set]
  rw [wS1]
  simp only [wS, wE, wEs]
  refine new_c (line_le (by simp)) ⟨line_le (by simp), ?_⟩
  simp only [setsD, List.set]
  have i0 : ∀ c, (μ ++ [CO.dK A] ++ [CO.dK B] ++ [c])[μ.length]? = some (.dK A) := fun c => by simp
  have i1 : ∀ c, (μ ++ [CO.dK A] ++ [CO.dK B] ++ [c])[(μ ++ [CO.dK A]).length]? = some (.dK B) := fun c => by simp
  have sis := sw_is hg.ff ha hb hms hmem'
  rw [wS1]
  simp only [wS, wI, wE, r_getV0, r_getVs, srcOf, asSq, asR, asL, Option.map_some]
  refine ⟨fun i ρ μ' => ∃ (p q ins : Bool) (F : List Int) (o10 : Option D), μ' = μ ++ [.dK A] ++ [.dK B] ++ [.lst (F.map .int)] ∧ ρ = [some (.lst (a.map .int)), some (.lst (b.map .int)), some (.fn f x), some (.lst (ms.map .int)), some (.cel μ.length), some (.cel (μ ++ [CO.dK A]).length), some (.bl p), some (.bl q), some (.bl ins), some (.cel (μ ++ [CO.dK A] ++ [CO.dK B]).length), o10, none] ∧ F.length ≤ i ∧
      F ++ sw g a b (ms.drop i) p q ins = sw g a b ms false false false, ⟨false, false, false, [], none, by simp, rfl, Nat.le_refl _, by simp⟩, fun _ _ _ _ _ _ _ h => (by cases h), ?_, ?_⟩
  · rintro i y ρ μ' hx ⟨p, q, ins, F, o10, rfl, rfl, hF, e⟩
    obtain ⟨m, hm, rfl⟩ := items_I hx
    have hi := (List.getElem?_eq_some_iff.mp hm).1
    have ed : ms.drop i = m :: ms.drop (i + 1) := by
      rw [List.drop_eq_getElem_cons hi]
      rw [List.getElem?_eq_getElem hi] at hm
      cases hm
      rfl
    rw [ed] at e
    have inA : inD (μ ++ [CO.dK A] ++ [CO.dK B] ++ [CO.lst (F.map .int)]) (.int m) (.cel μ.length) = some (decide (m ∈ a)) := by
      simp only [inD, i0, keyD, Option.map_some, hA]
    have inB : inD (μ ++ [CO.dK A] ++ [CO.dK B] ++ [CO.lst (F.map .int)]) (.int m) (.cel (μ ++ [CO.dK A]).length) = some (decide (m ∈ b)) := by
      simp only [inD, i1, keyD, Option.map_some, hB]
    refine ⟨_, rfl, ?_⟩
    simp only [List.set]
    rw [wS1]
    simp only [wS, wE, wCmp, opCmp, r_getV0, r_getVs, inA, q_bb, Option.map_some, List.set]
    rw [wS1]
    simp only [wS, wE, wCmp, opCmp, r_getV0, r_getVs, inB, q_bb, Option.map_some, List.set]
    have n1 : (!p == decide (m ∈ a)) = (p != decide (m ∈ a)) := rfl
    have n2 : (!q == decide (m ∈ b)) = (q != decide (m ∈ b)) := rfl
    rw [n1, n2]
    have e0 : sw g a b (m :: ms.drop (i + 1)) p q ins = if g (p != decide (m ∈ a)) (q != decide (m ∈ b)) != ins then m :: sw g a b (ms.drop (i + 1)) (p != decide (m ∈ a)) (q != decide (m ∈ b)) (!ins) else sw g a b (ms.drop (i + 1)) (p != decide (m ∈ a)) (q != decide (m ∈ b)) ins := rfl
    rw [e0] at e
    generalize (p != decide (m ∈ a)) = p' at e ⊢
    generalize (q != decide (m ∈ b)) = q' at e ⊢
    rw [wS1]
    refine iff_val (g p' q' != ins) (fun P hP => ?_) ?_
    · simp only [wT, wE, wEs, wCmp, opCmp, r_getV0, r_getVs]
      refine ⟨by obtain ⟨rfl, rfl, _⟩ := hg; decide, c_rul hk hg ?_⟩
      simp only [q_bb, Option.map_some]
      exact hP
    split
    · rename_i hc
      rw [if_pos hc] at e
      rw [wS1]
      simp only [wS, wE, r_getV0, r_getVs, List.set]
      rw [wS1]
      simp only [wS, wE, wEs, r_getV0, r_getVs]
      refine ⟨e_mok, ?_⟩
      rw [e_app]
      refine ⟨line_lt (by simp; omega), p', q', !ins, F ++ [m], _, by simp, rfl, by simp; omega, ?_⟩
      rw [← e, List.append_assoc]
      rfl
    · rename_i hc
      rw [if_neg hc] at e
      rw [wS0]
      exact ⟨p', q', ins, F, _, rfl, rfl, by omega, e⟩
  · rintro ρ μ' ⟨p, q, ins, F, o10, rfl, rfl, hF, e⟩
    have ed : ms.drop (⟨none, ms.map D.int⟩ : Src).items.length = [] := by
      have : (⟨none, ms.map D.int⟩ : Src).items.length = ms.length := by simp
      rw [this, List.drop_length]
    rw [ed] at e
    have e2 : F = sw g a b ms false false false := by
      rw [← e]
      show F = F ++ []
      simp
    rw [wS1]
    simp only [wS, wE, r_getV0, r_getVs]
    rw [List.append_assoc μ, List.append_assoc μ]
    refine rt_lst ?_ ?_ pur_ints (hq F (by rw [e2]; exact sis))
    · simp
    · simp
end
end K30


set_option Elab.async false
set_option linter.all false
set_option maxRecDepth 100000
namespace K30
open PySem L2 Rf
theorem cut_tail (xs : List D) : cutD xs (some 1) none = xs.drop 1 := by
  unfold cutD
  cases xs with
  | nil => simp
  | cons x xs =>
    have h1 : HT.sIx (x :: xs).length 0 (some 1) = 1 := by simp [HT.sIx] <;> omega
    have h2 : HT.sIx (x :: xs).length (x :: xs).length none = (x :: xs).length := by simp [HT.sIx]
    rw [h1, h2]
    simp
theorem blsD_map {α : Type} {xs : List α} (f : α → Bool) : blsD (xs.map fun x => .bl (f x)) = some (xs.map f) := by
  induction xs with
  | nil => rfl
  | cons x xs ih =>
    show blsD (D.bl (f x) :: xs.map fun x => .bl (f x)) = _
    simp only [blsD, ih]
    rfl
theorem asc_len {s : Int} {L : List Rf.Sp} (hs : 0 < s) (hd : dvL s L) (hc : Canon L) : Asc (cutsI s L) := (asc_io hs hd.cut).mpr hc
theorem canon_nodup {L : List Rf.Sp} (h : Canon L) : (cutsC L).Nodup := h.imp fun q e => by subst e; exact clt_irr q
theorem cutsC_len (L : List Rf.Sp) : (cutsC L).length = 2 * L.length := by
  induction L with
  | nil => rfl
  | cons p L ih => simp [ih]; omega
theorem ends_of {R L : List Rf.Sp} (h : ∀ c ∈ cutsC R, c ∈ cutsC L) {P : Rat → Prop} (hL : ∀ p ∈ L, P p.lo ∧ P p.hi) : ∀ p ∈ R, P p.lo ∧ P p.hi := by
  have key : ∀ c ∈ cutsC L, P c.1 := fun c hc => by
    obtain ⟨p, hp, rfl | rfl⟩ := mem_cutsC hc
    · exact (hL p hp).1
    · exact (hL p hp).2
  intro p hp
  obtain ⟨h1, h2⟩ := cutsC_mem hp
  exact ⟨key _ (h _ h1), key _ (h _ h2)⟩
theorem SpB.sub {S : Int} {L R : List Rf.Sp} (h : SpB S L) (hc : Canon R) (hm : ∀ c ∈ cutsC R, c ∈ cutsC L) : SpB S R := by
  obtain ⟨s0, s1, s2, s3, s4⟩ := h
  refine ⟨s0, s1, fun p hp => ends_of (P := dvs S) hm (fun q hq => s2 q hq) p hp, ends_of (P := Bd 1000) hm s3, ?_⟩
  have := nodup_sub (canon_nodup hc) hm
  rw [cutsC_len, cutsC_len] at this
  omega
section
variable {k : Nat} {μ : M} {Q : WQ}
theorem b_is_spans (hk : 3 ≤ k) {L : List Rf.Sp} {S : Int} (hS : SpB S L) (hc : Canon L) (hq : Q (.bl true) μ) : wDef (T k) 4 ir_is_spans [tupS L] μ Q := by
  have hS' := hS
  obtain ⟨s0, s1, s2, s3, s4⟩ := hS
  simp only [wDef, ir_is_spans]
  rw [show startD 4 [tupS L] = [some (tupS L), none, none, none] from rfl, wS1]
  refine iff_val false (fun P hP => ?_) ?_
  · simp only [wT, wE, wEs, wI, ofE, r_getV0, r_getVs]
    simp only [tupS, r_isi, r_isiI, r_ty4, k54, r_truB, srcOf, asSq, Option.map_some, Bool.not_true, Bool.false_eq_true, if_false]
    refine lc_pure (fun n ys h => by cases h) (line_le (by simp; omega)) (fun _ => .bl true) ?_ ?_
    · intro i x hx
      obtain ⟨p, hp, rfl, hm⟩ := items_S hx
      refine ⟨_, rfl, fun P hP => ?_⟩
      simp [wE, wEs, wipeD]
      obtain ⟨e1, e2⟩ := s3 p hm
      exact tc (m := 3) (by omega) (by decide) ⟨p, rfl, hc.ok p hm, e1.mono (by decide), e2.mono (by decide), hP⟩
    · refine new_l (line_le (by simp; omega)) ?_
      have e : (L.map encS).map (fun _ => D.bl true) = L.map fun _ => .bl true := by rw [List.map_map]; rfl
      simp only [e, r_all, r_asL, Option.bind_some, blsD_map]
      have : (L.map fun _ => true).all id = true := by simp
      rw [this]
      simpa using hP
  rw [if_neg Bool.false_ne_true, wS0]
  try dsimp only
  rw [wS1]
  simp only [wS, wE, wEs, r_getV0, r_getVs]
  refine tc (m := 1) (by omega) (by decide) ⟨L, S, rfl, hS', fun s p0 p1 p2 => ?_⟩
  try dsimp only
  refine tc (m := 1) (by omega) (by decide) ⟨L, S, s, rfl, hS', p0, p1, p2, ?_⟩
  simp only [List.set]
  have ha := asc_len p0 p2 hc
  have hl : (cutsI s L).length ≤ 800 := by rw [cutsI_len]; omega
  generalize cutsI s L = cs at ha hl
  rw [wS1]
  simp only [wS, wE, wEs, wI, wO, r_getV0, r_getVs, r_slcL, cut_tail]
  refine new_l (line_le (by simp; omega)) ?_
  try dsimp only
  have ez : List.zipWith (fun x y => D.tup [x, y]) (cs.map D.int) ((cs.map D.int).drop 1) = (List.zipWith (fun x y => (x, y)) cs (cs.drop 1)).map fun p => D.tup [.int p.1, .int p.2] := by
    rw [← List.map_drop, zip_map]
  rw [ez]
  have hz : ∀ p ∈ List.zipWith (fun x y => (x, y)) cs (cs.drop 1), p.1 < p.2 := by
    intro p hp
    obtain ⟨i, hi⟩ := List.getElem?_of_mem hp
    rw [List.getElem?_zipWith] at hi
    cases e1 : cs[i]? with
    | none => rw [e1] at hi; cases hi
    | some x =>
      rw [List.getElem?_drop] at hi
      cases e2 : cs[1 + i]? with
      | none => rw [e1, e2] at hi; cases hi
      | some y =>
        rw [e1, e2] at hi
        cases hi
        obtain ⟨h1, rfl⟩ := List.getElem?_eq_some_iff.mp e1
        obtain ⟨h2, rfl⟩ := List.getElem?_eq_some_iff.mp e2
        exact List.pairwise_iff_getElem.mp ha i (1 + i) h1 h2 (by omega)
  have hzl : (List.zipWith (fun x y => (x, y)) cs (cs.drop 1)).length ≤ 800 := by rw [List.length_zipWith]; omega
  generalize List.zipWith (fun x y => (x, y)) cs (cs.drop 1) = zs at hz hzl
  refine lc_pure (fun n ys h => by cases h) (line_le (by simp; omega)) (fun _ => .bl true) ?_ ?_
  · intro i x hx
    have hx : (zs.map fun p => D.tup [.int p.1, .int p.2])[i]? = some x := hx
    rw [List.getElem?_map] at hx
    cases e : zs[i]? with
    | none => rw [e] at hx; cases hx
    | some p =>
      rw [e] at hx
      cases hx
      have := hz p (List.mem_of_getElem? e)
      refine ⟨_, rfl, fun P hP => ?_⟩
      simp [wE, wEs, wipeD, wCmp, opCmp]
      have e2 : decide (p.1 < p.2) = true := by simp; omega
      rw [e2]
      exact hP
  · refine new_l (line_le (by simp; omega)) ?_
    have e : (zs.map fun p => D.tup [.int p.1, .int p.2]).map (fun _ => D.bl true) = zs.map fun _ => .bl true := by rw [List.map_map]; rfl
    simp only [e, r_all, r_asL, Option.bind_some, blsD_map]
    have : (zs.map fun _ => true).all id = true := by simp
    rw [this]
    exact rt_here hq
theorem b_check_spans (hk : 4 ≤ k) {L : List Rf.Sp} {S : Int} (hS : SpB S L) (hc : Canon L) (hq : Q .non μ) : wDef (T k) 1 ir_check_spans [tupS L] μ Q := by
  simp only [wDef, ir_check_spans, startD]
  rw [wS1]
  simp only [wS, wT, wE, wEs, ofE]
  simp
  exact tc hk (by decide) ⟨L, S, rfl, hS, hc, rt_here hq⟩
theorem b_joined (hk : 2 ≤ k) {L M : List Rf.Sp} {S : Int} {f : Nat} {x : Str} {g : Bool → Bool → Bool} (hg : Rul f x g) (hL : SpB S L) (hM : SpB S M) (cL : Canon L) (cM : Canon M) (hq : ∀ R, IsJn g L M R → Q (tupS R) μ) :
    wDef (T k) 4 ir_joined [tupS L, tupS M, .fn f x] μ Q := by
  obtain ⟨s0, s1, s2, s3, s4⟩ := id hL
  obtain ⟨_, _, t2, t3, t4⟩ := id hM
  simp only [wDef, ir_joined]
  rw [show startD 4 [tupS L, tupS M, D.fn f x] = [some (tupS L), some (tupS M), some (.fn f x), none] from rfl, wS1]
  simp only [wS, wE, wEs, r_getV0, r_getVs]
  refine tc (m := 1) (by omega) (by decide) ⟨L, S, rfl, hL, fun a a0 a1 a2 => ?_⟩
  try dsimp only
  refine tc (m := 1) (by omega) (by decide) ⟨M, S, rfl, hM, fun b b0 b1 b2 => ?_⟩
  try dsimp only
  rw [r_lcm]
  obtain ⟨k1, k2, k3, k4⟩ := dv_lcm a0 b0 a1 b1
  refine ⟨⟨log13 s0 s1 a0 a1, log13 s0 s1 b0 b1⟩, ?_⟩
  have dL := dvL_mono a2 k2
  have dM := dvL_mono b2 k3
  generalize ((Nat.lcm a.natAbs b.natAbs : Nat) : Int) = s at k1 k4 dL dM
  simp only [List.set]
  rw [wS1]
  simp only [wS, wE, wEs, r_getV0, r_getVs]
  refine tc (m := 1) (by omega) (by decide) ⟨L, S, s, rfl, hL, k4, k1, dL, ?_⟩
  try dsimp only
  refine tc (m := 1) (by omega) (by decide) ⟨M, S, s, rfl, hM, k4, k1, dM, ?_⟩
  try dsimp only
  have la : (cutsI s L).length ≤ 800 := by rw [cutsI_len]; omega
  have lb : (cutsI s M).length ≤ 800 := by rw [cutsI_len]; omega
  refine tc (m := 2) (by omega) (by decide) ⟨_, _, f, x, g, rfl, hg, asc_len k4 dL cL, asc_len k4 dM cM, by omega, fun r hr => ?_⟩
  try dsimp only
  have rl : r.length ≤ 2000 := by
    have nd : r.Nodup := hr.asc.imp fun h => by omega
    have := nodup_sub nd (m := cutsI s L ++ cutsI s M) fun x hx => List.mem_append.mpr (hr.mem x hx)
    rw [List.length_append] at this
    omega
  refine tc (m := 2) (by omega) (by decide) ⟨r, s, rfl, k4, lt8 s0 s1 k4 k1, hr.even hg.ff (cutsI_odd s L) (cutsI_odd s M), rl, ?_⟩
  exact rt_here (hq _ (jn_of hg.ff k4 dL dM hr))
theorem canon1 {p : Rf.Sp} (h : p.ok) : Canon [p] := by
  unfold Canon AscC
  simp only [cutsC_cons, cutsC_nil]
  exact List.pairwise_cons.mpr ⟨fun c hc => by simp at hc; subst hc; exact h, List.pairwise_cons.mpr ⟨fun c hc => by simp at hc, .nil⟩⟩
theorem b_melted (hk : 3 ≤ k) {L : List Rf.Sp} {S : Int} (hS : SpB S L) (ho : ∀ p ∈ L, p.ok) (hl : L.length ≤ 64) (hq : ∀ R, Canon R → (∀ c ∈ cutsC R, c ∈ cutsC L) → (∀ c, indC (cutsC R) c = L.any (covers · c)) → Q (tupS R) μ) : wDef (T k) 3 ir_melted [lstS L] μ Q := by
  obtain ⟨s0, s1, s2, s3, s4⟩ := id hS
  simp only [wDef, ir_melted]
  rw [show startD 3 [lstS L] = [some (lstS L), none, none] from rfl, wS1]
  simp only [wS, wE, wEs, List.set]
  refine ⟨line_le (by simp), ?_⟩
  rw [wS1]
  simp only [wS, wI, wE, r_getV0, r_getVs, lstS, srcOf, asSq, asR, asL, Option.map_some]
  refine ⟨fun i ρ μ' => μ' = μ ∧ ∃ (R : List Rf.Sp) (o2 : Option D), ρ = [some (.lst (L.map encS)), some (tupS R), o2] ∧ Canon R ∧ (∀ c ∈ cutsC R, c ∈ cutsC L) ∧ ∀ c, indC (cutsC R) c = (L.take i).any (covers · c), ⟨rfl, [], none, rfl, .nil, fun c hc => by simp at hc, fun c => by simp [indC]⟩, fun _ _ _ _ _ _ _ h => (by cases h), ?_, ?_⟩
  · rintro i x ρ μ' hx ⟨rfl, R, o2, rfl, cR, mR, iR⟩
    obtain ⟨p, hp, rfl, hm⟩ := items_S hx
    refine ⟨_, rfl, ?_⟩
    simp only [List.set]
    rw [wS1]
    simp only [wS, wE, wEs, r_getV0, r_getVs]
    have c1 := canon1 (ho p hm)
    have sub1 : ∀ c ∈ cutsC [p], c ∈ cutsC L := fun c hc => by
      obtain ⟨q, hq, e⟩ := mem_cutsC hc
      simp at hq
      subst hq
      rcases e with rfl | rfl
      · exact (cutsC_mem hm).1
      · exact (cutsC_mem hm).2
    refine ⟨line_le (by simp), tc (m := 3) (by omega) (by decide) ⟨R, [p], S, 16, "in_either", _, rfl, ⟨rfl, rfl, rfl⟩, hS.sub cR mR, hS.sub c1 sub1, cR, c1, fun R' h => ?_⟩⟩
    try dsimp only
    refine ⟨rfl, R', _, rfl, h.can, fun c hc => ?_, fun c => ?_⟩
    · rcases h.mem c hc with z | z
      · exact mR c z
      · exact sub1 c z
    · rw [h.at_, iR, canon_ind c1, take_snoc hp, List.any_append]
  · rintro ρ μ' ⟨rfl, R, o2, rfl, cR, mR, iR⟩
    rw [wS1]
    simp only [wS, wE, r_getV0, r_getVs]
    have e : L.take (⟨none, L.map encS⟩ : Src).items.length = L := by
      have : (⟨none, L.map encS⟩ : Src).items.length = L.length := by simp
      rw [this, List.take_length]
    rw [e] at iR
    exact rt_here (hq R cR mR iR)
theorem b_has_in (hk : 1 ≤ k) {L : List Rf.Sp} {S : Int} {x : Rat} (hS : SpB S L) (hx : dvs S x) (bx : Bd 1000 x) (hq : Q (.bl (indC (cutsC L) (x, false))) μ) : wDef (T k) 5 ir_has_in [tupS L, enc x] μ Q := by
  obtain ⟨s0, s1, s2, s3, s4⟩ := id hS
  have hd := denp x
  simp only [wDef, ir_has_in]
  rw [show startD 5 [tupS L, enc x] = [some (tupS L), some (enc x), none, none, none] from rfl, wS1]
  simp only [wS, wE, wEs, r_getV0, r_getVs]
  refine tc hk (by decide) ⟨L, S, rfl, hS, fun a a0 a1 a2 => ?_⟩
  try dsimp only
  simp only [enc1, r_lcm]
  obtain ⟨k1, k2, k3, k4⟩ := dv_lcm a0 hd a1 hx
  refine ⟨⟨log13 s0 s1 a0 a1, log13 s0 s1 hd hx⟩, ?_⟩
  have dL := dvL_mono a2 k2
  have dx : dvs ((Nat.lcm a.natAbs (x.den : Int).natAbs : Nat) : Int) x := k3
  generalize ((Nat.lcm a.natAbs (x.den : Int).natAbs : Nat) : Int) = s at k1 k4 dL dx
  have sb := lt8 s0 s1 k4 k1
  simp only [List.set]
  rw [wS1]
  simp only [wS, wE, wEs, opBin, r_getV0, r_getVs, enc0, enc1, r_opI]
  refine ⟨mw (n := 2) (by decide) bx.1 (by decide), dv (n := 1000) hd (by simpa using bx.2) (by decide), mw (n := 1001) (m := 8000) ?_ ?_ (by decide), ?_⟩
  · have := bx.1
    rw [Int.natAbs_mul]
    have e : 2 ^ 1001 = 2 * 2 ^ 1000 := by rw [Nat.pow_succ, Nat.mul_comm]
    rw [e]
    show 2 * x.num.natAbs < _
    omega
  · rw [Int.natAbs_ediv_of_dvd dx]
    exact Nat.lt_of_le_of_lt (Nat.div_le_self _ _) sb
  have ep : 2 * x.num * (s / ↑x.den) = pos s (x, false) := by
    rw [pos_io dx]
    unfold io atS b01
    simp only
    rw [Int.mul_assoc]; simp
  rw [ep]
  simp only [List.set]
  rw [wS1]
  simp only [wS, wE, wEs, wI, opBin, r_getV0, r_getVs]
  refine tc hk (by decide) ⟨L, S, s, rfl, hS, k4, k1, dL, ?_⟩
  simp only [srcOf, asSq, asR, asL, Option.map_some]
  have ei := ind_io k4 dL.cut (x, false)
  have hl : (cutsI s L).length ≤ 800 := by rw [cutsI_len]; omega
  rw [show (cutsC L).map (io s) = cutsI s L from rfl] at ei
  generalize pos s (x, false) = t at ei
  generalize cutsI s L = cs at ei hl
  refine lc_pick (fun n ys h => by cases h) (line_le (by simp; omega)) (fun d => match d with | .int i => decide (i ≤ t) | _ => false) id ?_ ?_
  · intro i y hy
    obtain ⟨c, hc, rfl⟩ := items_I hy
    refine ⟨_, rfl, fun P hP => ?_, fun _ P hP => ?_⟩
    · simp [wF, wT, wE, wipeD, wCmp, opCmp]
      exact hP
    · simp [wE, wipeD]
      exact hP
  · have ef : ((cs.map D.int).filter (fun d => match d with | .int i => decide (i ≤ t) | _ => false)).map id = (cs.filter fun i => decide (i ≤ t)).map .int := by
      rw [List.map_id, List.filter_map]; rfl
    simp only [ef]
    have := List.length_filter_le (fun i => decide (i ≤ t)) cs
    refine new_l (line_le (by simp; omega)) ?_
    simp only [r_len, r_lenL, r_opI, wCmp, opCmp, q_ii]
    refine ⟨by decide, rt_here ?_⟩
    rw [← ei] at hq
    have e2 : decide (((((cs.filter fun i => decide (i ≤ t)).map D.int).length : Nat) : Int) % 2 = 1) = ind cs t := by
      unfold ind odd
      rw [List.length_map, List.countP_eq_length_filter]
      have : ∀ n : Nat, decide (((n : Nat) : Int) % 2 = 1) = (n % 2 == 1) := fun n => by
        rw [Bool.eq_iff_iff]
        simp only [decide_eq_true_eq, beq_iff_eq]
        omega
      exact this _
    rw [e2]
    exact hq
theorem b_number_scaled (hk : 2 ≤ k) {x p q : Rat} (hx : Bd 1000 x) (hp : Bd 1000 p) (hq' : Bd 1000 q) (hq : Q (enc (x * p + q)) μ) : wDef (T k) 3 ir_number_scaled [enc x, enc p, enc q] μ Q := by
  have m1 := mww hx hp (by decide)
  have hd := den_mul (hx.mono (m := 4000) (by decide)) (hp.mono (m := 4000) (by decide))
  simp only [wDef, ir_number_scaled]
  rw [show startD 3 [enc x, enc p, enc q] = [some (enc x), some (enc p), some (enc q)] from rfl, wS1]
  simp only [wS, wE, wEs, opBin, r_getV0, r_getVs, enc0, enc1, r_opI]
  refine ⟨m1.2.2.1, m1.2.1, c_made (by omega) hd.1 hd.2 ?_⟩
  rw [di_mul]
  exact tc hk (by decide) ⟨_, q, rfl, (hx.mul hp).mono (by decide), hq'.mono (by decide), rt_here hq⟩
theorem b_span_scaled (hk : 3 ≤ k) {s : Rf.Sp} {p q : Rat} (h1 : Bd 1000 s.lo) (h2 : Bd 1000 s.hi) (hp : Bd 1000 p) (hq' : Bd 1000 q) (hq : Q (encS (scSp p q s)) μ) : wDef (T k) 5 ir_span_scaled [encS s, enc p, enc q] μ Q := by
  simp only [wDef, ir_span_scaled]
  rw [show startD 5 [encS s, enc p, enc q] = [some (encS s), some (enc p), some (enc q), none, none] from rfl, wS1]
  simp only [wS, wE, wEs, r_getV0, r_getVs, encS0, encS1]
  refine tc hk (by decide) ⟨_, _, _, rfl, h1, hp, hq', ?_⟩
  try dsimp only
  refine tc hk (by decide) ⟨_, _, _, rfl, h2, hp, hq', ?_⟩
  simp only [List.set]
  rw [wS1]
  simp only [wS, wE, wEs, wT, wO, wCmp, opCmp, opBin, r_getV0, r_getVs, enc0, r_cmpI, encS2, encS3]
  have hn : (0 < p.num) = (0 < p) := propext (by
    have := @Rat.num_nonneg (-p)
    constructor
    · intro h
      by_cases z : 0 < p
      · exact z
      · have : 0 ≤ (-p).num := Rat.num_nonneg.mpr (by grind)
        rw [Rat.neg_num] at this
        omega
    · intro h
      have h0 : 0 ≤ p.num := Rat.num_nonneg.mpr (by grind)
      by_cases z : p.num = 0
      · rw [Rat.num_eq_zero.mp z] at h
        exact absurd h Rat.lt_irrefl
      · omega)
  unfold scSp at hq
  by_cases h : 0 < p
  · rw [if_pos h] at hq
    simp only [hn, h, decide_true, if_true]
    refine ⟨line_le (by simp), ?_⟩
    show opSlc (encS s) (some 2) none μ _
    unfold encS
    rw [r_slcT]
    refine ⟨(by show ¬ (HT.sIx 4 0 (some 2) = 0 ∧ HT.sIx 4 4 none = 4); decide), ?_⟩
    have e : cutD [enc s.lo, enc s.hi, D.int (b01 s.lf), D.int (b01 s.hf)] (some 2) none = [D.int (b01 s.lf), D.int (b01 s.hf)] := rfl
    rw [e, r_addT]
    exact ⟨by simp, line_le (by simp), rt_here hq⟩
  · rw [if_neg h] at hq
    simp only [hn, h, decide_false, Bool.false_eq_true, if_false]
    exact ⟨line_le (by simp), rt_here hq⟩
theorem b_long_of (hk : 2 ≤ k) {L : List Rf.Sp} {m : Nat} (hb : ∀ p ∈ L, Bd m p.lo ∧ Bd m p.hi) (hl : L.length * (2 * m + 2) ≤ 3900) (hm : m ≤ 1000) (hq : Q (enc (lenF 0 L)) μ) : wDef (T k) 5 ir_long_of [tupS L] μ Q := by
  simp only [wDef, ir_long_of]
  rw [show startD 5 [tupS L] = [some (tupS L), none, none, none, none] from rfl, wS1]
  simp only [wS, wE, wEs, List.set]
  refine ⟨line_le (by simp), ?_⟩
  rw [wS1]
  simp only [wS, wI, wE, r_getV0, r_getVs, tupS, srcOf, asSq, Option.map_some]
  refine ⟨fun i ρ μ' => μ' = μ ∧ ∃ (o2 o3 o4 : Option D), ρ = [some (.tup (L.map encS)), some (enc (lenF 0 (L.take i))), o2, o3, o4] ∧ Bd (i * (2 * m + 2) + 1) (lenF 0 (L.take i)), ⟨rfl, none, none, none, rfl, ⟨by simp [lenF], by simp [lenF]⟩⟩, fun _ _ _ _ _ _ _ h => (by cases h), ?_, ?_⟩
  · rintro i x ρ μ' hx ⟨rfl, o2, o3, o4, rfl, ht⟩
    obtain ⟨p, hp, rfl, hmm⟩ := items_S hx
    have hi := (List.getElem?_eq_some_iff.mp hp).1
    obtain ⟨e1, e2⟩ := hb p hmm
    have hle : i * (2 * m + 2) + (2 * m + 2) ≤ 3900 := by
      have : (i + 1) * (2 * m + 2) ≤ L.length * (2 * m + 2) := Nat.mul_le_mul_right _ (by omega)
      rw [Nat.add_mul] at this
      omega
    refine ⟨_, rfl, ?_⟩
    simp only [List.set]
    rw [wS1]
    simp only [wS, wE, wEs, r_getV0, r_getVs]
    refine tc (m := 2) (by omega) (by decide) ⟨p.hi, p.lo, rfl, e2.mono (by omega), e1.mono (by omega), ?_⟩
    try dsimp only
    have hsub := e2.sub e1
    refine tc (m := 2) (by omega) (by decide) ⟨_, _, rfl, ht.mono (by omega), hsub.mono (by omega), ?_⟩
    have et : lenF 0 (L.take (i + 1)) = lenF 0 (L.take i) + (p.hi - p.lo) := by rw [take_snoc hp, lenF_app]; rfl
    simp only [List.set]
    rw [← et]
    refine ⟨rfl, _, _, _, rfl, ?_⟩
    rw [et, Nat.add_mul]
    exact (ht.add hsub).mono (by omega)
  · rintro ρ μ' ⟨rfl, o2, o3, o4, rfl, ht⟩
    rw [wS1]
    simp only [wS, wE, r_getV0, r_getVs]
    have e : L.take (⟨none, L.map encS⟩ : Src).items.length = L := by
      have : (⟨none, L.map encS⟩ : Src).items.length = L.length := by simp
      rw [this, List.take_length]
    rw [e]
    exact rt_here hq
theorem b_check_factor (hk : 3 ≤ k) {x : Rat} (hx : x ≠ 0) (hq : Q .non μ) : wDef (T k) 1 ir_check_factor [enc x] μ Q := by
  simp only [wDef, ir_check_factor]
  rw [show startD 1 [enc x] = [some (enc x)] from rfl, wS1]
  simp only [wS, wE, wEs, r_getV0, r_getVs]
  refine tc hk (by decide) ⟨x, rfl, ?_⟩
  try dsimp only
  rw [wS1]
  simp only [wS, wT, wE, wEs, wCmp, opCmp, r_getV0, r_getVs, enc0, q_ii]
  have : ¬ x.num = 0 := fun h => hx (Rat.num_eq_zero.mp h)
  simp only [this, decide_false, Bool.false_eq_true, if_false]
  exact rt_here hq
theorem b_spans_of (hk : 4 ≤ k) {L : List Rf.Sp} {S : Int} (hS : SpB S L) (ho : ∀ p ∈ L, p.ok) (hl : L.length ≤ 64) (hq : ∀ R, Canon R → (∀ c ∈ cutsC R, c ∈ cutsC L) → (∀ c, indC (cutsC R) c = L.any (covers · c)) → Q (tupS R) μ) : wDef (T k) 2 ir_spans_of [lstS L] μ Q := by
  obtain ⟨s0, s1, s2, s3, s4⟩ := id hS
  simp only [wDef, ir_spans_of]
  rw [show startD 2 [lstS L] = [some (lstS L), none] from rfl, wS1]
  refine iff_val false (fun P hP => ?_) ?_
  · simp only [wT, wE, wEs, ofE, r_getV0, r_getVs]
    refine ⟨line_le (by simp), ?_⟩
    have e : isiD μ (lstS L) (.tup [.ty "list", .ty "tuple"]) = some true := by simp [isiD, lstS, tyD, kitsB]
    simp only [r_isi, e, r_truB]
    exact hP
  rw [if_neg Bool.false_ne_true, wS0]
  try dsimp only
  rw [wS1]
  simp only [wS, wI, wE, r_getV0, r_getVs, lstS, srcOf, asSq, asR, asL, Option.map_some]
  refine ⟨fun i ρ μ' => μ' = μ ∧ ∃ (o1 : Option D), ρ = [some (.lst (L.map encS)), o1], ⟨rfl, none, rfl⟩, fun _ _ _ _ _ _ _ h => (by cases h), ?_, ?_⟩
  · rintro i x ρ μ' hx ⟨rfl, o1, rfl⟩
    obtain ⟨p, hp, rfl, hmm⟩ := items_S hx
    obtain ⟨e1, e2⟩ := s3 p hmm
    refine ⟨_, rfl, ?_⟩
    simp only [List.set]
    rw [wS1]
    simp only [wS, wT, wE, wEs, ofE, r_getV0, r_getVs]
    refine tc (m := 3) (by omega) (by decide) ⟨p, rfl, ho p hmm, e1.mono (by decide), e2.mono (by decide), ?_⟩
    simp only [r_truB, Bool.not_true, Bool.false_eq_true, if_false]
    exact ⟨rfl, _, rfl⟩
  · rintro ρ μ' ⟨rfl, o1, rfl⟩
    rw [wS1]
    simp only [wS, wE, wEs, r_getV0, r_getVs]
    exact tc (m := 4) (by omega) (by decide) ⟨L, S, rfl, hS, ho, hl, fun R h1 h2 h3 => rt_here (hq R h1 h2 h3)⟩
theorem b_contains (hk : 5 ≤ k) {L : List Rf.Sp} {S : Int} {x : Rat} (hS : SpB S L) (hc : Canon L) (hx : dvs S x) (bx : Bd 1000 x) (hq : Q (.bl (indC (cutsC L) (x, false))) μ) : wDef (T k) 2 ir_contains [tupS L, enc x] μ Q := by
  simp only [wDef, ir_contains]
  rw [show startD 2 [tupS L, enc x] = [some (tupS L), some (enc x)] from rfl, wS1]
  simp only [wS, wE, wEs, r_getV0, r_getVs]
  refine tc (m := 5) (by omega) (by decide) ⟨L, S, rfl, hS, hc, ?_⟩
  try dsimp only
  rw [wS1]
  simp only [wS, wE, wEs, r_getV0, r_getVs]
  refine tc (m := 3) (by omega) (by decide) ⟨x, rfl, ?_⟩
  try dsimp only
  rw [wS1]
  simp only [wS, wE, wEs, r_getV0, r_getVs]
  exact tc (m := 2) (by omega) (by decide) ⟨L, S, x, rfl, hS, hx, bx, rt_here hq⟩
theorem pos_num {p : Rat} : (0 < p.num) = (0 < p) := propext (by
  constructor
  · intro h
    by_cases z : 0 < p
    · exact z
    · have : 0 ≤ (-p).num := Rat.num_nonneg.mpr (by grind)
      rw [Rat.neg_num] at this
      omega
  · intro h
    have h0 : 0 ≤ p.num := Rat.num_nonneg.mpr (by grind)
    by_cases z : p.num = 0
    · rw [Rat.num_eq_zero.mp z] at h
      exact absurd h Rat.lt_irrefl
    · omega)
theorem b_scaled (hk : 5 ≤ k) {L : List Rf.Sp} {S : Int} {p q : Rat} (hS : SpB S L) (hc : Canon L) (hp : Bd 1000 p) (hq' : Bd 1000 q) (h0 : p ≠ 0) (hq : Q (tupS (scL p q L)) μ) : wDef (T k) 5 ir_scaled [tupS L, enc p, enc q] μ Q := by
  obtain ⟨s0, s1, s2, s3, s4⟩ := id hS
  simp only [wDef, ir_scaled]
  rw [show startD 5 [tupS L, enc p, enc q] = [some (tupS L), some (enc p), some (enc q), none, none] from rfl, wS1]
  simp only [wS, wE, wEs, r_getV0, r_getVs]
  refine tc (m := 5) (by omega) (by decide) ⟨L, S, rfl, hS, hc, ?_⟩
  try dsimp only
  rw [wS1]
  simp only [wS, wE, wEs, r_getV0, r_getVs]
  refine tc (m := 4) (by omega) (by decide) ⟨p, rfl, h0, ?_⟩
  try dsimp only
  rw [wS1]
  simp only [wS, wE, wEs, r_getV0, r_getVs]
  refine tc (m := 3) (by omega) (by decide) ⟨q, rfl, ?_⟩
  try dsimp only
  rw [wS1]
  simp only [wS, wE, wEs, wI, r_getV0, r_getVs]
  unfold tupS
  simp only [srcOf, asSq, Option.map_some]
  refine lc_pure (fun n ys h => by cases h) (line_le (by simp; omega)) (fun d => match d with | .tup [.tup [.int a, .int b], .tup [.int c, .int e], .int u, .int v] => encS (scSp p q ⟨Rat.divInt a b, Rat.divInt c e, u == 1, v == 1⟩) | d => d) ?_ ?_
  · intro i x hx
    obtain ⟨s, hp', rfl, hmm⟩ := items_S hx
    obtain ⟨e1, e2⟩ := s3 s hmm
    refine ⟨_, rfl, fun P hP => ?_⟩
    simp [wE, wEs, wipeD]
    refine tc (m := 4) (by omega) (by decide) ⟨s, p, q, rfl, e1, e2, hp, hq', ?_⟩
    have eb : ∀ b : Bool, (b01 b == 1) = b := by decide
    simp only [encS, enc, di_self, eb] at hP
    exact hP
  · have em : (L.map encS).map (fun d => match d with | .tup [.tup [.int a, .int b], .tup [.int c, .int e], .int u, .int v] => encS (scSp p q ⟨Rat.divInt a b, Rat.divInt c e, u == 1, v == 1⟩) | d => d) = (L.map (scSp p q)).map encS := by
      rw [List.map_map, List.map_map]
      refine List.map_congr_left fun s _ => ?_
      have eb : ∀ b : Bool, (b01 b == 1) = b := by decide
      simp only [Function.comp, encS, enc, di_self, eb]
    rw [em]
    refine new_l (line_le (by simp; omega)) ?_
    simp only [List.set]
    rw [wS1]
    simp only [wS, wE, wEs, wT, wO, wCmp, opCmp, r_getV0, r_getVs, enc0, r_cmpI, pos_num]
    unfold tupS scL at hq
    by_cases h : 0 < p
    · rw [if_pos h] at hq
      simp only [h, decide_true, if_true, r_tupleL]
      exact rt_here hq
    · rw [if_neg h] at hq
      simp only [h, decide_false, Bool.false_eq_true, if_false, r_asRl, pick_rev]
      refine new_l (line_le (by simp; omega)) ?_
      simp only [r_tupleL]
      rw [← List.map_reverse]
      exact rt_here hq
theorem b_length_of (hk : 5 ≤ k) {L : List Rf.Sp} {S : Int} {m : Nat} (hS : SpB S L) (hc : Canon L) (hb : ∀ p ∈ L, Bd m p.lo ∧ Bd m p.hi) (hl : L.length * (2 * m + 2) ≤ 3900) (hm : m ≤ 1000) (hq : Q (enc (lenF 0 L)) μ) : wDef (T k) 1 ir_length_of [tupS L] μ Q := by
  simp only [wDef, ir_length_of]
  rw [show startD 1 [tupS L] = [some (tupS L)] from rfl, wS1]
  simp only [wS, wE, wEs, r_getV0, r_getVs]
  refine tc (m := 5) (by omega) (by decide) ⟨L, S, rfl, hS, hc, ?_⟩
  try dsimp only
  rw [wS1]
  simp only [wS, wE, wEs, r_getV0, r_getVs]
  exact tc (m := 3) (by omega) (by decide) ⟨L, m, rfl, hb, hl, hm, rt_here hq⟩
theorem b_simplest_in (hk : 3 ≤ k) {p : Rf.Sp} (hp : p.ok) (h1 : Bd 200 p.lo) (h2 : Bd 200 p.hi) (hq : ∀ t, Smp p t → Q (enc t) μ) : wDef (T k) 1 ir_simplest_in [encS p] μ Q := by
  simp only [wDef, ir_simplest_in]
  rw [show startD 1 [encS p] = [some (encS p)] from rfl, wS1]
  simp only [wS, wT, wE, wEs, ofE, r_getV0, r_getVs]
  refine tc (m := 3) (by omega) (by decide) ⟨p, rfl, hp, h1.mono (by decide), h2.mono (by decide), ?_⟩
  simp only [r_truB, Bool.not_true, Bool.false_eq_true, if_false]
  rw [wS0]
  try dsimp only
  rw [wS1]
  simp only [wS, wE, wEs, r_getV0, r_getVs]
  exact tc (m := 3) (by omega) (by decide) ⟨p, rfl, hp, h1, h2, fun t ht => rt_here (hq t ht)⟩
end
end K30


set_option Elab.async false
set_option linter.all false
set_option maxRecDepth 100000
/-! Q6: the turns of the simplest number -/
namespace Rf
open PySem L2
def encH : Option Rat → D
  | none => .tup [.int 1, .int 0]
  | some h => enc h
def lastH (lo : Rat) (lf : Bool) : Option Rat → Bool → Int
  | none, _ => fstW lo lf
  | some h, hf => lstW h hf
def denH : Option Rat → Int
  | none => 0
  | some h => h.den
def numH : Option Rat → Int
  | none => 1
  | some h => h.num
theorem le_int {x : Rat} {k : Int} : x ≤ (k : Rat) ↔ x.num ≤ k * x.den := by
  have := Rat.le_iff x (k : Rat)
  simpa using this
theorem lt_int {x : Rat} {k : Int} : x < (k : Rat) ↔ x.num < k * x.den := by
  have := Rat.lt_iff x (k : Rat)
  simpa using this
theorem int_le {x : Rat} {k : Int} : (k : Rat) ≤ x ↔ k * x.den ≤ x.num := by
  have := Rat.le_iff (k : Rat) x
  simpa using this
structure St (p : Sp) (fl : List Int) (lo : Rat) (lf : Bool) (hi : Option Rat) (hf : Bool) : Prop where
  bl : Bd 200 lo
  bh : ∀ h, hi = some h → Bd 200 h
  ne : ∃ y, inJ lo lf hi hf y
  ini : fl = [] → lo = p.lo ∧ lf = p.lf ∧ hi = some p.hi ∧ hf = p.hf
  up : fl ≠ [] → ∀ t, 0 < t → Best lo lf hi hf t → Smp p (fl.foldr fwd t)
  fb : ∀ w ∈ fl, w.natAbs < 2 ^ 202
  tl : ∀ w ∈ fl.drop 1, 1 ≤ w
  big : fl ≠ [] → 2 ≤ fstW lo lf ∧ ∃ e : Nat, e + fl.length ≤ 410 ∧ (lo.num + numH hi) * (lo.den + denH hi) < ((2 ^ e : Nat) : Int) ∧ 0 < lo.num ∧ 0 < numH hi
theorem fst_bd {x : Rat} {f : Bool} (h : Bd 200 x) : (fstW x f).natAbs < 2 ^ 201 := by
  have h1 : x.floor.natAbs ≤ 2 ^ 200 := by
    have := h.1
    rw [Rat.floor_def]
    have d := x.den_pos
    have := Int.natAbs_ediv_le_natAbs x.num x.den
    omega
  unfold fstW
  split <;> omega
theorem mid_in {p : Sp} (h : p.ok) : ∃ y, inJ p.lo p.lf (some p.hi) p.hf y := by
  rcases ok_iff.mp h with h | ⟨h, h1, h2⟩
  · exact ⟨(p.lo + p.hi) / 2, .inl (by grind), .inl (by grind)⟩
  · exact ⟨p.lo, .inr ⟨rfl, h1⟩, .inr ⟨h, h2⟩⟩
theorem st_ini {p : Sp} (h : p.ok) (h1 : Bd 200 p.lo) (h2 : Bd 200 p.hi) : St p [] p.lo p.lf (some p.hi) p.hf :=
  ⟨h1, fun h e => by cases e; exact h2, mid_in h, fun _ => ⟨rfl, rfl, rfl, rfl⟩, fun h => (h rfl).elim, by simp, by simp, fun h => (h rfl).elim⟩
theorem smp_int {p : Sp} (hl : fstW p.lo p.lf ≤ lstW p.hi p.hf) : Smp p (((if fstW p.lo p.lf > 0 then fstW p.lo p.lf else min (lstW p.hi p.hf) 0 : Int)) : Rat) := by
  generalize ht : (if fstW p.lo p.lf > 0 then fstW p.lo p.lf else min (lstW p.hi p.hf) 0 : Int) = t
  refine ⟨⟨fst_le.mpr (by split at ht <;> omega), lst_le.mpr (by split at ht <;> omega)⟩, fun y _ => ?_, fun _ => ?_, fun h => ?_⟩
  · rw [Rat.den_intCast]; exact y.den_pos
  · rw [Rat.num_intCast, ht]
  · rw [Rat.den_intCast] at h; omega
theorem st_facts {p : Sp} {fl : List Int} {lo h : Rat} {lf hf : Bool} {w : Int} (s : St p fl lo lf (some h) hf) (hno : lstW h hf < fstW lo lf) (hw : fstW lo lf = w + 1) :
    ¬ inHi (some h) hf ((w + 1 : Int) : Rat) ∧ (w : Rat) < h ∧ h ≤ ((w + 1 : Int) : Rat) ∧ (w : Rat) ≤ lo ∧ lo < ((w + 1 : Int) : Rat) := by
  have h1 : ¬ inHi (some h) hf ((w + 1 : Int) : Rat) := fun z => by
    have := lst_le.mp z
    omega
  obtain ⟨y, hy⟩ := s.ne
  obtain ⟨y1, y2⟩ := between hw h1 hy
  have e : ((w + 1 : Int) : Rat) = (w : Rat) + 1 := by rw [Rat.intCast_add, Rat.intCast_one]
  refine ⟨h1, ?_, ?_, ?_, ?_⟩
  · rcases hy.2 with q | ⟨q, _⟩ <;> grind
  · by_cases q : h ≤ ((w + 1 : Int) : Rat)
    · exact q
    · exact absurd (.inl (by grind)) h1
  · by_cases q : (w : Rat) ≤ lo
    · exact q
    · have : inLo lo lf (w : Rat) := .inl (by grind)
      have := fst_le.mp this
      omega
  · rcases hy.1 with q | ⟨q, _⟩ <;> grind
theorem enc_inv {w : Int} {x : Rat} (h : (w : Rat) < x) : enc (inv1 w x) = .tup [.int x.den, .int (x.num - w * x.den)] := by
  obtain ⟨a, b, c⟩ := inv1_ok h
  unfold enc
  rw [a, b]
theorem enc_next {w : Int} {x : Rat} (h : (w : Rat) ≤ x) : encH (nextHi w x) = .tup [.int x.den, .int (x.num - w * x.den)] := by
  unfold nextHi
  split
  · rename_i e
    subst e
    simp [encH]
  · exact enc_inv (by grind)
theorem den_next {w : Int} {x : Rat} (h : (w : Rat) ≤ x) : denH (nextHi w x) = x.num - w * x.den ∧ numH (nextHi w x) = x.den := by
  unfold nextHi
  split
  · rename_i e
    subst e
    simp [denH, numH]
  · obtain ⟨a, b, c⟩ := inv1_ok (w := w) (x := x) (by grind)
    exact ⟨b, a⟩
theorem last_next {w : Int} {x y : Rat} {f g : Bool} (h : (w : Rat) ≤ x) : lastH y f (nextHi w x) g = if x.num - w * x.den = 0 then fstW y f else lstW (inv1 w x) g := by
  have := (den_next h).1
  unfold nextHi at *
  split
  · rename_i e
    simp [e, denH] at this
    simp [lastH, this.symm]
  · rename_i e
    simp [e, denH] at this
    have := (inv1 w x).den_pos
    rw [if_neg (by omega)]
    rfl
theorem st_step {p : Sp} {fl : List Int} {lo h : Rat} {lf hf : Bool} {w : Int} (s : St p fl lo lf (some h) hf) (hno : lstW h hf < fstW lo lf) (hw : fstW lo lf = w + 1) : St p (fl ++ [w]) (inv1 w h) hf (nextHi w lo) lf := by
  obtain ⟨f1, f2, f3, f4, f5⟩ := st_facts s hno hw
  obtain ⟨a1, a2, a3⟩ := inv1_ok f2
  obtain ⟨b1, b2⟩ := den_next f4
  have g1 := le_int.mp f3
  have g2 := lt_int.mp f5
  have g3 := int_le.mp f4
  have hd := h.den_pos
  have ld := lo.den_pos
  have bh := s.bh h rfl
  have bl := s.bl
  rw [Int.add_mul] at g1 g2
  obtain ⟨y, hy⟩ := s.ne
  have hwy := (between hw f1 hy).1
  have h2 : 2 ≤ fstW (inv1 w h) hf := by
    by_cases q : 2 ≤ fstW (inv1 w h) hf
    · exact q
    · have : inLo (inv1 w h) hf ((1 : Int) : Rat) := fst_le.mpr (by omega)
      have key : (inv1 w h) ≤ ((1 : Int) : Rat) → h = ((w + 1 : Int) : Rat) := fun z => by
        have z := le_int.mp z
        rw [a1, a2] at z
        have : h.num = (w + 1) * h.den := by rw [Int.add_mul]; omega
        have c : ((w + 1 : Int) : Rat) ≤ h := int_le.mpr (by omega)
        grind
      exfalso
      rcases this with z | ⟨z, zf⟩
      · have := key (by grind)
        have z := lt_int.mp z
        rw [a1, a2] at z
        omega
      · have := key (by grind)
        exact f1 (.inr ⟨this.symm, zf⟩)
  refine ⟨?_, ?_, ?_, fun z => by simp at z, ?_, ?_, ?_, fun _ => ⟨h2, ?_⟩⟩
  · refine ⟨?_, ?_⟩
    · rw [a1]; simpa using bh.2
    · have := bh.2
      omega
  · intro h' e
    unfold nextHi at e
    split at e
    · cases e
    · cases e
      rename_i ne
      obtain ⟨c1, c2, c3⟩ := inv1_ok (w := w) (x := lo) (by grind)
      have := bl.2
      refine ⟨?_, ?_⟩
      · rw [c1]; simpa using this
      · omega
  · exact ⟨_, (turn_in hw f2 hwy).mp hy⟩
  · intro _ t ht0 ht
    rw [List.foldr_append]
    by_cases hfl : fl = []
    · obtain ⟨e1, e2, e3, e4⟩ := s.ini hfl
      cases e3
      subst e1 e2 e4 hfl
      obtain ⟨c1, c2⟩ := best_step hw f1 f2 ht0 ht
      obtain ⟨k1, k2, k3, k4⟩ := fwd_ok (w := w) ht0
      have bt : ∀ y, inJ p.lo p.lf (some p.hi) p.hf y → (w : Rat) < y ∧ y < (w : Rat) + 1 := fun y hy => between hw f1 hy
      refine ⟨c1, fun y hy => (c2 y hy).1, fun h1 => ?_, fun h1 => sole_of bt c1 (fun y hy => (c2 y hy).1) h1⟩
      exfalso
      obtain ⟨z1, z2⟩ := bt _ c1
      have h1 : (fwd w t).den = 1 := h1
      have e : fwd w t = ((fwd w t).num : Rat) := Rat.ext (by simp) (by simp [h1])
      rw [e] at z1 z2
      have z1 := Rat.intCast_lt_intCast.mp z1
      have z2 : (fwd w t).num < w + 1 := Rat.intCast_lt_intCast.mp (by rw [Rat.intCast_add, Rat.intCast_one]; exact z2)
      omega
    · obtain ⟨h2, _⟩ := s.big hfl
      have b := best_up (by omega) hw f1 f2 ht0 ht
      obtain ⟨k1, k2, k3, k4⟩ := fwd_ok (w := w) ht0
      refine s.up hfl _ ?_ b
      have : (0 : Rat) ≤ (w : Rat) := Rat.intCast_le_intCast.mpr (show (0 : Int) ≤ w by omega)
      show 0 < fwd w t
      grind
  · intro v hv
    rcases List.mem_append.mp hv with hv | hv
    · exact s.fb v hv
    · simp at hv
      subst hv
      have := fst_bd (f := lf) bl
      rw [hw] at this
      omega
  · intro v hv
    by_cases hfl : fl = []
    · subst hfl; simp at hv
    · obtain ⟨h2, _⟩ := s.big hfl
      rw [List.drop_append_of_le_length (by have := List.length_pos_iff.mpr hfl; omega)] at hv
      rcases List.mem_append.mp hv with hv | hv
      · exact s.tl v hv
      · simp at hv
        omega
  · rw [a1, a2, b1, b2]
    have D1 : (h.num - w * h.den) + (lo.num - w * lo.den) ≤ h.den + lo.den := by omega
    have D0 : 0 ≤ (h.num - w * h.den) + (lo.num - w * lo.den) := by omega
    by_cases hfl : fl = []
    · subst hfl
      refine ⟨402, by simp, ?_, by omega, by omega⟩
      have p1 : (h.den + lo.den : Int) < 2 ^ 201 := by have := bh.2; have := bl.2; omega
      have : ((h.den : Int) + lo.den) * ((h.num - w * h.den) + (lo.num - w * lo.den)) ≤ ((h.den : Int) + lo.den) * (h.den + lo.den) := Int.mul_le_mul_of_nonneg_left D1 (by omega)
      have : ((h.den : Int) + lo.den) * (h.den + lo.den) ≤ ((h.den : Int) + lo.den) * 2 ^ 201 := Int.mul_le_mul_of_nonneg_left (by omega) (by omega)
      have : ((h.den : Int) + lo.den) * 2 ^ 201 < 2 ^ 201 * 2 ^ 201 := Int.mul_lt_mul_of_pos_right p1 (by decide)
      have e : (2 ^ 201 * 2 ^ 201 : Int) = ((2 ^ 402 : Nat) : Int) := by decide
      omega
    · obtain ⟨h2, e, e1, e2, e3, e4⟩ := s.big hfl
      have w1 : 1 ≤ w := by omega
      have e2 : (lo.num + h.num) * (lo.den + h.den) < ((2 ^ e : Nat) : Int) := e2
      have e4 : 0 < h.num := e4
      have m1 : 1 * (h.den : Int) ≤ w * h.den := Int.mul_le_mul_of_nonneg_right w1 (by omega)
      have m2 : 1 * (lo.den : Int) ≤ w * lo.den := Int.mul_le_mul_of_nonneg_right w1 (by omega)
      have half : 2 * ((h.num - w * h.den) + (lo.num - w * lo.den)) ≤ lo.num + h.num := by omega
      have p1 : (0 : Int) < lo.num + h.num := by omega
      have p2 : (0 : Int) < lo.den + h.den := by omega
      have p3 := Int.mul_pos p1 p2
      have e0 : e ≠ 0 := fun z => by subst z; omega
      obtain ⟨d, rfl⟩ : ∃ d, e = d + 1 := ⟨e - 1, by omega⟩
      refine ⟨d, by simp; omega, ?_, by omega, by omega⟩
      have q1 : 2 * ((h.num - w * h.den) + (lo.num - w * lo.den)) * (lo.den + h.den) ≤ (lo.num + h.num) * (lo.den + h.den) := Int.mul_le_mul_of_nonneg_right half (by omega)
      have q2 : ((2 ^ (d + 1) : Nat) : Int) = 2 * ((2 ^ d : Nat) : Int) := by rw [Nat.pow_succ]; omega
      rw [Int.mul_assoc] at q1
      rw [q2] at e2
      have q3 : ((h.den : Int) + lo.den) * ((h.num - w * h.den) + (lo.num - w * lo.den)) = ((h.num - w * h.den) + (lo.num - w * lo.den)) * (lo.den + h.den) := by
        rw [Int.mul_comm, Int.add_comm (h.den : Int)]
      rw [q3]
      omega
theorem st_len {p : Sp} {fl : List Int} {lo : Rat} {lf hf : Bool} {hi : Option Rat} (s : St p fl lo lf hi hf) : fl.length ≤ 410 := by
  by_cases h : fl = []
  · subst h; simp
  · obtain ⟨_, e, e1, _⟩ := s.big h
    omega
theorem st_end {p : Sp} {fl : List Int} {lo : Rat} {lf hf : Bool} {hi : Option Rat} (s : St p fl lo lf hi hf) (hn : fl ≠ []) (hle : fstW lo lf ≤ lastH lo lf hi hf) : Smp p (fl.foldr fwd ((fstW lo lf : Int) : Rat)) ∧ (0 : Rat) < ((fstW lo lf : Int) : Rat) := by
  obtain ⟨h2, _⟩ := s.big hn
  have pos : (0 : Rat) < ((fstW lo lf : Int) : Rat) := Rat.intCast_lt_intCast.mpr (show (0 : Int) < fstW lo lf by omega)
  refine ⟨s.up hn _ pos (best_base (by omega) ?_), pos⟩
  cases hi with
  | none => trivial
  | some h => exact lst_le.mpr hle
theorem rev_tl {fl : List Int} (h : ∀ w ∈ fl.drop 1, 1 ≤ w) {i : Nat} {w : Int} (hi : i + 1 < fl.reverse.length) (hw : fl.reverse[i]? = some w) : 1 ≤ w := by
  refine h w ?_
  rw [List.length_reverse] at hi
  rw [List.getElem?_reverse (by omega)] at hw
  refine List.mem_of_getElem? (i := fl.length - 1 - i - 1) ?_
  rw [List.getElem?_drop]
  rw [show 1 + (fl.length - 1 - i - 1) = fl.length - 1 - i by omega]
  exact hw
theorem fwd_pos {w : Int} {t : Rat} (h : 0 < t) (hw : 1 ≤ w) : 0 < fwd w t := by
  obtain ⟨k1, k2, k3, k4⟩ := fwd_ok (w := w) h
  have : (0 : Rat) ≤ (w : Rat) := Rat.intCast_le_intCast.mpr (show (0 : Int) ≤ w by omega)
  grind
theorem fwd_bd {w : Int} {t : Rat} {n : Nat} (h : 0 < t) (hw : w.natAbs < 2 ^ 202) (ht : Bd n t) : Bd (n + 203) (fwd w t) := by
  obtain ⟨k1, k2, _, _⟩ := fwd_ok (w := w) h
  refine ⟨?_, ?_⟩
  · rw [k1]
    have a := mul_lt2 hw ht.1
    have b := ht.2
    have e : 2 ^ (n + 203) = 2 ^ (202 + n) + 2 ^ (202 + n) := by rw [show n + 203 = (202 + n) + 1 by omega, Nat.pow_succ]; omega
    have c := Int.natAbs_add_le (w * t.num) t.den
    rw [Int.natAbs_mul, Int.natAbs_natCast] at c
    have d : 2 ^ n ≤ 2 ^ (202 + n) := Nat.pow_le_pow_right (by decide) (by omega)
    omega
  · have a := ht.1
    have d : 2 ^ n ≤ 2 ^ (n + 203) := Nat.pow_le_pow_right (by decide) (by omega)
    have : (fwd w t).den = t.num.natAbs := by omega
    omega
end Rf

set_option Elab.async false
set_option linter.all false
set_option maxRecDepth 100000
namespace K30
open PySem L2 Rf
def swB : CSs :=
    (.cons (.set 8 (.bin .Sub (.var 5) (.cst (.int 1))))
    (.cons (.drop (.mth .append (.var 7) (.cons (.var 8) .nil)))
    (.cons (.set 9 (.tup (.cons (.idx (.var 1) (.cst (.int 1))) (.cons (.bin .Sub (.idx (.var 1) (.cst (.int 0))) (.bin .Mult (.var 8) (.idx (.var 1) (.cst (.int 1))))) .nil))))
    (.cons (.set 1 (.tup (.cons (.idx (.var 2) (.cst (.int 1))) (.cons (.bin .Sub (.idx (.var 2) (.cst (.int 0))) (.bin .Mult (.var 8) (.idx (.var 2) (.cst (.int 1))))) .nil))))
    (.cons (.par 3 4 (.var 4) (.var 3))
    (.cons (.set 2 (.var 9))
    (.cons (.set 5 (.cal 8 (.cons (.var 1) (.cons (.var 3) .nil))))
    (.cons (.set 6 (.ife (.cmp .Eq (.idx (.var 2) (.cst (.int 1))) (.cst (.int 0))) (.var 5) (.cal 9 (.cons (.var 2) (.cons (.var 4) .nil)))))
    .nil))))))))
section
variable {k : Nat} {μ : M} {Q : WQ}
theorem encH_some {h : Rat} : encH (some h) = enc h := rfl
theorem g_srcC {xs : List D} : srcOf (μ ++ [.lst xs]) (.cel μ.length) = some ⟨some (μ.length, xs), xs⟩ := by simp [srcOf, asL]
theorem sw_body (hk : 2 ≤ k) {E : DEnds} {r0 o8 o9 oa ob : Option D} {ol : D} {lo h : Rat} {lf hf : Bool} {fl : List Int} {w f : Int}
    (e1 : f - 1 = w) (f2 : (w : Rat) < h) (f4 : (w : Rat) ≤ lo) (hl : fl.length ≤ 410) (bw : w.natAbs < 2 ^ 202) (bl : Bd 200 lo) (bh : Bd 200 h) (b1 : Bd 200 (inv1 w h)) (b2 : ∀ x, nextHi w lo = some x → Bd 200 x)
    (fin : ∀ d : D, d = .int (lastH (inv1 w h) hf (nextHi w lo) lf) → E.nx [r0, some (enc (inv1 w h)), some (encH (nextHi w lo)), some (.int (b01 hf)), some (.int (b01 lf)), some (.int (fstW (inv1 w h) hf)), some d, some (.cel μ.length), some (.int w), some (encH (nextHi w lo)), oa, ob] (μ ++ [CO.lst ((fl ++ [w]).map D.int)])) :
    wSs (T k) swB E [r0, some (enc lo), some (enc h), some (.int (b01 lf)), some (.int (b01 hf)), some (.int f), some ol, some (.cel μ.length), o8, o9, oa, ob] (μ ++ [CO.lst (fl.map D.int)]) := by
  have ea : List.map D.int fl ++ [D.int w] = (fl ++ [w]).map D.int := by simp
  have bld : ((lo.den : Nat) : Int).natAbs < 2 ^ 200 := by rw [Int.natAbs_natCast]; exact bl.2
  have bhd : ((h.den : Nat) : Int).natAbs < 2 ^ 200 := by rw [Int.natAbs_natCast]; exact bh.2
  have m1 : CMul w lo.den ∨ CMulW w lo.den := mw bw bld (by decide)
  have m2 : CMul w h.den ∨ CMulW w h.den := mw bw bhd (by decide)
  have sl : (fl.map D.int).length < sizeLine := line_lt (by simp; omega)
  have c1 : Bd 9000 (inv1 w h) := b1.mono (by decide)
  have c2 : ∀ x, nextHi w lo = some x → Bd 9000 x := fun x e => (b2 x e).mono (by decide)
  clear bw bld bhd bl bh b1 b2 hl
  unfold swB
  rw [wS1]
  simp only [wS, wE, wEs, opBin, r_opI, r_getV0, r_getVs, e1]
  simp only [List.set]
  rw [wS1]
  simp only [wS, wE, wEs, r_getV0, r_getVs, e_mok, e_app]
  refine ⟨trivial, trivial, sl, ?_⟩
  simp only [ea]
  rw [wS1]
  simp only [wS, wE, wEs]
  simp only [r_getV0, r_getVs]
  simp only [enc0, enc1]
  simp only [opBin]
  simp only [r_opI]
  refine ⟨m1, trivial, line_le (by simp), ?_⟩
  simp only [List.set]
  rw [wS1]
  simp only [wS, wE, wEs]
  simp only [r_getV0, r_getVs]
  simp only [enc0, enc1]
  simp only [opBin]
  simp only [r_opI]
  refine ⟨m2, trivial, line_le (by simp), ?_⟩
  rw [← enc_inv f2, ← enc_next f4]
  simp only [List.set]
  rw [wS1]
  simp only [wS, wE, wEs, r_getV0, r_getVs]
  simp only [List.set]
  rw [wS1]
  simp only [wS, wE, wEs, r_getV0, r_getVs]
  simp only [List.set]
  rw [wS1]
  simp only [wS, wE, wEs, r_getV0, r_getVs]
  refine tc (m := 2) (by omega) (by decide) ⟨_, _, rfl, c1, ?_⟩
  simp only [List.set]
  rw [wS1]
  have hx : ∀ P : WQ, opIdx (encH (nextHi w lo)) (.int 1) (μ ++ [.lst ((fl ++ [w]).map D.int)]) P = P (.int (lo.num - w * lo.den)) (μ ++ [.lst ((fl ++ [w]).map D.int)]) := fun P => by
    rw [enc_next f4]; simp
  simp only [wS, wT, wE, wEs, wCmp, opCmp, r_getV0, r_getVs, hx, q_ii]
  have el := last_next (w := w) (x := lo) (y := inv1 w h) (f := hf) (g := lf) f4
  by_cases z : lo.num - w * lo.den = 0
  · rw [if_pos z] at el
    simp only [z, decide_true, if_true]
    rw [wS0]
    exact fin _ (by rw [el])
  · rw [if_neg z] at el
    simp only [z, decide_false, Bool.false_eq_true, if_false]
    have ne : ¬ (w : Rat) = lo := fun q => z (by subst q; simp)
    have en : nextHi w lo = some (inv1 w lo) := by unfold nextHi; rw [if_neg ne]
    refine tc (m := 2) (by omega) (by decide) ⟨inv1 w lo, lf, by rw [en]; rfl, c2 _ en, ?_⟩
    try dsimp only
    rw [wS0]
    exact fin _ (by rw [el])
theorem b_simplest_within (hk : 2 ≤ k) {p : Rf.Sp} (hp : p.ok) (h1 : Bd 200 p.lo) (h2 : Bd 200 p.hi) (hq : ∀ t, Smp p t → Q (enc t) μ) : wDef (T k) 12 ir_simplest_within [encS p] μ Q := by
  simp only [wDef, ir_simplest_within]
  rw [show startD 12 [encS p] = [some (encS p), none, none, none, none, none, none, none, none, none, none, none] from rfl, wS1]
  simp only [wS, wE, r_getV0, r_getVs, encS, setsD, List.set]
  rw [wS1]
  simp only [wS, wE, wEs, r_getV0, r_getVs]
  refine tc (m := 2) (by omega) (by decide) ⟨p.lo, p.lf, rfl, h1.mono (by decide), ?_⟩
  simp only [List.set]
  rw [wS1]
  simp only [wS, wE, wEs, r_getV0, r_getVs]
  refine tc (m := 2) (by omega) (by decide) ⟨p.hi, p.hf, rfl, h2.mono (by decide), ?_⟩
  simp only [List.set]
  rw [wS1]
  simp only [wS, wT, wE, wEs, wCmp, opCmp, r_getV0, r_getVs, r_cmpI]
  by_cases hle : fstW p.lo p.lf ≤ lstW p.hi p.hf
  · have sm := smp_int hle
    simp only [hle, decide_true, if_true]
    rw [wS1]
    simp only [wS, wT, wE, wEs, wCmp, opCmp, r_getV0, r_getVs, r_cmpI, r_min]
    by_cases h0 : fstW p.lo p.lf > 0
    · simp only [h0, decide_true, if_true] at sm ⊢
      refine ⟨line_le (by simp), rt_here (hq _ sm)⟩
    · simp only [h0, decide_false, Bool.false_eq_true, if_false] at sm ⊢
      have e : (if (0 : Int) < lstW p.hi p.hf then (0 : Int) else lstW p.hi p.hf) = min (lstW p.hi p.hf) 0 := by split <;> omega
      rw [e]
      refine ⟨line_le (by simp), rt_here (hq _ sm)⟩
  · simp only [hle, decide_false, Bool.false_eq_true, if_false]
    rw [wS0]
    try dsimp only
    rw [wS1]
    simp only [wS, wE, wEs]
    refine new_c (by simp) ?_
    simp only [List.set]
    rw [wS1]
    refine ⟨fun m ρ μ' => ∃ (fl : List Int) (lo : Rat) (lf : Bool) (hi : Option Rat) (hf : Bool) (o8 o9 : Option D), μ' = μ ++ [.lst (fl.map D.int)] ∧
      ρ = [some (encS p), some (enc lo), some (encH hi), some (.int (b01 lf)), some (.int (b01 hf)), some (.int (fstW lo lf)), some (.int (lastH lo lf hi hf)), some (.cel μ.length), o8, o9, none, none] ∧ St p fl lo lf hi hf ∧ m + fl.length = 411 ∧ (fl = [] → lastH lo lf hi hf < fstW lo lf),
      ⟨411, [], p.lo, p.lf, some p.hi, p.hf, none, none, rfl, rfl, st_ini hp h1 h2, rfl, fun _ => by show lstW p.hi p.hf < _; omega⟩, ?_⟩
    rintro m ρ μ' ⟨fl, lo, lf, hi, hf, o8, o9, rfl, rfl, st, hm, hne⟩
    have hl := st_len st
    simp only [wT, wE, wEs, wCmp, opCmp, r_getV0, r_getVs, r_cmpI]
    by_cases hgt : fstW lo lf > lastH lo lf hi hf
    · simp only [hgt, decide_true, if_true]
      cases hi with
      | none => exact absurd hgt (by simp [lastH])
      | some h =>
      have hgt : lstW h hf < fstW lo lf := hgt
      obtain ⟨w, hw⟩ : ∃ w, fstW lo lf = w + 1 := ⟨fstW lo lf - 1, by omega⟩
      obtain ⟨f1, f2, f3, f4, f5⟩ := st_facts st hgt hw
      have st' := st_step st hgt hw
      have bw : w.natAbs < 2 ^ 202 := st'.fb w (by simp)
      have bl := st.bl
      have bh := st.bh h rfl
      have e1 : fstW lo lf - 1 = w := by omega
      refine sw_body hk e1 f2 f4 hl bw bl bh st'.bl st'.bh ?_
      rintro d rfl
      exact ⟨m - 1, by omega, fl ++ [w], _, _, _, _, _, _, rfl, rfl, st', by simp; omega, fun z => by simp at z⟩
    · simp only [hgt, decide_false, Bool.false_eq_true, if_false]
      have hfl : fl ≠ [] := fun z => by have := hne z; omega
      obtain ⟨sm, pos⟩ := st_end st hfl (by omega)
      have fb := st.fb
      have fbd := fst_bd (f := lf) st.bl
      have hbd0 : Bd (202 + 203 * 0) ((fstW lo lf : Int) : Rat) := Bd.int (n := 202) (by decide) (Nat.lt_trans fbd (Nat.pow_lt_pow_right (by decide) (by decide)))
      rw [← List.foldl_reverse] at sm
      have frl : fl.reverse.length ≤ 410 := by simpa using hl
      have frb : ∀ w ∈ fl.reverse, w.natAbs < 2 ^ 202 := fun w hw => fb w (by simpa using hw)
      have er : (fl.map D.int).reverse = fl.reverse.map D.int := by rw [List.map_reverse]
      rw [wS1]
      simp only [wS, wE, wEs, r_getV0, r_getVs]
      simp only [List.set]
      rw [wS1]
      simp only [wS, wE, wEs, wI, r_getV0, r_getVs, g_srcC, er]
      have frt : ∀ i w, i + 1 < fl.reverse.length → fl.reverse[i]? = some w → 1 ≤ w := fun i w => rev_tl st.tl
      generalize fl.reverse = rl at sm frl frb er frt
      generalize hT : ((fstW lo lf : Int) : Rat) = t0 at sm pos hbd0
      refine ⟨fun i ρ μ' => μ' = μ ++ [.lst (fl.map D.int)] ∧ ∃ o8, ρ = [some (encS p), some (enc lo), some (encH hi), some (.int (b01 lf)), some (.int (b01 hf)), some (.int (fstW lo lf)), some (.int (lastH lo lf hi hf)), some (.cel μ.length), o8, o9, some (.int ((rl.take i).foldl (fun t w => fwd w t) t0).num), some (.int ((rl.take i).foldl (fun t w => fwd w t) t0).den)] ∧ (i < rl.length ∨ i = 0 → 0 < (rl.take i).foldl (fun t w => fwd w t) t0) ∧ Bd (202 + 203 * i) ((rl.take i).foldl (fun t w => fwd w t) t0),
        ⟨rfl, _, by rw [List.take_zero]; subst hT; rfl, fun _ => pos, hbd0⟩, fun i ρ' μ' hh _ n xs e => by obtain ⟨rfl, _⟩ := hh; cases e; simp, ?_, ?_⟩
      · rintro i x ρ' μ' hx ⟨rfl, o8', rfl, hpos, hbd⟩
        have hx : (rl.map D.int)[i]? = some x := hx
        rw [List.getElem?_map] at hx
        cases hn : rl[i]? with
        | none => rw [hn] at hx; cases hx
        | some w =>
        rw [hn] at hx
        cases hx
        have hi := (List.getElem?_eq_some_iff.mp hn).1
        have bw := frb w (List.mem_of_getElem? hn)
        have et : (rl.take (i + 1)).foldl (fun t w => fwd w t) t0 = fwd w ((rl.take i).foldl (fun t w => fwd w t) t0) := by
          rw [List.take_add_one, hn, List.foldl_append]; rfl
        have hpos := hpos (.inl hi)
        generalize (rl.take i).foldl (fun t w => fwd w t) t0 = r at hpos hbd et
        obtain ⟨k1, k2, k3, k4⟩ := fwd_ok (w := w) hpos
        refine ⟨_, rfl, ?_⟩
        simp only [List.set]
        rw [wS1]
        simp only [wS, wE, wEs, opBin, r_opI, r_getV0, r_getVs]
        refine ⟨mw bw hbd.1 (by omega), ?_⟩
        rw [r_addI, wS0]
        simp only [List.set]
        rw [et, k1, k2]
        exact ⟨trivial, _, rfl, fun hh => fwd_pos hpos (frt i w (by omega) hn), (fwd_bd hpos bw hbd).mono (by omega)⟩
      · rintro ρ' μ' ⟨rfl, o8', rfl, hpos, hbd⟩
        rw [wS1]
        simp only [wS, wE, wEs, r_getV0, r_getVs]
        have e : rl.take (rl.map D.int).length = rl := by rw [List.length_map, List.take_length]
        simp only [e]
        refine ⟨line_le (by simp), rt_pure (by rfl) (hq _ sm)⟩
end
end K30


set_option Elab.async false
set_option linter.all false
set_option maxRecDepth 100000
namespace K30
open PySem L2 Rf
section
variable {k : Nat} {μ : M} {Q : WQ}
theorem cm1 {i j : Int} (h1 : -4000000000000000000 ≤ i) (h2 : i ≤ 4000000000000000000) : CMul i j ∨ CMulW i j := .inl (.inl ⟨by omega, by omega⟩)
theorem b__law_begin {ns : List Int} {place : Int} (hl : ns.length ≤ 63) (hp : 0 ≤ place ∧ place < 3) (hq : ∀ μ', WellOk μ.length 0 μ' → Q (.cel μ.length) μ') : wDef (T k) 4 ir__law_begin [.scr (ns.map .int), .int place] μ Q := by
  simp only [wDef, ir__law_begin, startD]
  rw [wS1]; simp [wS, wE, wEs, wT, wI, wO, wF, ofE, wCmp, opCmp, setsD]
  refine ⟨cm1 (by decide) (by decide), ?_⟩
  rw [wS1]; simp [wS, wE, wEs, wT, wI, wO, wF, ofE, wCmp, opCmp, setsD]
  have hc : cutD (ns.map D.int) none (some 200) = ((ns.drop (HT.sIx (ns.map D.int).length 0 none)).take (HT.sIx (ns.map D.int).length (ns.map D.int).length (some 200) - HT.sIx (ns.map D.int).length 0 none)).map D.int := by
    unfold cutD
    rw [← List.map_drop, ← List.map_take]
  have hlc : (cutD (ns.map D.int) none (some 200)).length ≤ 63 := by
    unfold cutD
    simp
    omega
  refine new_l (line_le (by omega)) ?_
  simp [srcOf]
  refine ⟨fun _ ρ μ' => μ' = μ ∧ ∃ m o, ρ = [some (.scr (ns.map .int)), some (.int place), some (.int m), o] ∧ 0 ≤ m ∧ m < 2 ^ 90, ⟨rfl, _, _, rfl, by omega, by omega⟩, fun _ _ _ _ _ _ _ h => (by cases h), ?_, ?_⟩
  · rintro i x ρ μ' hx ⟨rfl, m, o, rfl, h0, h1⟩
    have hx := List.mem_of_getElem? hx
    rw [hc] at hx
    obtain ⟨z, _, rfl⟩ := List.mem_map.mp hx
    refine ⟨_, rfl, ?_⟩
    rw [wS1]; simp [wS, wE, wEs, wT, wI, wO, wF, ofE, wCmp, opCmp, setsD]
    refine ⟨.inl (.inr ⟨by decide, by decide⟩), .inl (.inr ⟨by decide, by decide⟩), ?_, ?_⟩
    · exact Int.emod_nonneg _ (by decide)
    · exact Int.lt_of_lt_of_le (Int.emod_lt_of_pos _ (by decide)) (by decide)
  · rintro ρ μ' ⟨rfl, m, o, rfl, h0, h1⟩
    rw [wS1]
    refine set_val' (fun d => ∃ c, d = .int c) (fun P hP => ?_) ?_
    · simp [wE, wEs, wT, wCmp, opCmp]
      split
      · obtain ⟨p, rfl⟩ : ∃ p : Nat, place = p := ⟨place.toNat, by omega⟩
        have hp2 : p < (ns.map D.int).length := by simp; omega
        rw [at_nat hp2]
        simp
        exact hP _ ⟨_, rfl⟩
      · exact hP _ ⟨_, rfl⟩
    · rintro d ⟨c, rfl⟩
      simp only [List.set]
      rw [wS1]; simp [wS, wE, wEs, wT, wI, wO, wF, ofE, wCmp, opCmp, setsD]
      refine ⟨.inl ⟨by decide, by decide, by decide⟩, new_c (line_le (by simp)) (rt_here (hq _ (well_new ?_ h0 h1)))⟩
      split <;> split <;> omega
theorem b__law_pick {n b : Nat} {many : Int} (hw : WellOk n b μ) (hb : b ≤ BIG) (h0 : 0 < many) (h1 : many.natAbs < 2 ^ 400) (hq : ∀ r μ', Wl n (b + 1) μ μ' → 0 ≤ r → r < many → Q (.int r) μ') : wDef (T k) 4 ir__law_pick [.cel n, .int many] μ Q := by
  obtain ⟨μ0, a, m, t, hn, rfl, ha, hm, hm2, ht, htb⟩ := hw
  unfold BIG at hb
  have hd : ∀ i, CDivW i many := fun i => dv h0 h1 (by decide)
  have q : ∀ (r a m t : Int) , 0 ≤ a → 0 ≤ m → m < 2 ^ 90 → 0 ≤ t → t ≤ (b + 1 : Nat) → 0 ≤ r → r < many → Q (.int r) (μ0.set n (.lst [.int a, .int m, .int t])) := fun r a m t h1 h2 h3 h4 h5 h6 h7 => hq _ _ ⟨⟨.lst [.int a, .int m, .int t], by rw [List.set_set]⟩, μ0, a, m, t, hn, rfl, h1, h2, h3, h4, h5⟩ h6 h7
  simp only [wDef, ir__law_pick, startD]
  rw [wS1]; simp [wS, wE, wEs, wT, wI, wO, wF, ofE, wCmp, opCmp, setsD, hn]
  split
  · rw [wS1]; simp [wS, wE, wEs, wT, wI, wO, wF, ofE, wCmp, opCmp, setsD, hn, h0]
    rw [wS1]; simp [wS, wE, wEs, wT, wI, wO, wF, ofE, wCmp, opCmp, setsD, hn]
    refine ⟨hd _, ?_⟩
    rw [wS1]; simp [wS, wE, wEs, wT, wI, wO, wF, ofE, wCmp, opCmp, setsD, hn]
    exact rt_here (q _ _ _ _ (Int.ediv_nonneg ha (by omega)) hm hm2 ht (by omega) (Int.emod_nonneg _ (by omega)) (Int.emod_lt_of_pos _ h0))
  · rw [wS1]; simp [wS, wE, wEs, wT, wI, wO, wF, ofE, wCmp, opCmp, setsD, hn]
    rw [wS1]; simp [wS, wE, wEs, wT, wI, wO, wF, ofE, wCmp, opCmp, setsD, hn]
    refine ⟨cm1 (by decide) (by decide), .inr (cpw (n := 93) (j := 3) (by omega) (by decide)), ?_⟩
    generalize hx : (m + 3935559000370003845 * (t + 1)) ^ 3 + (t + 1) = y
    have m0 := Int.emod_nonneg y (b := 618970019642690137449562111) (by decide)
    have m1 := Int.emod_lt_of_pos y (b := 618970019642690137449562111) (by decide)
    generalize y % 618970019642690137449562111 = x at m0 m1 ⊢
    rw [wS1]; simp [wS, wE, wEs, wT, wI, wO, wF, ofE, wCmp, opCmp, setsD, hn]
    refine ⟨.inr (cpw (n := 92) (j := 3) (by omega) (by decide)), ?_⟩
    rw [wS1]; simp [wS, wE, wEs, wT, wI, wO, wF, ofE, wCmp, opCmp, setsD, hn, h0]
    exact ⟨dv (n := 20) (by decide) (by decide) (by decide), rt_here (q _ _ _ _ ha hm hm2 (by omega) (by omega) (Int.emod_nonneg _ (by omega)) (Int.emod_lt_of_pos _ h0))⟩
/-! the same -/
theorem bls : ∀ n : Nat, blsD (List.replicate n (D.bl true)) = some (List.replicate n true)
  | 0 => rfl
  | n + 1 => by
    show blsD (D.bl true :: List.replicate n (D.bl true)) = _
    simp only [blsD, bls n]
    rfl
theorem same_items {xs : List D} {Γ : Tab} {ρ : Rho} {a b : D} (hl : xs.length ≤ 1000) (ha : ρ.length = 3) (h0 : getV ρ 0 = some a) (h1 : getV ρ 1 = some b)
    (ea : ∀ (i : Nat) (x : D), xs[i]? = some x → ∀ P : WQ, P x μ → opIdx a (.int i) μ P) (eb : ∀ (i : Nat) (x : D), xs[i]? = some x → ∀ P : WQ, P x μ → opIdx b (.int i) μ P)
    (hr : ∀ x ∈ xs, ∀ P : WQ, P (.bl true) μ → Γ 33 [x, x] μ P) (hq : Q (.bl true) μ) :
    wLc (.nm 2) (wF Γ .nil) (wE Γ (.cal 33 (.cons (.idx (.var 0) (.var 2)) (.cons (.idx (.var 1) (.var 2)) .nil)))) [2] ⟨none, rangeD 0 xs.length⟩ ρ μ
      fun d μ1 => opBlt .all [d] μ1 Q := by
  obtain ⟨r0, r1, r2, rfl⟩ : ∃ r0 r1 r2, ρ = [r0, r1, r2] := by
    match ρ, ha with
    | [r0, r1, r2], _ => exact ⟨_, _, _, rfl⟩
  simp at h0 h1
  subst h0 h1
  refine lc_pure (fun n ys h => by cases h) (by simp; exact line_le (by omega)) (fun _ => .bl true) ?_ ?_
  · intro i x hx
    obtain ⟨hi, rfl⟩ := r_rangeD hx
    refine ⟨_, rfl, fun P hP => ?_⟩
    have hx := List.getElem?_eq_getElem hi
    simp [wE, wEs, wipeD]
    exact ea _ _ hx _ (eb _ _ hx _ (hr _ (List.getElem_mem hi) _ hP))
  · refine new_l (by simp; exact line_le (by omega)) ?_
    have e : (rangeD 0 xs.length).map (fun _ => D.bl true) = List.replicate xs.length (D.bl true) := by
      rw [List.map_const']; simp
    simp [e, bls]
    exact hq
theorem b__law_same {d : D} (hd : Sm (k + 1) d) (hr : ∀ x, Sm k x → ∀ P : WQ, P (.bl true) μ → T k 33 [x, x] μ P) (hq : Q (.bl true) μ) : wDef (T k) 3 ir__law_same [d, d] μ Q := by
  have h := rt_here (μ0 := μ) hq
  cases d with
  | non => simpa [wDef, ir__law_same, wSs, wS, wE, wEs, wT, startD, ofE, wCmp, opCmp, setsD] using h
  | bl b => cases b <;> simpa [wDef, ir__law_same, wSs, wS, wE, wEs, wT, startD, ofE, wCmp, opCmp, setsD] using h
  | int i => simpa [wDef, ir__law_same, wSs, wS, wE, wEs, wT, startD, ofE, wCmp, opCmp, setsD] using h
  | str i => simpa [wDef, ir__law_same, wSs, wS, wE, wEs, wT, startD, ofE, wCmp, opCmp, setsD] using h
  | tup xs =>
    simp [Sm] at hd
    simp [wDef, ir__law_same, wSs, wS, wE, wEs, wT, startD, ofE, wCmp, opCmp, setsD, wI]
    refine ⟨⟨by omega, by omega⟩, ?_⟩
    refine same_items hd.1 rfl rfl rfl (fun i x hx P hP => ?_) (fun i x hx P hP => ?_) (fun x hx => hr x (hd.2 x hx)) h
    · simp [atI_nat hx, hP]
    · simp [atI_nat hx, hP]
  | lst xs =>
    simp [Sm] at hd
    simp [wDef, ir__law_same, wSs, wS, wE, wEs, wT, startD, ofE, wCmp, opCmp, setsD, wI]
    refine ⟨⟨by omega, by omega⟩, ?_⟩
    refine same_items hd.1 rfl rfl rfl (fun i x hx P hP => ?_) (fun i x hx P hP => ?_) (fun x hx => hr x (hd.2 x hx)) h
    · simp [atI_nat hx, hP]
    · simp [atI_nat hx, hP]
  | _ => simp [Sm] at hd
theorem b__law_frac {t b : Int} (hb : b ≠ 0) (h2 : b.natAbs < 2 ^ 9000) (hq : Q (enc (Rat.divInt t b)) μ) : wDef (T k) 5 ir__law_frac [.int t, .int b] μ Q := by
  have ea : ∀ i : Int, (if i < 0 then -i else i) = (i.natAbs : Int) := fun i => by split <;> omega
  have gp : 0 < Nat.gcd t.natAbs b.natAbs := Nat.gcd_pos_of_pos_right _ (by omega)
  have gl : Nat.gcd t.natAbs b.natAbs ≤ b.natAbs := Nat.gcd_le_right _ (by omega)
  simp only [wDef, ir__law_frac, startD]
  rw [wS1]; simp [wS, wE, wEs, wT, wI, wO, wF, ofE, wCmp, opCmp, setsD]
  simp only [ea]
  rw [wS1]
  refine ⟨fun m ρ μ' => μ' = μ ∧ ∃ x y : Nat, ρ = [some (.int t), some (.int b), some (.int x), some (.int y), none] ∧ y = m ∧ Nat.gcd x y = Nat.gcd t.natAbs b.natAbs, ⟨_, rfl, _, _, rfl, rfl, rfl⟩, ?_⟩
  rintro m ρ μ' ⟨rfl, x, y, rfl, rfl, hg⟩
  simp [wT, wE, wCmp, opCmp]
  split
  · rename_i hy
    rw [wS1]; simp [wS, wE, wEs, wT, wI, wO, wF, ofE, wCmp, opCmp, setsD]
    refine ⟨hy, x % y, Nat.mod_lt _ hy, y, x % y, ⟨rfl, by simp⟩, rfl, ?_⟩
    rw [← hg, Nat.gcd_comm y, ← Nat.gcd_rec, Nat.gcd_comm]
  · rename_i hy
    have hy : y = 0 := by omega
    subst hy
    have ex : x = Nat.gcd t.natAbs b.natAbs := by rw [← hg]; simp
    subst ex
    have hd : ∀ i, CDivW i ((Nat.gcd t.natAbs b.natAbs : Nat) : Int) := fun i => dv (n := 9000) (by omega) (by rw [Int.natAbs_natCast]; omega) (by decide)
    rw [wS1]; simp [wS, wE, wEs, wT, wI, wO, wF, ofE, wCmp, opCmp, setsD]
    by_cases hb0 : b < 0
    · simp only [hb0, if_true]
      rw [wS1]; simp [wS, wE, wEs, wT, wI, wO, wF, ofE, wCmp, opCmp, setsD]
      refine ⟨cm1 (by decide) (by decide), hd _, cm1 (by decide) (by decide), hd _, rt_here ?_⟩
      have := low_neg (t := t) hb0
      simp only [Int.neg_mul, Int.one_mul] at this
      rw [this]
      exact hq
    · simp only [hb0, if_false]
      rw [wS1]; simp [wS, wE, wEs, wT, wI, wO, wF, ofE, wCmp, opCmp, setsD]
      refine ⟨cm1 (by decide) (by decide), hd _, cm1 (by decide) (by decide), hd _, rt_here ?_⟩
      have := low_pos (t := t) (b := b) (by omega)
      rw [this]
      exact hq
theorem b__law_less {x y : Rat} (hx : Bd 4000 x) (hy : Bd 4000 y) (hq : Q (.bl (decide (x < y))) μ) : wDef (T k) 2 ir__law_less [enc x, enc y] μ Q := by
  have m1 := mww hx hy (by decide)
  have m2 := mww hy hx (by decide)
  simp only [wDef, ir__law_less, startD]
  rw [wS1]
  simp only [wS, wE, wEs, wCmp, opCmp]
  simp
  refine ⟨m1.1, m2.1, rt_here ?_⟩
  simpa only [lt_num] using hq
theorem num_di {t b : Int} (hb : 0 < b) : (Rat.divInt t b).num = t / ((Nat.gcd t.natAbs b.natAbs : Nat) : Int) := by
  have := low_pos (t := t) hb
  unfold enc at this
  injection this with h
  injection h with h
  injection h with h
  exact h.symm
theorem lcm_di {s d S : Int} (hs : 0 < s) (hd : 0 < d) (h1 : s ∣ S) (h2 : d ∣ S) : 0 < s * (Rat.divInt d s).num ∧ s * (Rat.divInt d s).num ∣ S ∧ s ∣ s * (Rat.divInt d s).num ∧ d ∣ s * (Rat.divInt d s).num ∧ (Rat.divInt d s).num ∣ S := by
  have e : s * (Rat.divInt d s).num = ((Nat.lcm s.natAbs d.natAbs : Nat) : Int) := by
    rw [num_di hs]
    obtain ⟨c, hc⟩ : Nat.gcd d.natAbs s.natAbs ∣ d.natAbs := Nat.gcd_dvd_left _ _
    have gp : 0 < Nat.gcd d.natAbs s.natAbs := Nat.gcd_pos_of_pos_right _ (by omega)
    have hc2 : d = ((Nat.gcd d.natAbs s.natAbs : Nat) : Int) * (c : Int) := by
      rw [← Int.natCast_mul, ← hc]; omega
    have e1 : d / ((Nat.gcd d.natAbs s.natAbs : Nat) : Int) = c := by
      rw [Int.ediv_eq_of_eq_mul_right (by omega) hc2]
    rw [e1]
    have e2 : Nat.lcm s.natAbs d.natAbs = s.natAbs * c := by
      unfold Nat.lcm
      rw [Nat.gcd_comm s.natAbs]
      apply Nat.div_eq_of_eq_mul_right gp
      rw [← Nat.mul_assoc, Nat.mul_comm _ s.natAbs, Nat.mul_assoc, ← hc]
    rw [e2, Int.natCast_mul]
    have : ((s.natAbs : Nat) : Int) = s := by omega
    rw [this]
  obtain ⟨k1, k2, k3, k4⟩ := dv_lcm hs hd h1 h2
  rw [← e] at k1 k2 k3 k4
  exact ⟨k4, k1, k2, k3, Int.dvd_trans (Int.dvd_mul_left _ _) k1⟩
theorem items_E {L : List Rat} {i : Nat} {x : D} (h : (L.map enc)[i]? = some x) : ∃ p, L[i]? = some p ∧ x = enc p ∧ p ∈ L := by
  rw [List.getElem?_map] at h
  cases e : L[i]? with
  | none => rw [e] at h; cases h
  | some p => rw [e] at h; cases h; exact ⟨p, rfl, rfl, List.mem_of_getElem? e⟩
theorem b__law_scale (hk : 1 ≤ k) {xs : List Rat} {S : Int} (s0 : 0 < S) (s1 : S.natAbs < 2 ^ 8000) (s2 : ∀ x ∈ xs, dvs S x) (hl : xs.length ≤ 1000) (hq : ∀ s, 0 < s → s ∣ S → (∀ x ∈ xs, dvs s x) → Q (.int s) μ) : wDef (T k) 3 ir__law_scale [.lst (xs.map enc)] μ Q := by
  simp only [wDef, ir__law_scale]
  rw [show startD 3 [D.lst (xs.map enc)] = [some (.lst (xs.map enc)), none, none] from rfl, wS1]
  simp only [wS, wE, List.set]
  rw [wS1]
  simp only [wS, wI, wE, r_getV0, r_getVs, srcOf, asSq, asR, asL, Option.map_some]
  refine ⟨fun i ρ μ' => μ' = μ ∧ ∃ (s : Int) (o2 : Option D), ρ = [some (.lst (xs.map enc)), some (.int s), o2] ∧ 0 < s ∧ s ∣ S ∧ ∀ x ∈ xs.take i, dvs s x, ⟨rfl, 1, none, rfl, by decide, Int.one_dvd _, by simp⟩, fun _ _ _ _ _ _ _ h => (by cases h), ?_, ?_⟩
  · rintro i x ρ μ' hx ⟨rfl, s, o2, rfl, p0, p1, p2⟩
    obtain ⟨x, hp, rfl, hm⟩ := items_E hx
    have hd := denp x
    obtain ⟨k1, k2, k3, k4, k5⟩ := lcm_di p0 hd p1 (s2 x hm)
    have sb := lt8 s0 s1 p0 p1
    refine ⟨_, rfl, ?_⟩
    simp only [List.set]
    rw [wS1]
    simp only [wS, wE, wEs, opBin, r_getV0, r_getVs, enc1]
    refine tc hk (by decide) ⟨_, _, rfl, by omega, Nat.lt_trans sb (Nat.pow_lt_pow_right (by decide) (by decide)), ?_⟩
    simp only [enc0, r_opI]
    have np : 0 < (Rat.divInt (x.den : Int) s).num := by
      by_cases z : 0 < (Rat.divInt (x.den : Int) s).num
      · exact z
      · have : s * (Rat.divInt (x.den : Int) s).num ≤ 0 := Int.mul_nonpos_of_nonneg_of_nonpos (by omega) (by omega)
        omega
    refine ⟨mw sb (lt8 s0 s1 np k5) (by decide), ?_⟩
    rw [wS0]
    refine ⟨rfl, _, _, rfl, k1, k2, fun y hy => ?_⟩
    rw [take_snoc hp] at hy
    rcases List.mem_append.mp hy with z | z
    · exact dvs_mono (p2 y z) k3
    · simp at z
      subst z
      exact k4
  · rintro ρ μ' ⟨rfl, s, o2, rfl, p0, p1, p2⟩
    rw [wS1]
    simp only [wS, wE, r_getV0, r_getVs]
    have e : xs.take (⟨none, xs.map enc⟩ : Src).items.length = xs := by
      have : (⟨none, xs.map enc⟩ : Src).items.length = xs.length := by simp
      rw [this, List.take_length]
    rw [e] at p2
    exact rt_here (hq s p0 p1 p2)
end
end K30


set_option Elab.async false
set_option linter.all false
set_option maxRecDepth 100000
namespace K30
open PySem L2 Rf
section
variable {k : Nat} {μ : M} {Q : WQ}
theorem b01_eq1 (b : Bool) : decide (b01 b = 1) = b := by cases b <;> rfl
theorem getD_idx {ms : List Int} {i : Nat} (h : i < ms.length) : opIdx (.lst (ms.map D.int)) (.int (i : Int)) μ Q = Q (.int (ms.getD i 0)) μ := by
  have h2 : i < (ms.map D.int).length := by simpa using h
  have e : (ms.map D.int)[i] = .int (ms.getD i 0) := by
    rw [List.getElem_map, List.getD_eq_getElem?_getD, List.getElem?_eq_getElem h]; rfl
  show opIxSq (D.lst (List.map D.int ms)) (D.int ↑i) μ Q = _
  simp only [opIxSq, asSq, asR, asL, at_nat h2, e]
theorem b__law_within (hk : 1 ≤ k) {L : List Rf.Sp} {x : Rat} {d : D} (hd : d = lstS L ∨ d = tupS L) (hL : ∀ p ∈ L, Bd 2000 p.lo ∧ Bd 2000 p.hi) (hx : Bd 4000 x) (hq : Q (.bl (L.any fun p => within p x)) μ) : wDef (T k) 6 ir__law_within [d, enc x] μ Q := by
  simp only [wDef, ir__law_within]
  rw [show startD 6 [d, enc x] = [some d, some (enc x), none, none, none, none] from rfl, wS1]
  have hs : srcOf μ d = some ⟨none, L.map encS⟩ := by rcases hd with rfl | rfl <;> rfl
  simp only [wS, wI, wE, r_getV0, r_getVs, hs]
  refine ⟨fun i ρ μ' => μ' = μ ∧ ∃ (o2 o3 o4 o5 : Option D), ρ = [some d, some (enc x), o2, o3, o4, o5] ∧ ((L.take i).any fun p => within p x) = false, ⟨rfl, _, _, _, _, rfl, by simp⟩, fun _ _ _ _ _ _ _ h => (by cases h), ?_, ?_⟩
  · rintro i y ρ μ' hx' ⟨rfl, o2, o3, o4, o5, rfl, ha⟩
    obtain ⟨p, hp, rfl, hm⟩ := items_S hx'
    obtain ⟨e1, e2⟩ := hL p hm
    refine ⟨_, rfl, ?_⟩
    simp only [List.set]
    rw [wS1]
    refine iff_val (within p x) (fun P hP => ?_) ?_
    · simp only [wT, wE, wEs, ofE, r_getV0, r_getVs]
      refine tc hk (by decide) ⟨_, _, rfl, e1.mono (by decide), hx, ?_⟩
      simp only [r_truB, wCmp, opCmp, q_enc, q_ii, b01_eq1]
      have rest : (decide (p.lo < x) && decide (x < p.hi)) = false → if decide (x = p.lo) = true then (if p.lf = true then P true μ' else if decide (x = p.hi) = true then P p.hf μ' else P false μ') else if decide (x = p.hi) = true then P p.hf μ' else P false μ' := by
        intro h
        unfold within at hP
        rw [h] at hP
        cases h1 : decide (x = p.lo) <;> cases h2 : p.lf <;> cases h3 : decide (x = p.hi) <;> simpa [h1, h2, h3] using hP
      have hP' : (decide (p.lo < x) && decide (x < p.hi)) = true → P true μ' := by
        intro h
        unfold within at hP
        rw [h] at hP
        simpa using hP
      cases h1 : decide (p.lo < x)
      · rw [h1] at rest
        simp only [Bool.false_eq_true, if_false]
        exact rest rfl
      · rw [h1] at rest hP'
        simp only [if_true]
        refine tc hk (by decide) ⟨_, _, rfl, hx, e2.mono (by decide), ?_⟩
        simp only [r_truB]
        cases h2 : decide (x < p.hi)
        · rw [h2] at rest
          simp only [Bool.false_eq_true, if_false]
          exact rest rfl
        · rw [h2] at hP'
          simp only [if_true]
          exact hP' rfl
    · have es : ((L.take (i + 1)).any fun p => within p x) = within p x := by
        rw [take_snoc hp, List.any_append, ha]; simp
      cases hv : within p x
      · rw [if_neg Bool.false_ne_true, wS0]
        exact ⟨rfl, _, _, _, _, rfl, by rw [es, hv]⟩
      · rw [if_pos rfl, wS1]
        simp only [wS, wE]
        have : (L.any fun p => within p x) = true := List.any_eq_true.mpr ⟨p, hm, hv⟩
        rw [this] at hq
        exact rt_here hq
  · rintro ρ μ' ⟨rfl, o2, o3, o4, o5, rfl, ha⟩
    have e : L.take (⟨none, L.map encS⟩ : Src).items.length = L := by
      have : (⟨none, L.map encS⟩ : Src).items.length = L.length := by simp
      rw [this, List.take_length]
    rw [e] at ha
    rw [wS1]
    simp only [wS, wE]
    rw [ha] at hq
    exact rt_here hq
theorem b__law_places (hk : 2 ≤ k) {L : List Rf.Sp} {S : Int} (hS : SpB S L) (hq : ∀ s ms, 0 < s → s ∣ S → dvL s L → Asc ms → (∀ k, k ∈ ms ↔ ∃ p ∈ L, k = atS s p.lo ∨ k = atS s p.hi) → ms.length ≤ 2 * L.length → Q (.tup [.int s, .lst (ms.map .int)]) μ) : wDef (T k) 5 ir__law_places [lstS L] μ Q := by
  obtain ⟨s0, s1, s2, s3, s4⟩ := hS
  simp only [wDef, ir__law_places]
  rw [show startD 5 [lstS L] = [some (lstS L), none, none, none, none] from rfl, wS1]
  simp only [wS, wE, wEs]
  refine new_l (line_le (by simp)) ?_
  simp only [List.set]
  rw [wS1]
  simp only [wS, wI, wE, r_getV0, r_getVs]
  simp only [lstS, srcOf, asSq, asR, asL, Option.map_some]
  refine ⟨fun i ρ μ' => μ' = μ ∧ ∃ (o2 : Option D), ρ = [some (.lst (L.map encS)), some (.lst (((L.take i).flatMap fun p => [p.lo, p.hi]).map enc)), o2, none, none], ⟨rfl, _, rfl⟩, fun _ _ _ _ _ _ _ h => (by cases h), ?_, ?_⟩
  · rintro i y ρ μ' hx' ⟨rfl, o2, rfl⟩
    obtain ⟨p, hp, rfl, hm⟩ := items_S hx'
    have hi := (List.getElem?_eq_some_iff.mp hp).1
    refine ⟨_, rfl, ?_⟩
    simp only [List.set]
    rw [wS1]
    simp only [wS, wE, wEs, opBin, r_getV0, r_getVs, encS0, encS1]
    refine new_l (line_le (by simp)) ?_
    have hl : ((L.take i).flatMap fun p => [p.lo, p.hi]).length ≤ 2 * i := by
      have : ∀ M : List Rf.Sp, (M.flatMap fun p => [p.lo, p.hi]).length = 2 * M.length := fun M => by
        induction M with
        | nil => rfl
        | cons p M ih => rw [List.flatMap_cons, List.length_append, ih]; simp; omega
      rw [this, List.length_take]
      omega
    rw [r_addL]
    refine new_l (line_le (by simp at hl ⊢; omega)) ?_
    rw [wS0]
    refine ⟨rfl, some (encS p), ?_⟩
    rw [take_snoc hp, List.flatMap_append, List.map_append]
    rfl
  · rintro ρ μ' ⟨rfl, o2, rfl⟩
    have e : L.take (⟨none, L.map encS⟩ : Src).items.length = L := by
      have : (⟨none, L.map encS⟩ : Src).items.length = L.length := by simp
      rw [this, List.take_length]
    rw [e]
    have hlen : (L.flatMap fun p => [p.lo, p.hi]).length = 2 * L.length := by
      clear e s4 s3 s2 hq
      induction L with
      | nil => rfl
      | cons p M ih => rw [List.flatMap_cons, List.length_append, ih]; simp; omega
    have hmem : ∀ x, x ∈ (L.flatMap fun p => [p.lo, p.hi]) ↔ ∃ p ∈ L, x = p.lo ∨ x = p.hi := fun x => by simp [List.mem_flatMap]
    generalize hE : (L.flatMap fun p => [p.lo, p.hi]) = E at hlen hmem
    have d0 : ∀ x ∈ E, dvs S x ∧ Bd 1000 x := fun x hx => by
      obtain ⟨p, hp, rfl | rfl⟩ := (hmem x).mp hx
      · exact ⟨(s2 p hp).1, (s3 p hp).1⟩
      · exact ⟨(s2 p hp).2, (s3 p hp).2⟩
    rw [wS1]
    simp only [wS, wE, wEs, r_getV0, r_getVs]
    refine tc (m := 2) (by omega) (by decide) ⟨E, S, rfl, s0, s1, fun x hx => (d0 x hx).1, by omega, fun s p0 p1 p2 => ?_⟩
    have sb := lt8 s0 s1 p0 p1
    simp only [List.set]
    rw [wS1]
    simp only [wS, wE, wEs, wI, r_getV0, r_getVs, srcOf, asSq, asR, asL, Option.map_some]
    refine lc_pure (fun n ys h => by cases h) (line_le (by simp; omega)) (fun d => match d with | .tup [.int a, .int b] => .int (a * (s / b)) | d => d) ?_ ?_
    · intro i y hy
      obtain ⟨x, hx, rfl, hm⟩ := items_E hy
      obtain ⟨_, bx⟩ := d0 x hm
      have dx := p2 x hm
      refine ⟨_, rfl, fun P hP => ?_⟩
      simp [wE, wEs, wipeD]
      refine ⟨dv (n := 1000) (denp x) (by simpa using bx.2) (by decide), mw bx.1 (m := 8000) ?_ (by decide), ?_⟩
      · rw [Int.natAbs_ediv_of_dvd dx]
        exact Nat.lt_of_le_of_lt (Nat.div_le_self _ _) sb
      · exact hP
    · have em : (E.map enc).map (fun d => match d with | .tup [.int a, .int b] => D.int (a * (s / b)) | d => d) = (E.map (atS s)).map D.int := by
        rw [List.map_map, List.map_map]; rfl
      rw [em]
      refine new_l (line_le (by simp; omega)) ?_
      simp only [asR, asL, Option.bind_some, intsD_map]
      refine ⟨by simp; omega, fun ms hasc hm => ?_⟩
      have hml : ms.length ≤ 2 * L.length := by
        have nd : ms.Nodup := hasc.imp fun h => by omega
        have := nodup_sub nd (m := E.map (atS s)) fun x hx => (hm x).mp hx
        rw [List.length_map, hlen] at this
        exact this
      refine new_l (line_le (by simp; omega)) ⟨line_le (by simp), rt_here (hq s ms p0 p1 (fun p hp => ⟨p2 _ ((hmem _).mpr ⟨p, hp, .inl rfl⟩), p2 _ ((hmem _).mpr ⟨p, hp, .inr rfl⟩)⟩) hasc (fun k => ?_) hml)⟩
      rw [hm, List.mem_map]
      constructor
      · rintro ⟨x, hx, rfl⟩
        obtain ⟨p, hp, rfl | rfl⟩ := (hmem x).mp hx
        · exact ⟨p, hp, .inl rfl⟩
        · exact ⟨p, hp, .inr rfl⟩
      · rintro ⟨p, hp, rfl | rfl⟩
        · exact ⟨_, (hmem _).mpr ⟨p, hp, .inl rfl⟩, rfl⟩
        · exact ⟨_, (hmem _).mpr ⟨p, hp, .inr rfl⟩, rfl⟩
theorem b__law_cell (hk : 1 ≤ k) {s : Int} {ms : List Int} {i : Nat} (p0 : 0 < s) (sb : s.natAbs < 2 ^ 8000) (hi : i + 1 < 2 * ms.length) (hq : Q (enc (smpl s ms i)) μ) : wDef (T k) 3 ir__law_cell [.int s, .lst (ms.map .int), .int i] μ Q := by
  have d2 : ∀ i, CDivW i 2 := fun i => dv (n := 2) (by decide) (by decide) (by decide)
  have e2 : ((i : Int) / 2) = ((i / 2 : Nat) : Int) := by omega
  have e3 : ((i : Int) / 2) + 1 = ((i / 2 + 1 : Nat) : Int) := by omega
  simp only [wDef, ir__law_cell]
  rw [show startD 3 [D.int s, .lst (ms.map .int), .int i] = [some (.int s), some (.lst (ms.map .int)), some (.int i)] from rfl, wS1]
  unfold smpl at hq
  by_cases h : i % 2 = 0
  · rw [if_pos h] at hq
    have hz : (i : Int) % 2 = 0 := by omega
    refine iff_val true (fun P hP => ?_) ?_
    · simp [wT, wE, wEs, wCmp, opCmp, hz]
      exact hP
    rw [if_pos rfl, wS1]
    simp only [wS, wE, wEs]
    simp only [r_getV0, r_getVs, opBin, r_opI]
    refine ⟨d2 _, ?_⟩
    rw [e2, getD_idx (by omega)]
    exact tc hk (by decide) ⟨_, _, rfl, by omega, Nat.lt_trans sb (Nat.pow_lt_pow_right (by decide) (by decide)), rt_here hq⟩
  · rw [if_neg h] at hq
    have hz : ¬ (i : Int) % 2 = 0 := by omega
    refine iff_val false (fun P hP => ?_) ?_
    · simp [wT, wE, wEs, wCmp, opCmp, hz]
      exact hP
    rw [if_neg Bool.false_ne_true, wS0]
    try dsimp only
    rw [wS1]
    simp only [wS, wE, wEs]
    simp only [r_getV0, r_getVs, opBin, r_opI, r_addI]
    refine ⟨d2 _, ?_⟩
    rw [e2, getD_idx (by omega)]
    refine ⟨d2 _, ?_⟩
    rw [show ((i / 2 : Nat) : Int) + 1 = ((i / 2 + 1 : Nat) : Int) by omega, getD_idx (by omega)]
    refine ⟨cm1 (by decide) (by decide), ?_⟩
    refine tc hk (by decide) ⟨_, _, rfl, by omega, ?_, rt_here hq⟩
    rw [Int.natAbs_mul]
    have : (2 : Nat) ^ 9000 = 2 ^ 1000 * 2 ^ 8000 := by rw [← Nat.pow_add]
    have h1 : 2 ≤ 2 ^ 1000 := Nat.le_trans (by decide : 2 ≤ 2 ^ 1) (Nat.pow_le_pow_right (by decide) (by decide))
    have h2 : 2 * 2 ^ 8000 ≤ 2 ^ 1000 * 2 ^ 8000 := Nat.mul_le_mul_right _ h1
    show 2 * s.natAbs < _
    omega
end
end K30


set_option Elab.async false
set_option linter.all false
set_option maxRecDepth 100000
namespace K30
open PySem L2 Rf
def addS (kp : Nat → Cut) (i : Nat) : Option Nat → List Rf.Sp
  | none => []
  | some s => [mkS (kp s) (kp i)]
/-- where the cells' list stands -/
structure LJ (kp : Nat → Cut) (marks : List Bool) (i : Nat) (F : List Rf.Sp) (st : Option Nat) : Prop where
  go : i ≤ marks.length → F ++ lst kp (marks.drop i) i st = lst kp marks 0 none
  fin : i = marks.length + 1 → F = lst kp marks 0 none
  lt : ∀ s, st = some s → s < i
  len : F.length ≤ i
theorem LJ.on {kp : Nat → Cut} {marks : List Bool} {i : Nat} {F : List Rf.Sp} {st : Option Nat} (J : LJ kp marks i F st) (h : marks[i]? = some true) : LJ kp marks (i + 1) F (st.or (some i)) := by
  obtain ⟨hi, he⟩ := List.getElem?_eq_some_iff.mp h
  have hd : marks.drop i = true :: marks.drop (i + 1) := by rw [List.drop_eq_getElem_cons hi, he]
  refine ⟨fun _ => ?_, fun z => by omega, fun s e => ?_, by have := J.len; omega⟩
  · have := J.go (by omega)
    rw [hd] at this
    cases st <;> simpa [lst] using this
  · cases st with
    | none => simp at e; omega
    | some t => have := J.lt t rfl; simp at e; omega
theorem LJ.off {kp : Nat → Cut} {marks : List Bool} {i : Nat} {F : List Rf.Sp} {st : Option Nat} (J : LJ kp marks i F st) (h : (marks[i]?).getD false = false) (hi : i < marks.length + 1) : LJ kp marks (i + 1) (F ++ addS kp i st) none := by
  refine ⟨fun z => ?_, fun z => ?_, fun s e => (by cases e), ?_⟩
  · have hl : i < marks.length := by omega
    have he : marks[i] = false := by rw [List.getElem?_eq_getElem hl] at h; simpa using h
    have hd : marks.drop i = false :: marks.drop (i + 1) := by rw [List.drop_eq_getElem_cons hl, he]
    have := J.go (by omega)
    rw [hd] at this
    cases st <;> simpa [lst, addS] using this
  · have e : i = marks.length := by omega
    have := J.go (by omega)
    rw [show marks.drop i = [] by rw [List.drop_eq_nil_iff]; omega] at this
    cases st <;> simpa [lst, addS] using this
  · have := J.len
    cases st <;> simp [addS] <;> omega
def stI : Option Nat → Int
  | none => -1
  | some s => s
section
variable {k : Nat} {μ : M} {Q : WQ}
theorem p89 {s : Int} (h : s.natAbs < 2 ^ 8000) : s.natAbs < 2 ^ 9000 := Nat.lt_trans h (Nat.pow_lt_pow_right (by decide) (by decide))
theorem f_idxB {marks : List Bool} {i : Nat} (h : i < marks.length) : opIdx (.lst (marks.map D.bl)) (.int (i : Int)) μ Q = Q (.bl (marks[i]'h)) μ := by
  have h2 : i < (marks.map D.bl).length := by simpa using h
  have e : (marks.map D.bl)[i] = .bl (marks[i]) := by simp
  show opIxSq (D.lst (marks.map D.bl)) (D.int ↑i) μ Q = _
  simp only [opIxSq, asSq, asR, asL, at_nat h2, e]
theorem b__law_listed (hk : 1 ≤ k) {s : Int} {ms : List Int} {marks : List Bool} (p0 : 0 < s) (sb : s.natAbs < 2 ^ 8000) (hm : marks.length + 1 = 2 * ms.length) (hml : marks.length ≤ 1000) (hq : Q (tupS (lst (kpM s ms) marks 0 none)) μ) : wDef (T k) 9 ir__law_listed [.int s, .lst (ms.map .int), .lst (marks.map .bl)] μ Q := by
  have d2 : ∀ i, CDivW i 2 := fun i => dv (n := 2) (by decide) (by decide) (by decide)
  simp only [wDef, ir__law_listed]
  rw [show startD 9 [D.int s, .lst (ms.map .int), .lst (marks.map .bl)] = [some (.int s), some (.lst (ms.map .int)), some (.lst (marks.map .bl)), none, none, none, none, none, none] from rfl, wS1]
  simp only [wS, wE, wEs]
  refine new_c (line_le (by simp)) ?_
  simp only [wO, List.set]
  rw [wS1]
  simp only [wS, wI, wE, wEs, opBin, r_getV0, r_getVs, r_len, r_lenL, r_addI, List.length_map]
  refine ⟨⟨by omega, by omega⟩, ?_⟩
  have eN : ((marks.length : Int) + 1).toNat = marks.length + 1 := by omega
  rw [eN]
  refine ⟨fun i ρ μ' => ∃ (F : List Rf.Sp) (st : Option Nat) (o5 o6 o7 o8 : Option D), μ' = μ ++ [.lst (F.map encS)] ∧ ρ = [some (.int s), some (.lst (ms.map .int)), some (.lst (marks.map .bl)), some (.cel μ.length), some (.int (stI st)), o5, o6, o7, o8] ∧ LJ (kpM s ms) marks i F st,
    ⟨[], none, _, _, _, _, rfl, rfl, fun _ => rfl, fun h => by omega, fun s h => (by cases h), Nat.le_refl _⟩, fun _ _ _ _ _ _ _ h => (by cases h), ?_, ?_⟩
  · rintro i x ρ μ' hx ⟨F, st, o5, o6, o7, o8, rfl, rfl, J⟩
    obtain ⟨hi, rfl⟩ := r_rangeD hx
    rw [Int.zero_add]
    refine ⟨_, rfl, ?_⟩
    simp only [List.set]
    -- what is at i
    obtain ⟨v, hv⟩ : ∃ v : Bool, v = (marks[i]?).getD false := ⟨_, rfl⟩
    rw [wS1]
    refine set_val (.bl v) (fun P hP => ?_) ?_
    · simp only [wE, wEs, wT, ofE, wCmp, opCmp, r_getV0, r_getVs, r_len, r_lenL, r_cmpI, List.length_map]
      by_cases h : i < marks.length
      · have h' : (i : Int) < (marks.length : Int) := by omega
        simp only [h', decide_true, if_true]
        simp
        rw [List.getElem?_eq_getElem h] at hv
        have := f_idxB (μ := μ ++ [.lst (F.map encS)]) (Q := P) h
        simp at this
        rw [this]
        simp at hv
        rw [← hv]
        exact hP
      · have h' : ¬ (i : Int) < (marks.length : Int) := by omega
        rw [List.getElem?_eq_none (by omega)] at hv
        simp only [h', decide_false, Bool.false_eq_true, if_false]
        simp at hv
        subst hv
        exact hP
    simp only [List.set]
    rw [wS1]
    have kbd : ∀ j, j < i + 1 → j / 2 < ms.length := fun j hj => by omega
    cases v with
    | true =>
      have hm' : marks[i]? = some true := by
        cases e : marks[i]? with
        | none => rw [e] at hv; cases hv
        | some b => rw [e] at hv; simp at hv; rw [← hv]
      have J' := J.on hm'
      cases st with
      | none =>
        refine iff_val true (fun P hP => ?_) ?_
        · simp [wT, wE, wEs, wCmp, opCmp, ofE, stI]
          exact hP
        rw [if_pos rfl, wS1]
        simp only [wS, wE]
        simp only [r_getV0, r_getVs, List.set]
        rw [wS0]
        try dsimp only
        rw [wS1]
        refine iff_val false (fun P hP => ?_) ?_
        · simp [wT, wE, wEs, wCmp, opCmp, ofE]
          exact hP
        rw [if_neg Bool.false_ne_true, wS0]
        try dsimp only
        rw [wS0]
        exact ⟨F, some i, _, _, _, _, rfl, rfl, J'⟩
      | some t =>
        have h0 : ¬ ((t : Int) < 0) := by omega
        refine iff_val false (fun P hP => ?_) ?_
        · simp [wT, wE, wEs, wCmp, opCmp, ofE, stI, h0]
          exact hP
        rw [if_neg Bool.false_ne_true, wS0]
        try dsimp only
        rw [wS1]
        refine iff_val false (fun P hP => ?_) ?_
        · simp [wT, wE, wEs, wCmp, opCmp, ofE]
          exact hP
        rw [if_neg Bool.false_ne_true, wS0]
        try dsimp only
        rw [wS0]
        exact ⟨F, some t, _, _, _, _, rfl, rfl, J'⟩
    | false =>
      have J' := J.off hv.symm hi
      refine iff_val false (fun P hP => ?_) ?_
      · simp [wT, wE, wEs, wCmp, opCmp, ofE]
        exact hP
      rw [if_neg Bool.false_ne_true, wS0]
      try dsimp only
      rw [wS1]
      cases st with
      | none =>
        refine iff_val false (fun P hP => ?_) ?_
        · simp [wT, wE, wEs, wCmp, opCmp, ofE, stI]
          exact hP
        rw [if_neg Bool.false_ne_true, wS0]
        try dsimp only
        rw [wS0]
        simp only [addS, List.append_nil] at J'
        exact ⟨F, none, _, _, _, _, rfl, rfl, J'⟩
      | some t =>
        have ht := J.lt t rfl
        have hF := J.len
        refine iff_val true (fun P hP => ?_) ?_
        · have h0 : (0 : Int) ≤ (t : Int) := by omega
          simp [wT, wE, wEs, wCmp, opCmp, ofE, stI, h0]
          exact hP
        rw [if_pos rfl, wS1]
        simp only [stI]
        simp only [wS, wE, wEs]
        simp only [r_getV0, r_getVs, opBin, r_opI]
        refine ⟨d2 _, ?_⟩
        rw [show ((t : Int) / 2) = ((t / 2 : Nat) : Int) by omega, getD_idx (kbd t (by omega))]
        refine tc hk (by decide) ⟨_, _, rfl, by omega, p89 sb, ?_⟩
        refine ⟨d2 _, ?_⟩
        rw [show ((i : Int) / 2) = ((i / 2 : Nat) : Int) by omega, getD_idx (kbd i (by omega))]
        refine tc hk (by decide) ⟨_, _, rfl, by omega, p89 sb, ?_⟩
        simp only [List.set]
        rw [wS1]
        simp only [wS, wE, wEs]
        simp only [r_getV0, r_getVs, opBin, r_opI, e_mok, e_app]
        have i1 : ∀ (z : Int) (P : WQ) (ν : M), opBlt .int [.int z] ν P = P (.int z) ν := fun z P ν => rfl
        simp only [i1]
        simp only [r_opI, e_app]
        refine ⟨trivial, by decide, trivial, by decide, line_le (by simp), line_lt (by simp; omega), ?_⟩
        rw [wS1]
        simp only [wS, wE, List.set]
        rw [wS0]
        try dsimp only
        rw [wS0]
        have eS : ∀ x y : Int, x = b01 (!(t % 2 == 1)) → y = b01 (i % 2 == 1) → D.tup [enc (Rat.divInt (ms.getD (t / 2) 0) s), enc (Rat.divInt (ms.getD (i / 2) 0) s), .int x, .int y] = encS (mkS (kpM s ms t) (kpM s ms i)) := by
          rintro x y rfl rfl
          rfl
        have eb : ∀ j : Nat, ((j : Int) % 2) = b01 (j % 2 == 1) ∧ 1 - ((j : Int) % 2) = b01 (!(j % 2 == 1)) := fun j => by
          rcases Nat.mod_two_eq_zero_or_one j with h | h
          · rw [h]; simp [b01]; omega
          · rw [h]; simp [b01]; omega
        rw [eS _ _ (eb t).2 (eb i).1]
        refine ⟨F ++ [mkS (kpM s ms t) (kpM s ms i)], none, _, _, _, _, by simp, rfl, J'⟩
  · rintro ρ μ' ⟨F, st, o5, o6, o7, o8, rfl, rfl, J⟩
    rw [r_rangeL] at J
    have := J.fin rfl
    subst this
    rw [wS1]
    simp only [wS, wE, wEs, r_getV0, r_getVs]
    simp [opBlt]
    exact rt_pure (pur_spans _) hq
theorem b__law_end (hk : 1 ≤ k) {n b : Nat} {way : Int} (hw : WellOk n b μ) (hb : b ≤ 900000000) (w0 : 0 ≤ way) (w2 : way ≤ 2) (hq : ∀ x μ', Wl n (b + 2) μ μ' → Bd 14 x → x.den ≤ 61 → Q (enc x) μ') : wDef (T k) 2 ir__law_end [.cel n, .int way] μ Q := by
  have fr : ∀ (a c d : Int) (μ' : M), Wl n (b + 2) μ μ' → 0 < d → d ≤ 61 → a.natAbs < 2 ^ 14 → T k 34 [.int a, .int d] μ' (rtD μ Q) := fun a c d μ' w d0 d1 ha =>
    tc (m := 1) (by omega) (by decide) ⟨a, d, rfl, by omega, Nat.lt_of_lt_of_le (show d.natAbs < 2 ^ 14 by omega) (Nat.pow_le_pow_right (by decide) (by decide)), .inl (hq _ _ w (bd_div (by omega) ha (by omega)) (by have := (di_in (a := a) d0).1; omega))⟩
  have dr : ∀ (n b : Nat) (many : Int) (μ1 : M) (P : WQ), WellOk n b μ1 → b ≤ BIG → 0 < many → many.natAbs < 2 ^ 400 → (∀ r μ', Wl n (b + 1) μ1 μ' → 0 ≤ r → r < many → P (.int r) μ') → T k 32 [.cel n, .int many] μ1 P := fun n b many μ1 P hw hb h0 h1 hq => tc (m := 1) (by omega) (by decide) ⟨n, b, many, rfl, hw, hb, h0, h1, hq⟩
  simp only [wDef, ir__law_end]
  rw [show startD 2 [D.cel n, .int way] = [some (.cel n), some (.int way)] from rfl, wS1]
  by_cases h0 : way = 0
  · refine iff_val true (fun P hP => ?_) ?_
    · simp [wT, wE, wEs, wCmp, opCmp, h0]
      exact hP
    rw [if_pos rfl, wS1]
    simp only [wS, wE, wEs]
    simp only [r_getV0, r_getVs, opBin, r_opI]
    refine dr _ _ _ _ _ hw (by unfold BIG; omega) (by decide) (by decide) fun r μ1 w1 r0 r1 => ?_
    simp only [r_opI, r_addI]
    refine ⟨trivial, dr _ _ _ _ _ w1.ok (by unfold BIG; omega) (by decide) (by decide) fun q μ2 w2' q0 q1 => ?_⟩
    simp only [r_addI]
    exact fr _ 0 _ _ (w1.trans w2') (by omega) (by omega) (by omega)
  refine iff_val false (fun P hP => ?_) ?_
  · simp [wT, wE, wEs, wCmp, opCmp, h0]
    exact hP
  rw [if_neg Bool.false_ne_true, wS0]
  try dsimp only
  rw [wS1]
  by_cases h1 : way = 1
  · refine iff_val true (fun P hP => ?_) ?_
    · simp [wT, wE, wEs, wCmp, opCmp, h1]
      exact hP
    rw [if_pos rfl, wS1]
    simp only [wS, wE, wEs]
    simp only [r_getV0, r_getVs, opBin, r_opI]
    refine dr _ _ _ _ _ hw (by unfold BIG; omega) (by decide) (by decide) fun r μ1 w1 r0 r1 => ?_
    simp only [r_opI]
    refine ⟨trivial, line_le (by simp), .inl ?_⟩
    have := hq ((r - 6 : Int) : Rat) μ1 (w1.mono (by omega)) (Bd.int (by decide) (by omega)) (by rw [Rat.den_intCast]; omega)
    exact this
  refine iff_val false (fun P hP => ?_) ?_
  · simp [wT, wE, wEs, wCmp, opCmp, h1]
    exact hP
  rw [if_neg Bool.false_ne_true, wS0]
  try dsimp only
  rw [wS1]
  have h2 : way = 2 := by omega
  refine iff_val true (fun P hP => ?_) ?_
  · simp [wT, wE, wEs, wCmp, opCmp, h2]
    exact hP
  rw [if_pos rfl, wS1]
  simp only [wS, wE, wEs]
  simp only [r_getV0, r_getVs, opBin, r_opI]
  refine dr _ _ _ _ _ hw (by unfold BIG; omega) (by decide) (by decide) fun r μ1 w1 r0 r1 => ?_
  simp only [r_opI, r_addI]
  refine ⟨trivial, dr _ _ _ _ _ w1.ok (by unfold BIG; omega) (by decide) (by decide) fun q μ2 w2' q0 q1 => ?_⟩
  simp only [r_addI]
  exact fr _ 0 _ _ (w1.trans w2') (by omega) (by omega) (by omega)
theorem Wl.two {n b c : Nat} {μ μ1 μ2 : M} (h : Wl n b μ μ1) (g : Wl n c μ1 μ2) : Wl n c μ μ2 := h.trans g
theorem b__law_span (hk : 2 ≤ k) {n b : Nat} {way : Int} (hw : WellOk n b μ) (hb : b ≤ 800000000) (w0 : 0 ≤ way) (w2 : way ≤ 2) (hq : ∀ p μ', Wl n (b + 10) μ μ' → p.ok → Bd 14 p.lo → Bd 14 p.hi → p.lo.den ≤ 61 → p.hi.den ≤ 61 → Q (encS p) μ') : wDef (T k) 4 ir__law_span [.cel n, .int way] μ Q := by
  have dr : ∀ (n b : Nat) (many : Int) (μ1 : M) (P : WQ), WellOk n b μ1 → b ≤ BIG → 0 < many → many.natAbs < 2 ^ 400 → (∀ r μ', Wl n (b + 1) μ1 μ' → 0 ≤ r → r < many → P (.int r) μ') → T k 32 [.cel n, .int many] μ1 P := fun n b many μ1 P hw hb h0 h1 hq => tc (m := 1) (by omega) (by decide) ⟨n, b, many, rfl, hw, hb, h0, h1, hq⟩
  have bi : ∀ r : Int, 0 ≤ r → r < 2 → ∃ f : Bool, r = b01 f := fun r h0 h1 => by
    rcases (by omega : r = 0 ∨ r = 1) with rfl | rfl
    · exact ⟨false, rfl⟩
    · exact ⟨true, rfl⟩
  simp only [wDef, ir__law_span]
  rw [show startD 4 [D.cel n, .int way] = [some (.cel n), some (.int way), none, none] from rfl, wS1]
  simp only [wS, wE, wEs]
  simp only [r_getV0, r_getVs]
  refine tc (m := 2) (by omega) (by decide) ⟨n, b, way, rfl, hw, by omega, w0, w2, fun x μ1 w1 bx dx => ?_⟩
  simp only [List.set]
  rw [wS1]
  -- the rest, with both ends known
  have rest : ∀ (y : Rat) (μ2 : M), Wl n (b + 8) μ μ2 → Bd 14 y → y.den ≤ 61 → wSs (T k) ((.cons (.iff (.cmp .Eq (.var 2) (.var 3))
    (.cons (.ret (.tup (.cons (.var 2) (.cons (.var 3) (.cons (.cst (.int 1)) (.cons (.cst (.int 1)) .nil))))))
    .nil)
    .nil)
  (.cons (.iff (.cal 35 (.cons (.var 3) (.cons (.var 2) .nil)))
    (.cons (.par 2 3 (.var 3) (.var 2))
    .nil)
    .nil)
  (.cons (.ret (.tup (.cons (.var 2) (.cons (.var 3) (.cons (.cal 32 (.cons (.var 0) (.cons (.cst (.int 2)) .nil))) (.cons (.cal 32 (.cons (.var 0) (.cons (.cst (.int 2)) .nil))) .nil))))))
  .nil)))) { nx := fun _ μ' => rtD μ Q .non μ', rt := rtD μ Q } [some (.cel n), some (.int way), some (enc x), some (enc y)] μ2 := by
    intro y μ2 w2' by_ dy
    rw [wS1]
    by_cases e : x = y
    · refine iff_val true (fun P hP => ?_) ?_
      · simp [wT, wE, wEs, wCmp, opCmp, e]
        exact hP
      rw [if_pos rfl, wS1]
      simp only [wS, wE, wEs]
      simp only [r_getV0, r_getVs]
      exact ⟨line_le (by simp), .inl (hq ⟨x, y, true, true⟩ _ (w2'.mono (by omega)) (ok_iff.mpr (.inr ⟨e, rfl, rfl⟩)) bx by_ dx dy)⟩
    · refine iff_val false (fun P hP => ?_) ?_
      · simp [wT, wE, wEs, wCmp, opCmp, e]
        exact hP
      rw [if_neg Bool.false_ne_true, wS0]
      try dsimp only
      rw [wS1]
      have fin : ∀ (u v : Rat), u < v → Bd 14 u → Bd 14 v → u.den ≤ 61 → v.den ≤ 61 → wSs (T k) (.cons (.ret (.tup (.cons (.var 2) (.cons (.var 3) (.cons (.cal 32 (.cons (.var 0) (.cons (.cst (.int 2)) .nil))) (.cons (.cal 32 (.cons (.var 0) (.cons (.cst (.int 2)) .nil))) .nil)))))) .nil) { nx := fun _ μ' => rtD μ Q .non μ', rt := rtD μ Q } [some (.cel n), some (.int way), some (enc u), some (enc v)] μ2 := by
        intro u v huv bu bv du dv'
        rw [wS1]
        simp only [wS, wE, wEs]
        simp only [r_getV0, r_getVs]
        refine dr _ _ _ _ _ w2'.ok (by unfold BIG; omega) (by decide) (by decide) fun r μ3 w3 r0 r1 => ?_
        refine dr _ _ _ _ _ w3.ok (by unfold BIG; omega) (by decide) (by decide) fun q μ4 w4 q0 q1 => ?_
        obtain ⟨f, rfl⟩ := bi r r0 r1
        obtain ⟨g, rfl⟩ := bi q q0 q1
        exact ⟨line_le (by simp), .inl (hq ⟨u, v, f, g⟩ _ (w2'.trans (w3.trans w4)) (ok_iff.mpr (.inl huv)) bu bv du dv')⟩
      by_cases l : y < x
      · refine iff_val true (fun P hP => ?_) ?_
        · simp only [wT, ofE, wE, wEs, r_getV0, r_getVs]
          refine tc (m := 1) (by omega) (by decide) ⟨_, _, rfl, by_.mono (by decide), bx.mono (by decide), ?_⟩
          simp only [r_truB, l, decide_true]
          exact hP
        rw [if_pos rfl, wS1]
        simp only [wS, wE]
        simp only [r_getV0, r_getVs, List.set]
        rw [wS0]
        exact fin y x l by_ bx dy dx
      · refine iff_val false (fun P hP => ?_) ?_
        · simp only [wT, ofE, wE, wEs, r_getV0, r_getVs]
          refine tc (m := 1) (by omega) (by decide) ⟨_, _, rfl, by_.mono (by decide), bx.mono (by decide), ?_⟩
          simp only [r_truB, l, decide_false]
          exact hP
        rw [if_neg Bool.false_ne_true, wS0]
        exact fin x y (by grind) bx by_ dx dy
  simp only [wS, wE, wEs, wT, wCmp, opCmp]
  simp only [r_getV0, r_getVs]
  refine dr _ _ _ _ _ w1.ok (by unfold BIG; omega) (by decide) (by decide) fun r μ2 w2' r0 r1 => ?_
  simp only [q_ii]
  by_cases z : r = 0
  · simp only [z, decide_true, if_true, List.set]
    exact rest x μ2 ((w1.trans w2').mono (by omega)) bx dx
  · simp only [z, decide_false, Bool.false_eq_true, if_false]
    refine tc (m := 2) (by omega) (by decide) ⟨n, _, way, rfl, w2'.ok, by omega, w0, w2, fun y μ3 w3 by_ dy => ?_⟩
    simp only [List.set]
    exact rest y μ3 ((w1.trans (w2'.trans w3)).mono (by omega)) by_ dy
end
end K30


set_option Elab.async false
set_option linter.all false
set_option maxRecDepth 100000
/-! Q7: what the law's own reckoning comes to -/
namespace Rf
open PySem L2
theorem ex_asc : ∀ l : List Int, ∃ ms : List Int, Asc ms ∧ ∀ x, x ∈ ms ↔ x ∈ l
  | [] => ⟨[], .nil, by simp⟩
  | a :: l => by
    obtain ⟨ms, h1, h2⟩ := ex_asc l
    refine ⟨ms.filter (fun x => decide (x < a)) ++ a :: ms.filter (fun x => decide (a < x)), ?_, fun x => ?_⟩
    · unfold Asc
      rw [List.pairwise_append]
      refine ⟨h1.filter _, List.pairwise_cons.mpr ⟨fun y hy => by simpa using (List.mem_filter.mp hy).2, h1.filter _⟩, fun x hx y hy => ?_⟩
      have h3 : x < a := by simpa using (List.mem_filter.mp hx).2
      rcases List.mem_cons.mp hy with rfl | hy
      · exact h3
      · have h4 : a < y := by simpa using (List.mem_filter.mp hy).2
        omega
    · simp only [List.mem_append, List.mem_filter, List.mem_cons, decide_eq_true_eq, h2]
      constructor
      · rintro (⟨h, _⟩ | rfl | ⟨h, _⟩)
        · exact .inr h
        · exact .inl rfl
        · exact .inr h
      · rintro (rfl | h)
        · exact .inr (.inl rfl)
        · rcases Int.lt_trichotomy x a with q | q | q
          · exact .inl ⟨h, q⟩
          · exact .inr (.inl q)
          · exact .inr (.inr ⟨h, q⟩)
theorem ends_of' {R L : List Sp} (h : ∀ c ∈ cutsC R, c ∈ cutsC L) {P : Rat → Prop} (hL : ∀ p ∈ L, P p.lo ∧ P p.hi) : ∀ p ∈ R, P p.lo ∧ P p.hi := by
  have key : ∀ c ∈ cutsC L, P c.1 := fun c hc => by
    obtain ⟨p, hp, rfl | rfl⟩ := mem_cutsC hc
    · exact (hL p hp).1
    · exact (hL p hp).2
  intro p hp
  obtain ⟨h1, h2⟩ := cutsC_mem hp
  exact ⟨key _ (h _ h1), key _ (h _ h2)⟩
theorem canon_one {p : Sp} (h : p.ok) : Canon [p] := by
  unfold Canon AscC
  simp only [cutsC_cons, cutsC_nil]
  exact List.pairwise_cons.mpr ⟨fun c hc => by simp at hc; subst hc; exact h, List.pairwise_cons.mpr ⟨fun c hc => by simp at hc, .nil⟩⟩
theorem ex_canon {S : Int} (hs : 0 < S) : ∀ L : List Sp, dvL S L → (∀ p ∈ L, p.ok) → ∃ R, Canon R ∧ (∀ c ∈ cutsC R, c ∈ cutsC L) ∧ ∀ c, indC (cutsC R) c = L.any (covers · c)
  | [], _, _ => ⟨[], .nil, fun c h => h, fun c => rfl⟩
  | p :: L, hd, ho => by
    obtain ⟨R, h1, h2, h3⟩ := ex_canon hs L (fun q hq => hd q (List.mem_cons_of_mem _ hq)) (fun q hq => ho q (List.mem_cons_of_mem _ hq))
    have c1 := canon_one (ho p (by simp))
    have d1 : dvL S [p] := fun q hq => by simp at hq; subst hq; exact hd q (by simp)
    have d2 : dvL S R := ends_of' (P := dvs S) h2 fun q hq => hd q (List.mem_cons_of_mem _ hq)
    obtain ⟨ms, m1, m2⟩ := ex_asc (cutsI S [p] ++ cutsI S R)
    have w := sw_is (g := fun a b => a || b) rfl ((asc_io hs d1.cut).mpr c1) ((asc_io hs d2.cut).mpr h1) m1 (fun x => by rw [m2, List.mem_append]; rfl)
    have j := jn_of (g := fun a b => a || b) rfl hs d1 d2 w
    refine ⟨_, j.can, fun c hc => ?_, fun c => ?_⟩
    · rw [cutsC_cons]
      rcases j.mem c hc with z | z
      · rw [cutsC_cons, cutsC_nil] at z
        simp at z ⊢
        rcases z with z | z
        · exact .inl z
        · exact .inr (.inl z)
      · have := h2 c z
        simp [this]
    · rw [j.at_, h3, canon_ind c1, List.any_cons]
      simp
/-- the law's list of the spans' numbers -/
theorem due_ok {S s : Int} {L : List Sp} {ms : List Int} {marks : List Bool} (hs : 0 < S) (hS : dvL S L) (h0 : 0 < s) (hd : dvL s L) (ho : ∀ p ∈ L, p.ok) (ha : Asc ms)
    (hm : ∀ k, k ∈ ms ↔ ∃ p ∈ L, k = atS s p.lo ∨ k = atS s p.hi) (hl : marks.length + 1 = 2 * ms.length) (hk : ∀ i, i < marks.length → marks[i]? = some (L.any fun p => within p (smpl s ms i))) :
    Canon (lst (kpM s ms) marks 0 none) ∧ (∀ c ∈ cutsC (lst (kpM s ms) marks 0 none), c ∈ cutsC L) ∧ ∀ c, indC (cutsC (lst (kpM s ms) marks 0 none)) c = L.any (covers · c) := by
  have at_di : ∀ x : Rat, dvs s x → x = Rat.divInt (atS s x) s := fun x hx => by
    rw [Rat.divInt_eq_div, atS_rat hx]
    have : (s : Rat) ≠ 0 := fun z => by have := Rat.intCast_eq_zero_iff.mp z; omega
    grind
  have idx : ∀ x : Rat, dvs s x → atS s x ∈ ms → ∃ a, a < ms.length ∧ x = Rat.divInt (ms.getD a 0) s := fun x hx hmem => by
    obtain ⟨a, ha'⟩ := List.getElem?_of_mem hmem
    have hal := (List.getElem?_eq_some_iff.mp ha').1
    refine ⟨a, hal, ?_⟩
    rw [List.getD_eq_getElem?_getD, ha']
    exact at_di x hx
  have ends : ∀ p ∈ L, ∃ a b, a < ms.length ∧ b < ms.length ∧ p.lo = Rat.divInt (ms.getD a 0) s ∧ p.hi = Rat.divInt (ms.getD b 0) s := fun p hp => by
    obtain ⟨a, a1, a2⟩ := idx p.lo (hd p hp).1 ((hm _).mpr ⟨p, hp, .inl rfl⟩)
    obtain ⟨b, b1, b2⟩ := idx p.hi (hd p hp).2 ((hm _).mpr ⟨p, hp, .inr rfl⟩)
    exact ⟨a, b, a1, b1, a2, b2⟩
  have main := lst_ok (kp := kpM s ms) (m := marks.length) (fun i j h1 h2 => kpM_lt h0 ha i j h1 (by omega)) (listed := L) (fun p hp => by
    obtain ⟨a, b, a1, b1, a2, b2⟩ := ends p hp
    have key : ∀ (j : Nat) (f : Bool), kpM s ms (2 * j + (if f then 1 else 0)) = (Rat.divInt (ms.getD j 0) s, f) := fun j f => by
      cases f
      · have e1 : (2 * j + 0) / 2 = j := by omega
        have e2 : (2 * j + 0) % 2 = 0 := by omega
        simp only [kpM, Bool.false_eq_true, if_false, e1, e2]; rfl
      · have e1 : (2 * j + 1) / 2 = j := by omega
        have e2 : (2 * j + 1) % 2 = 1 := by omega
        simp only [kpM, if_true, e1, e2]; rfl
    refine ⟨2 * a + (if !p.lf then 1 else 0), 2 * b + (if p.hf then 1 else 0), by split <;> omega, by split <;> omega, ?_, ?_⟩
    · rw [key, ← a2]; rfl
    · rw [key, ← b2]; rfl) rfl (fun i hi => by
      rw [hk i hi]
      congr 1
      refine any_cong fun p hp => ?_
      obtain ⟨a, b, a1, b1, a2, b2⟩ := ends p hp
      exact smpl_ok h0 ha (ho p hp) a1 b1 a2 b2 (by omega))
  obtain ⟨R, r1, r2, r3⟩ := ex_canon hs L hS ho
  have e : lst (kpM s ms) marks 0 none = R := canon_unique main.1 r1 fun c => by rw [main.2, r3]
  refine ⟨main.1, ?_, main.2⟩
  rw [e]
  exact r2
/-! ### the simplest number by trying bottoms -/
def fsB (lo : Rat) (lf : Bool) (b : Int) : Int := let f := -((-lo.num * b) / lo.den); if lf = false ∧ f * lo.den = lo.num * b then f + 1 else f
def lsB (hi : Rat) (hf : Bool) (b : Int) : Int := let f := (hi.num * b) / hi.den; if hf = false ∧ f * hi.den = hi.num * b then f - 1 else f
theorem di_lt' {x : Rat} {t b : Int} (hb : 0 < b) : x < Rat.divInt t b ↔ x.num * b < t * x.den := by
  rw [Rat.lt_iff, ]
  have h := low_pos (t := t) hb
  have g : 0 < Nat.gcd t.natAbs b.natAbs := Nat.gcd_pos_of_pos_right _ (by omega)
  unfold enc at h
  injection h with h
  injection h with h1 h
  injection h with h2 _
  injection h1 with h1
  injection h2 with h2
  rw [← h1, ← h2]
  obtain ⟨c, hc⟩ : ((Nat.gcd t.natAbs b.natAbs : Nat) : Int) ∣ t := Int.ofNat_dvd_left.mpr (Nat.gcd_dvd_left _ _)
  obtain ⟨d, hd⟩ : ((Nat.gcd t.natAbs b.natAbs : Nat) : Int) ∣ b := Int.ofNat_dvd_left.mpr (Nat.gcd_dvd_right _ _)
  generalize hg : ((Nat.gcd t.natAbs b.natAbs : Nat) : Int) = G at hc hd
  have hG : 0 < G := by omega
  have e1 : t / G = c := Int.ediv_eq_of_eq_mul_right (by omega) hc
  have e2 : b / G = d := Int.ediv_eq_of_eq_mul_right (by omega) hd
  rw [e1, e2, hc, hd]
  have a1 : x.num * (G * d) = G * (x.num * d) := by rw [Int.mul_left_comm]
  have a2 : G * c * x.den = G * (c * x.den) := by rw [Int.mul_assoc]
  rw [a1, a2]
  exact ⟨fun h => Int.mul_lt_mul_of_pos_left h hG, fun h => Int.lt_of_mul_lt_mul_left h (by omega)⟩
theorem di_eq' {x : Rat} {t b : Int} (hb : 0 < b) : x = Rat.divInt t b ↔ x.num * b = t * x.den := by
  have hd := x.den_pos
  constructor
  · intro h
    have h1 := (di_in (a := t) hb).2
    rw [← h] at h1
    have h2 := numR x
    have : ((x.num * b : Int) : Rat) = ((t * x.den : Int) : Rat) := by
      rw [Rat.intCast_mul, Rat.intCast_mul, h2, ← h1]
      have : (((x.den : Nat) : Int) : Rat) = ((x.den : Nat) : Rat) := rfl
      rw [this]; grind
    exact Rat.intCast_inj.mp this
  · intro h
    rw [← di_self x]
    rw [Rat.divInt_eq_divInt_iff (by omega) (by omega)]
    omega
theorem denp' (x : Rat) : (0 : Int) < x.den := by have := x.den_pos; omega
theorem fsB_le {lo : Rat} {lf : Bool} {b t : Int} (hb : 0 < b) : fsB lo lf b ≤ t ↔ inLo lo lf (Rat.divInt t b) := by
  have hd := denp' lo
  unfold inLo
  rw [di_lt' hb, di_eq' hb]
  have key : ∀ u : Int, -((-lo.num * b) / lo.den) ≤ u ↔ lo.num * b ≤ u * lo.den := fun u => by
    have : (-u ≤ (-lo.num * b) / lo.den) ↔ -u * lo.den ≤ -lo.num * b := Int.le_ediv_iff_mul_le hd
    rw [Int.neg_mul, Int.neg_mul] at this
    rw [Int.neg_mul]
    omega
  unfold fsB
  simp only
  generalize hf : -((-lo.num * b) / lo.den) = f at key
  have k1 := (key f).mp (Int.le_refl _)
  have k2 := key t
  by_cases c : lf = false ∧ f * lo.den = lo.num * b
  · rw [if_pos c]
    obtain ⟨c1, c2⟩ := c
    subst c1
    simp only [Bool.false_eq_true, and_false, or_false]
    rw [← c2]
    constructor
    · intro h
      have : (f + 1) * lo.den ≤ t * lo.den := Int.mul_le_mul_of_nonneg_right h (by omega)
      rw [Int.add_mul] at this
      omega
    · intro h
      have := Int.lt_of_mul_lt_mul_right h (by omega)
      omega
  · rw [if_neg c, k2]
    cases lf with
    | true => simp; omega
    | false =>
      simp only [true_and] at c
      simp only [Bool.false_eq_true, and_false, or_false]
      constructor
      · intro h
        by_cases e : lo.num * b = t * lo.den
        · exfalso
          have h1 := (key t).mpr (by omega)
          have h2 : f * lo.den ≤ t * lo.den := Int.mul_le_mul_of_nonneg_right h1 (by omega)
          omega
        · omega
      · intro h; omega
theorem lsB_le {hi : Rat} {hf : Bool} {b t : Int} (hb : 0 < b) : t ≤ lsB hi hf b ↔ inHi (some hi) hf (Rat.divInt t b) := by
  have hd := denp' hi
  have e : inHi (some hi) hf (Rat.divInt t b) ↔ t * hi.den < hi.num * b ∨ (t * hi.den = hi.num * b ∧ hf = true) := by
    unfold inHi
    simp only
    have l1 : Rat.divInt t b < hi ↔ ¬ (hi < Rat.divInt t b ∨ hi = Rat.divInt t b) := by
      constructor
      · rintro h (h' | h') <;> grind
      · intro h; grind
    rw [l1, di_lt' hb, eq_comm (b := hi), di_eq' hb]
    constructor
    · rintro (h | ⟨h, h'⟩)
      · exact .inl (by omega)
      · exact .inr ⟨h.symm, h'⟩
    · rintro (h | ⟨h, h'⟩)
      · exact .inl (by omega)
      · exact .inr ⟨h.symm, h'⟩
  rw [e]
  have key : ∀ u : Int, u ≤ (hi.num * b) / hi.den ↔ u * hi.den ≤ hi.num * b := fun u => Int.le_ediv_iff_mul_le hd
  unfold lsB
  simp only
  generalize hf' : (hi.num * b) / hi.den = f at key
  have k1 := (key f).mp (Int.le_refl _)
  have k2 := key t
  by_cases c : hf = false ∧ f * hi.den = hi.num * b
  · rw [if_pos c]
    obtain ⟨c1, c2⟩ := c
    subst c1
    simp only [Bool.false_eq_true, and_false, or_false]
    rw [← c2]
    constructor
    · intro h
      have : (t + 1) * hi.den ≤ f * hi.den := Int.mul_le_mul_of_nonneg_right (by omega) (by omega)
      rw [Int.add_mul] at this
      omega
    · intro h
      have := Int.lt_of_mul_lt_mul_right h (by omega)
      omega
  · rw [if_neg c, k2]
    cases hf with
    | true => simp; omega
    | false =>
      simp only [true_and] at c
      simp only [Bool.false_eq_true, and_false, or_false]
      constructor
      · intro h
        by_cases e : t * hi.den = hi.num * b
        · exfalso
          have h1 := (key t).mpr (by omega)
          have h2 : t * hi.den ≤ f * hi.den := Int.mul_le_mul_of_nonneg_right h1 (by omega)
          omega
        · omega
      · intro h; omega
/-- no number of a smaller bottom -/
def NoB (p : Sp) (b : Int) : Prop := ∀ d : Int, 0 < d → d < b → lsB p.hi p.hf d < fsB p.lo p.lf d
theorem nob {p : Sp} {b : Int} (h : NoB p b) {y : Rat} (hy : inJ p.lo p.lf (some p.hi) p.hf y) : b ≤ y.den := by
  by_cases q : b ≤ y.den
  · exact q
  · have hd := y.den_pos
    have := h y.den (by omega) (by omega)
    have e : Rat.divInt y.num y.den = y := di_self y
    have h1 := (fsB_le (lo := p.lo) (lf := p.lf) (b := y.den) (t := y.num) (by omega)).mpr (by rw [e]; exact hy.1)
    have h2 := (lsB_le (hi := p.hi) (hf := p.hf) (b := y.den) (t := y.num) (by omega)).mpr (by rw [e]; exact hy.2)
    omega
theorem smp_of {p : Sp} {b : Int} (hb : 0 < b) (h : NoB p b) (hle : fsB p.lo p.lf b ≤ lsB p.hi p.hf b) {t : Int} (ht : t = if fsB p.lo p.lf b > 0 then fsB p.lo p.lf b else min (lsB p.hi p.hf b) 0) :
    Smp p (Rat.divInt t b) ∧ enc (Rat.divInt t b) = .tup [.int t, .int b] := by
  have t1 : fsB p.lo p.lf b ≤ t := by subst ht; split <;> omega
  have t2 : t ≤ lsB p.hi p.hf b := by subst ht; split <;> omega
  have hin : inJ p.lo p.lf (some p.hi) p.hf (Rat.divInt t b) := ⟨(fsB_le hb).mp t1, (lsB_le hb).mp t2⟩
  have hd := nob h hin
  obtain ⟨d1, d2⟩ := di_in (a := t) hb
  have ed : ((Rat.divInt t b).den : Int) = b := by omega
  have en : (Rat.divInt t b).num = t := by
    have := (di_eq' (x := Rat.divInt t b) hb).mp rfl
    rw [ed] at this
    exact Int.eq_of_mul_eq_mul_right (by omega) this
  refine ⟨⟨hin, fun y hy => ?_, fun h1 => ?_, fun h1 => ?_⟩, by unfold enc; rw [en, ed]⟩
  · have := nob h hy
    omega
  · have b1 : b = 1 := by omega
    subst b1
    have i1 : ∀ u : Int, Rat.divInt u 1 = (u : Rat) := fun u => by rw [← di_self (u : Rat)]; rfl
    have e1 : fsB p.lo p.lf 1 = fstW p.lo p.lf := by
      have a1 := (fsB_le (lo := p.lo) (lf := p.lf) (b := 1) (t := fstW p.lo p.lf) (by decide)).mpr (by rw [i1]; exact fst_le.mpr (Int.le_refl _))
      have a2 := fst_le.mp (by rw [← i1]; exact (fsB_le (lo := p.lo) (lf := p.lf) (b := 1) (t := fsB p.lo p.lf 1) (by decide)).mp (Int.le_refl _))
      omega
    have e2 : lsB p.hi p.hf 1 = lstW p.hi p.hf := by
      have a1 := (lsB_le (hi := p.hi) (hf := p.hf) (b := 1) (t := lstW p.hi p.hf) (by decide)).mpr (by rw [i1]; exact lst_le.mpr (Int.le_refl _))
      have a2 := lst_le.mp (by rw [← i1]; exact (lsB_le (hi := p.hi) (hf := p.hf) (b := 1) (t := lsB p.hi p.hf 1) (by decide)).mp (Int.le_refl _))
      omega
    rw [en, ht, e1, e2]
  · have hno : ∀ z : Int, ¬ inJ p.lo p.lf (some p.hi) p.hf (z : Rat) := fun z hz => by
      have := nob h hz
      rw [Rat.den_intCast] at this
      omega
    have hw : fstW p.lo p.lf = (fstW p.lo p.lf - 1) + 1 := by omega
    refine sole_of (w := fstW p.lo p.lf - 1) (fun y hy => between hw (fun z => hno _ ⟨fst_le.mpr (by omega), z⟩) hy) hin (fun y hy => ?_) h1
    have := nob h hy
    omega
end Rf

set_option Elab.async false
set_option linter.all false
set_option maxRecDepth 100000
namespace K30
open PySem L2 Rf
def pS (p : Rf.Sp) : PyData := .tuple [.tuple [.int p.lo.num, .int p.lo.den], .tuple [.int p.hi.num, .int p.hi.den], .int (b01 p.lf), .int (b01 p.hf)]
theorem toPs_S : ∀ L : List Rf.Sp, toPs (L.map encS) = some (L.map pS)
  | [] => rfl
  | p :: L => by
    show toPs (encS p :: L.map encS) = _
    have e : toP (encS p) = some (pS p) := by simp [toP, toPs, encS, enc, pS]
    simp only [toPs, e, toPs_S L]; rfl
theorem shaped_S {L : List Rf.Sp} : SeqAt.shaped (.list (L.map pS)) = true := by
  have a : ∀ L : List Rf.Sp, PyData.canLayAll0 (L.map pS) = true ∧ PyData.depthAll (L.map pS) ≤ 2 := by
    intro L
    induction L with
    | nil => exact ⟨by simp [PyData.canLayAll0], by simp [PyData.depthAll]⟩
    | cons p L ih =>
      refine ⟨by simp [PyData.canLayAll0, PyData.canLay0, pS, ih.1], ?_⟩
      have := ih.2
      simp [PyData.depthAll, PyData.depth, pS]
      omega
  obtain ⟨i1, i2⟩ := a L
  simp [SeqAt.shaped, PyData.canLay0, PyData.depth, i1]
  omega
section
variable {k : Nat} {μ : M} {Q : WQ}
theorem eq_nilS {L : List Rf.Sp} : eqD μ (lstS L) (.lst []) = some L.isEmpty := by
  have h1 : SeqAt.shaped (.list []) = true := by simp [SeqAt.shaped, PyData.canLay0, PyData.canLayAll0, PyData.depth, PyData.depthAll]
  have h2 := shaped_S (L := L)
  simp only [lstS, eqD, eqP, toPm, toPs_S, Option.map_some, toP, toPs, h2, h1, Bool.and_self, if_true]
  cases L <;> simp [PyData.eqv, PyData.eqvAll]
theorem smpl_bd {s : Int} {ms : List Int} {i : Nat} {L : List Rf.Sp} (h0 : 0 < s) (sb : s.natAbs < 2 ^ 2000) (hm : ∀ k, k ∈ ms ↔ ∃ p ∈ L, k = atS s p.lo ∨ k = atS s p.hi) (hb : ∀ p ∈ L, Bd 1000 p.lo ∧ Bd 1000 p.hi) (hd : dvL s L) (hi : i + 1 < 2 * ms.length) : Bd 4000 (smpl s ms i) := by
  have hk : ∀ j, j < ms.length → (ms.getD j 0).natAbs < 2 ^ 3000 := by
    intro j hj
    have hmem : ms.getD j 0 ∈ ms := by
      rw [List.getD_eq_getElem?_getD, List.getElem?_eq_getElem hj]; exact List.getElem_mem hj
    have key : ∀ x : Rat, Bd 1000 x → dvs s x → (atS s x).natAbs < 2 ^ 3000 := fun x hx hd' => by
      unfold atS
      rw [Int.natAbs_mul, Int.natAbs_ediv_of_dvd hd']
      exact mul_lt2 hx.1 (Nat.lt_of_le_of_lt (Nat.div_le_self _ _) sb)
    obtain ⟨p, hp, h | h⟩ := (hm _).mp hmem
    · rw [h]; exact key _ (hb p hp).1 (hd p hp).1
    · rw [h]; exact key _ (hb p hp).2 (hd p hp).2
  have p1 : (2 : Nat) ^ 3000 * 2 ≤ 2 ^ 4000 := by rw [← Nat.pow_succ]; exact Nat.pow_le_pow_right (by decide) (by decide)
  have p2 : (2 : Nat) ^ 2000 * 2 ≤ 2 ^ 4000 := by rw [← Nat.pow_succ]; exact Nat.pow_le_pow_right (by decide) (by decide)
  unfold smpl
  split
  · have := hk (i / 2) (by omega)
    exact bd_div (by omega) (by omega) (by omega)
  · have := hk (i / 2) (by omega)
    have := hk (i / 2 + 1) (by omega)
    exact bd_div (by omega) (by omega) (by omega)
theorem b__law_due (hk : 3 ≤ k) {L : List Rf.Sp} {S : Int} (hS : SpB S L) (sb : S.natAbs < 2 ^ 2000) (ho : ∀ p ∈ L, p.ok) (hl : L.length ≤ 64) (hq : ∀ R, Canon R → (∀ c ∈ cutsC R, c ∈ cutsC L) → (∀ c, indC (cutsC R) c = L.any (covers · c)) → Q (tupS R) μ) : wDef (T k) 5 ir__law_due [lstS L] μ Q := by
  obtain ⟨s0, s1, s2, s3, s4⟩ := id hS
  simp only [wDef, ir__law_due]
  rw [show startD 5 [lstS L] = [some (lstS L), none, none, none, none] from rfl, wS1]
  refine iff_val L.isEmpty (fun P hP => ?_) ?_
  · simp only [wT, wE, wEs, wCmp, opCmp, r_getV0, r_getVs]
    refine new_l (line_le (by simp)) ?_
    simp only [eq_nilS]
    exact hP
  by_cases he : L = []
  · subst he
    have h0 : ([] : List Rf.Sp).isEmpty = true := rfl
    rw [h0, if_pos rfl, wS1]
    simp only [wS, wE, wEs]
    exact ⟨line_le (by simp), rt_here (hq [] .nil (fun c h => h) (fun c => rfl))⟩
  have hne : L.isEmpty = false := by cases L with | nil => exact absurd rfl he | cons p L => rfl
  rw [hne, if_neg Bool.false_ne_true, wS0]
  try dsimp only
  rw [wS1]
  simp only [wS, wE, wEs]
  simp only [r_getV0, r_getVs]
  refine tc (m := 3) (by omega) (by decide) ⟨L, S, rfl, hS, fun s ms p0 p1 p2 ha hm hml => ?_⟩
  have sb' : s.natAbs < 2 ^ 2000 := by
    have := Int.le_of_dvd s0 p1
    omega
  have hpos : 0 < ms.length := by
    cases L with
    | nil => exact absurd rfl he
    | cons p L => exact List.length_pos_of_mem ((hm (atS s p.lo)).mpr ⟨p, by simp, .inl rfl⟩)
  simp only [setsD, List.set]
  rw [wS1]
  simp only [wS, wE, wEs, wI, opBin]
  simp only [r_getV0, r_getVs, r_len, r_lenL, List.length_map]
  simp only [r_opI]
  refine ⟨cm1 (by decide) (by decide), trivial, ⟨by omega, by omega⟩, ?_⟩
  have eN : (2 * (ms.length : Int) - 1).toNat = 2 * ms.length - 1 := by omega
  rw [eN]
  refine lc_pure (fun n ys h => by cases h) (line_le (by simp; omega)) (fun d => match d with | .int i => .bl (L.any fun p => within p (smpl s ms i.toNat)) | d => d) ?_ ?_
  · intro i x hx
    obtain ⟨hi, rfl⟩ := r_rangeD hx
    rw [Int.zero_add]
    refine ⟨_, rfl, fun P hP => ?_⟩
    simp [wE, wEs, wipeD]
    trace_state
    refine tc (m := 2) (by omega) (by decide) ⟨s, ms, i, rfl, p0, lt8 s0 s1 p0 p1, by omega, ?_⟩
    refine tc (m := 2) (by omega) (by decide) ⟨L, _, .inl rfl, fun p hp => ⟨(s3 p hp).1.mono (by decide), (s3 p hp).2.mono (by decide)⟩, smpl_bd p0 sb' hm s3 p2 (by omega), ?_⟩
    simpa using hP
  · have em : (rangeD 0 (2 * ms.length - 1)).map (fun d => match d with | .int i => .bl (L.any fun p => within p (smpl s ms i.toNat)) | d => d) = ((List.range (2 * ms.length - 1)).map fun i => L.any fun p => within p (smpl s ms i)).map D.bl := by
      unfold rangeD
      rw [List.map_map, List.map_map]
      refine List.map_congr_left fun i _ => ?_
      simp
    rw [em]
    generalize hmk : ((List.range (2 * ms.length - 1)).map fun i => L.any fun p => within p (smpl s ms i)) = marks
    have mlen : marks.length + 1 = 2 * ms.length := by subst hmk; simp; omega
    have mget : ∀ i, i < marks.length → marks[i]? = some (L.any fun p => within p (smpl s ms i)) := fun i hi => by
      subst hmk
      simp at hi
      rw [List.getElem?_map, List.getElem?_range hi]; rfl
    refine new_l (line_le (by simp; omega)) ?_
    simp only [List.set]
    rw [wS1]
    simp only [wS, wE, wEs]
    simp only [r_getV0, r_getVs]
    obtain ⟨c1, c2, c3⟩ := due_ok s0 s2 p0 p2 ho ha hm mlen mget
    exact tc (m := 2) (by omega) (by decide) ⟨s, ms, marks, rfl, p0, lt8 s0 s1 p0 p1, mlen, by omega, rt_here (hq _ c1 c2 c3)⟩
end
end K30


set_option Elab.async false
set_option linter.all false
set_option maxRecDepth 100000
namespace K30
open PySem L2 Rf
theorem di_aff (x p q : Rat) : Rat.divInt (x.num * p.num * q.den + q.num * x.den * p.den) (x.den * p.den * q.den) = x * p + q := by
  rw [Rat.divInt_eq_div]
  have e : ∀ z : Rat, (((z.den : Nat) : Int) : Rat) = ((z.den : Nat) : Rat) := fun _ => rfl
  simp only [Rat.intCast_add, Rat.intCast_mul, numR, e]
  have h1 : (x.den : Rat) ≠ 0 := by have := denR_pos x; grind
  have h2 : (p.den : Rat) ≠ 0 := by have := denR_pos p; grind
  have h3 : (q.den : Rat) ≠ 0 := by have := denR_pos q; grind
  grind
section
variable {k : Nat} {μ : M} {Q : WQ}
theorem b__law_scaled (hk : 1 ≤ k) {x p q : Rat} (hx : Bd 4000 x) (hp : Bd 1000 p) (hq' : Bd 3000 q) (hq : Q (enc (x * p + q)) μ) : wDef (T k) 3 ir__law_scaled [enc x, enc p, enc q] μ Q := by
  have n : ∀ {i j : Int} {a b : Nat}, i.natAbs < 2 ^ a → j.natAbs < 2 ^ b → (i * j).natAbs < 2 ^ (a + b) := fun h1 h2 => by rw [Int.natAbs_mul]; exact mul_lt2 h1 h2
  have dn : ∀ {x : Rat} {m : Nat}, Bd m x → ((x.den : Nat) : Int).natAbs < 2 ^ m := fun h => by rw [Int.natAbs_natCast]; exact h.2
  have d1 := denp x
  have d2 := denp p
  have d3 := denp q
  simp only [wDef, ir__law_scaled]
  rw [show startD 3 [enc x, enc p, enc q] = [some (enc x), some (enc p), some (enc q)] from rfl, wS1]
  simp only [wS, wE, wEs]
  simp only [r_getV0, r_getVs]
  simp only [enc0, enc1]
  simp only [opBin]
  simp only [r_opI, enc0, enc1]
  refine ⟨mw hx.1 hp.1 (by decide), mw (n hx.1 hp.1) (dn hq') (by decide), mw hq'.1 (dn hx) (by decide), mw (n hq'.1 (dn hx)) (dn hp) (by decide), ?_⟩
  simp only [r_addI, r_opI, enc0, enc1]
  refine ⟨mw (dn hx) (dn hp) (by decide), mw (n (dn hx) (dn hp)) (dn hq') (by decide), ?_⟩
  have pos : (0 : Int) < x.den * p.den * q.den := Int.mul_pos (Int.mul_pos d1 d2) d3
  refine tc hk (by decide) ⟨_, _, rfl, by omega, Nat.lt_trans (n (n (dn hx) (dn hp)) (dn hq')) (Nat.pow_lt_pow_right (by decide) (by decide)), ?_⟩
  rw [di_aff]
  exact rt_here hq
theorem b__law_scaled_list (hk : 2 ≤ k) {L : List Rf.Sp} {p q : Rat} (hl : L.length ≤ 400) (hL : ∀ p ∈ L, Bd 1000 p.lo ∧ Bd 1000 p.hi) (hp : Bd 1000 p) (hq' : Bd 1000 q) (h0 : p ≠ 0) (hq : Q (tupS (scL p q L)) μ) : wDef (T k) 9 ir__law_scaled_list [tupS L, enc p, enc q] μ Q := by
  simp only [wDef, ir__law_scaled_list]
  rw [show startD 9 [tupS L, enc p, enc q] = [some (tupS L), some (enc p), some (enc q), none, none, none, none, none, none] from rfl, wS1]
  simp only [wS, wE, wEs]
  have etake : L.take (⟨none, L.map encS⟩ : Src).items.length = L := by
    have : (⟨none, L.map encS⟩ : Src).items.length = L.length := by simp
    rw [this, List.take_length]
  by_cases h : 0 < p
  · refine new_c (line_le (by simp)) ?_
    simp only [List.set]
    rw [wS1]
    simp only [wS, wI, wE, r_getV0, r_getVs]
    simp only [tupS, srcOf, asSq, Option.map_some]
    refine ⟨fun i ρ μ' => μ' = μ ++ [.lst ((L.take i).map fun s => encS (scSp p q s))] ∧ ∃ (o4 o5 o6 o7 o8 : Option D), ρ = [some (.tup (L.map encS)), some (enc p), some (enc q), some (.cel μ.length), o4, o5, o6, o7, o8], ⟨rfl, _, _, _, _, _, rfl⟩, fun _ _ _ _ _ _ _ h => (by cases h), ?_, ?_⟩
    · rintro i y ρ μ' hx' ⟨rfl, o4, o5, o6, o7, o8, rfl⟩
      obtain ⟨s, hs, rfl, hm⟩ := items_S hx'
      have hi := (List.getElem?_eq_some_iff.mp hs).1
      obtain ⟨e1, e2⟩ := hL s hm
      refine ⟨_, rfl, ?_⟩
      simp only [List.set]
      rw [wS1]
      simp only [wS, wE, wEs]
      simp only [r_getV0, r_getVs]
      refine tc (m := 2) (by omega) (by decide) ⟨_, _, _, rfl, e1.mono (by decide), hp, hq'.mono (by decide), ?_⟩
      refine tc (m := 2) (by omega) (by decide) ⟨_, _, _, rfl, e2.mono (by decide), hp, hq'.mono (by decide), ?_⟩
      refine new_l (line_le (by simp)) ?_
      simp only [List.set]
      rw [wS1]
      refine iff_val true (fun P hP => ?_) ?_
      · simp only [wT, wE, wEs, wCmp, opCmp, r_getV0, r_getVs, enc0, r_cmpI, pos_num, h, decide_true]
        exact hP
      rw [if_pos rfl, wS1]
      simp only [wS, wE, wEs]
      simp only [r_getV0, r_getVs, e_mok]
      have i0 : ∀ (a b : D) (P : WQ) (ν : M), opIdx (.lst [a, b]) (.int 0) ν P = P a ν := fun a b P ν => by simp
      have i1 : ∀ (a b : D) (P : WQ) (ν : M), opIdx (.lst [a, b]) (.int 1) ν P = P b ν := fun a b P ν => by simp
      simp only [i0, i1, e_app]
      refine ⟨trivial, line_le (by simp), line_lt (by simp; omega), ?_⟩
      rw [wS0]
      try dsimp only
      rw [wS0]
      refine ⟨?_, _, _, _, _, _, rfl⟩
      have : encS (scSp p q s) = .tup [enc (s.lo * p + q), enc (s.hi * p + q), .int (b01 s.lf), .int (b01 s.hf)] := by unfold scSp; rw [if_pos h]; rfl
      rw [take_snoc hs, List.map_append, List.map_cons, List.map_nil, this]
    · rintro ρ μ' ⟨rfl, o4, o5, o6, o7, o8, rfl⟩
      rw [etake, wS1]
      simp only [wS, wE, wEs, r_getV0, r_getVs, r_tupleC, e_asR]
      have : (L.map fun s => encS (scSp p q s)) = (L.map (scSp p q)).map encS := by rw [List.map_map]; rfl
      rw [this]
      unfold scL at hq
      rw [if_pos h] at hq
      exact rt_pure (pur_spans _) hq
  · refine new_l (line_le (by simp)) ?_
    simp only [List.set]
    rw [wS1]
    simp only [wS, wI, wE, r_getV0, r_getVs]
    simp only [tupS, srcOf, asSq, Option.map_some]
    refine ⟨fun i ρ μ' => μ' = μ ∧ ∃ (o4 o5 o6 o7 o8 : Option D), ρ = [some (.tup (L.map encS)), some (enc p), some (enc q), some (.lst ((L.take i).map fun s => encS (scSp p q s)).reverse), o4, o5, o6, o7, o8], ⟨rfl, _, _, _, _, _, rfl⟩, fun _ _ _ _ _ _ _ h => (by cases h), ?_, ?_⟩
    · rintro i y ρ μ' hx' ⟨rfl, o4, o5, o6, o7, o8, rfl⟩
      obtain ⟨s, hs, rfl, hm⟩ := items_S hx'
      have hi := (List.getElem?_eq_some_iff.mp hs).1
      obtain ⟨e1, e2⟩ := hL s hm
      refine ⟨_, rfl, ?_⟩
      simp only [List.set]
      rw [wS1]
      simp only [wS, wE, wEs]
      simp only [r_getV0, r_getVs]
      refine tc (m := 2) (by omega) (by decide) ⟨_, _, _, rfl, e1.mono (by decide), hp, hq'.mono (by decide), ?_⟩
      refine tc (m := 2) (by omega) (by decide) ⟨_, _, _, rfl, e2.mono (by decide), hp, hq'.mono (by decide), ?_⟩
      refine new_l (line_le (by simp)) ?_
      simp only [List.set]
      rw [wS1]
      refine iff_val false (fun P hP => ?_) ?_
      · simp only [wT, wE, wEs, wCmp, opCmp, r_getV0, r_getVs, enc0, r_cmpI, pos_num, h, decide_false]
        exact hP
      rw [if_neg Bool.false_ne_true, wS1]
      simp only [wS, wE, wEs, opBin]
      simp only [r_getV0, r_getVs]
      have i0 : ∀ (a b : D) (P : WQ) (ν : M), opIdx (.lst [a, b]) (.int 0) ν P = P a ν := fun a b P ν => by simp
      have i1 : ∀ (a b : D) (P : WQ) (ν : M), opIdx (.lst [a, b]) (.int 1) ν P = P b ν := fun a b P ν => by simp
      simp only [i0, i1]
      refine ⟨line_le (by simp), new_l (line_le (by simp)) ?_⟩
      rw [r_addL]
      refine new_l (line_le (by simp; omega)) ?_
      simp only [List.set]
      rw [wS0]
      try dsimp only
      rw [wS0]
      have : encS (scSp p q s) = .tup [enc (s.hi * p + q), enc (s.lo * p + q), .int (b01 s.hf), .int (b01 s.lf)] := by unfold scSp; rw [if_neg h]; rfl
      rw [take_snoc hs, List.map_append, List.map_cons, List.map_nil, this, List.reverse_append]
      exact ⟨rfl, _, _, _, _, _, rfl⟩
    · rintro ρ μ' ⟨rfl, o4, o5, o6, o7, o8, rfl⟩
      rw [etake, wS1]
      simp only [wS, wE, wEs, r_getV0, r_getVs, r_tupleL]
      have : (L.map fun s => encS (scSp p q s)).reverse = (L.map (scSp p q)).reverse.map encS := by rw [List.map_reverse, List.map_map]; rfl
      rw [this]
      unfold scL at hq
      rw [if_neg h] at hq
      exact rt_here hq
end
end K30


set_option Elab.async false
set_option linter.all false
set_option maxRecDepth 100000
namespace K30
open PySem L2 Rf
section
variable {k : Nat} {μ : M} {Q : WQ}
theorem b01_eq0 (b : Bool) : decide (b01 b = 0) = !b := by cases b <;> rfl
theorem b__law_simplest {p : Rf.Sp} (hp : p.ok) (h1 : Bd 200 p.lo) (h2 : Bd 200 p.hi) (hy : ∃ y, inJ p.lo p.lf (some p.hi) p.hf y ∧ y.den ≤ 4000) (hq : ∀ t, Smp p t → Q (enc t) μ) : wDef (T k) 10 ir__law_simplest [encS p, .int 4000] μ Q := by
  have dl := denp p.lo
  have dh := denp p.hi
  have bl : ((p.lo.den : Nat) : Int).natAbs < 2 ^ 200 := by rw [Int.natAbs_natCast]; exact h1.2
  have bh : ((p.hi.den : Nat) : Int).natAbs < 2 ^ 200 := by rw [Int.natAbs_natCast]; exact h2.2
  simp only [wDef, ir__law_simplest]
  rw [show startD 10 [encS p, .int 4000] = [some (encS p), some (.int 4000), none, none, none, none, none, none, none, none] from rfl, wS1]
  simp only [wS, wE, r_getV0, r_getVs, encS, setsD, List.set]
  rw [wS1]
  simp only [wS, wI, wE, opBin, r_getV0, r_getVs, r_addI]
  refine ⟨⟨by decide, by decide⟩, ⟨by decide, by decide⟩, ?_⟩
  rw [show ((4000 + 1 - 1 : Int)).toNat = 4000 by decide]
  refine ⟨fun i ρ μ' => μ' = μ ∧ NoB p (1 + i) ∧ ∃ (o6 o7 o8 o9 : Option D), ρ = [some (encS p), some (.int 4000), some (enc p.lo), some (enc p.hi), some (.int (b01 p.lf)), some (.int (b01 p.hf)), o6, o7, o8, o9], ⟨rfl, fun d d0 d1 => by omega, _, _, _, _, rfl⟩, fun _ _ _ _ _ _ _ h => (by cases h), ?_, ?_⟩
  · rintro i x ρ μ' hx ⟨rfl, nb, o6, o7, o8, o9, rfl⟩
    obtain ⟨hi, rfl⟩ := r_rangeD hx
    refine ⟨_, rfl, ?_⟩
    generalize hb : (1 : Int) + (i : Int) = b at nb
    have b0 : 0 < b := by omega
    have bb : b.natAbs < 2 ^ 12 := by omega
    have nb' : ∀ f g : Int, f = fsB p.lo p.lf b → g = lsB p.hi p.hf b → ¬ f ≤ g → NoB p (1 + ((i + 1 : Nat) : Int)) := by
      rintro f g rfl rfl h d d0 d1
      by_cases e : d < b
      · exact nb d d0 e
      · have : d = b := by omega
        subst this
        omega
    simp only [List.set]
    rw [wS1]
    simp only [wS, wE]
    simp only [r_getV0, r_getVs, enc0, enc1]
    simp only [opBin, r_opI, enc0, enc1]
    have n1 : (-p.lo.num).natAbs < 2 ^ 200 := by rw [Int.natAbs_neg]; exact h1.1
    refine ⟨mw n1 bb (by decide), ?_⟩
    try simp only [r_opI, enc1]
    refine ⟨dv dl bl (by decide), ?_⟩
    simp only [List.set]
    have f1 : (-((-p.lo.num * b) / (p.lo.den : Int))).natAbs < 2 ^ 212 := by
      rw [Int.natAbs_neg]
      refine Nat.lt_of_le_of_lt (Int.natAbs_ediv_le_natAbs _ _) ?_
      rw [Int.natAbs_mul]
      exact mul_lt2 n1 bb
    have f2 : ((p.hi.num * b) / (p.hi.den : Int)).natAbs < 2 ^ 212 := by
      refine Nat.lt_of_le_of_lt (Int.natAbs_ediv_le_natAbs _ _) ?_
      rw [Int.natAbs_mul]
      exact mul_lt2 h2.1 bb
    have ef : fsB p.lo p.lf b = if p.lf = false ∧ (-((-p.lo.num * b) / (p.lo.den : Int))) * p.lo.den = p.lo.num * b then (-((-p.lo.num * b) / (p.lo.den : Int))) + 1 else (-((-p.lo.num * b) / (p.lo.den : Int))) := rfl
    have el : lsB p.hi p.hf b = if p.hf = false ∧ ((p.hi.num * b) / (p.hi.den : Int)) * p.hi.den = p.hi.num * b then ((p.hi.num * b) / (p.hi.den : Int)) - 1 else ((p.hi.num * b) / (p.hi.den : Int)) := rfl
    generalize (-((-p.lo.num * b) / (p.lo.den : Int))) = f at f1 ef
    -- the first one is made
    have step2 : ∀ E : DEnds, (∀ d, Q d μ' → E.rt d μ') → (NoB p (1 + ((i + 1 : Nat) : Int)) → ∀ (o6 o7 o8 o9 : Option D), E.nx [some (encS p), some (.int 4000), some (enc p.lo), some (enc p.hi), some (.int (b01 p.lf)), some (.int (b01 p.hf)), o6, o7, o8, o9] μ') → wSs (T k)
        (.cons (.set 8 (.bin .FloorDiv (.bin .Mult (.idx (.var 3) (.cst (.int 0))) (.var 6)) (.idx (.var 3) (.cst (.int 1)))))
    (.cons (.iff (.and (.cmp .Eq (.var 5) (.cst (.int 0))) (.cmp .Eq (.bin .Mult (.var 8) (.idx (.var 3) (.cst (.int 1)))) (.bin .Mult (.idx (.var 3) (.cst (.int 0))) (.var 6))))
      (.cons (.set 8 (.bin .Sub (.var 8) (.cst (.int 1))))
      .nil)
      .nil)
    (.cons (.iff (.cmp .LtE (.var 7) (.var 8))
      (.cons (.set 9 (.ife (.cmp .Gt (.var 7) (.cst (.int 0))) (.var 7) (.blt .min2 (.cons (.var 8) (.cons (.cst (.int 0)) .nil)))))
      (.cons (.ret (.tup (.cons (.var 9) (.cons (.var 6) .nil))))
      .nil))
      .nil)
    .nil))) E
        [some (encS p), some (.int 4000), some (enc p.lo), some (enc p.hi), some (.int (b01 p.lf)), some (.int (b01 p.hf)), some (.int b), some (.int (fsB p.lo p.lf b)), o8, o9] μ' := by
      intro E hrt hnx
      rw [wS1]
      simp only [wS, wE]
      simp only [r_getV0, r_getVs, enc0, enc1]
      simp only [opBin, r_opI, enc0, enc1]
      refine ⟨mw h2.1 bb (by decide), ?_⟩
      try simp only [r_opI, enc1]
      refine ⟨dv dh bh (by decide), ?_⟩
      simp only [List.set]
      generalize ((p.hi.num * b) / (p.hi.den : Int)) = g at f2 el
      have step3 : ∀ E : DEnds, (∀ d, Q d μ' → E.rt d μ') → (NoB p (1 + ((i + 1 : Nat) : Int)) → ∀ (o6 o7 o8 o9 : Option D), E.nx [some (encS p), some (.int 4000), some (enc p.lo), some (enc p.hi), some (.int (b01 p.lf)), some (.int (b01 p.hf)), o6, o7, o8, o9] μ') → ∀ G : Int, G = lsB p.hi p.hf b → wSs (T k) (.cons (.iff (.cmp .LtE (.var 7) (.var 8))
      (.cons (.set 9 (.ife (.cmp .Gt (.var 7) (.cst (.int 0))) (.var 7) (.blt .min2 (.cons (.var 8) (.cons (.cst (.int 0)) .nil)))))
      (.cons (.ret (.tup (.cons (.var 9) (.cons (.var 6) .nil))))
      .nil))
      .nil)
    .nil) E
        [some (encS p), some (.int 4000), some (enc p.lo), some (enc p.hi), some (.int (b01 p.lf)), some (.int (b01 p.hf)), some (.int b), some (.int (fsB p.lo p.lf b)), some (.int G), o9] μ' := by
        rintro E hrt hnx G rfl
        rw [wS1]
        by_cases hle : fsB p.lo p.lf b ≤ lsB p.hi p.hf b
        · have sm := smp_of b0 nb hle rfl
          refine iff_val true (fun P hP => ?_) ?_
          · simp only [wT, wE, wCmp, opCmp, r_getV0, r_getVs, r_cmpI, hle, decide_true]
            exact hP
          rw [if_pos rfl, wS1]
          refine set_val (.int (if fsB p.lo p.lf b > 0 then fsB p.lo p.lf b else min (lsB p.hi p.hf b) 0)) (fun P hP => ?_) ?_
          · simp only [wT, wE, wEs, wCmp, opCmp, r_getV0, r_getVs, r_cmpI, r_min]
            by_cases hg : fsB p.lo p.lf b > 0
            · simp only [hg, decide_true, if_true] at hP ⊢
              exact hP
            · have e : (if (0 : Int) < lsB p.hi p.hf b then (0 : Int) else lsB p.hi p.hf b) = min (lsB p.hi p.hf b) 0 := by split <;> omega
              simp only [hg, decide_false, Bool.false_eq_true, if_false, e] at hP ⊢
              exact hP
          simp only [List.set]
          rw [wS1]
          simp only [wS, wE, wEs]
          simp only [r_getV0, r_getVs]
          refine ⟨line_le (by simp), hrt _ ?_⟩
          rw [← sm.2]
          exact hq _ sm.1
        · refine iff_val false (fun P hP => ?_) ?_
          · simp only [wT, wE, wCmp, opCmp, r_getV0, r_getVs, r_cmpI, hle, decide_false]
            exact hP
          rw [if_neg Bool.false_ne_true, wS0]
          try dsimp only
          rw [wS0]
          exact hnx (nb' _ _ rfl rfl hle) _ _ _ _
      rw [wS1]
      have ct : ∀ P : Bool → M → Prop, P (decide (p.hf = false ∧ g * p.hi.den = p.hi.num * b)) μ' → wT (T k) (.and (.cmp .Eq (.var 5) (.cst (.int 0))) (.cmp .Eq (.bin .Mult (.var 8) (.idx (.var 3) (.cst (.int 1)))) (.bin .Mult (.idx (.var 3) (.cst (.int 0))) (.var 6)))) [some (encS p), some (.int 4000), some (enc p.lo), some (enc p.hi), some (.int (b01 p.lf)), some (.int (b01 p.hf)), some (.int b), some (.int (fsB p.lo p.lf b)), some (.int g), o9] μ' P := by
        intro P hP
        simp only [wT, wE, wCmp, opCmp]
        simp only [r_getV0, r_getVs, q_ii, b01_eq0, enc0, enc1]
        cases hh : p.hf
        · simp only [Bool.not_false, if_true]
          simp only [opBin, r_opI, enc0, enc1]
          refine ⟨mw f2 bh (by decide), mw h2.1 bb (by decide), ?_⟩
          simp only [q_ii]
          simpa [hh] using hP
        · simp only [Bool.not_true, Bool.false_eq_true, if_false]
          simpa [hh] using hP
      by_cases c : p.hf = false ∧ g * p.hi.den = p.hi.num * b
      · rw [if_pos c] at el
        refine iff_val true (fun P hP => ct _ (by rw [decide_eq_true c]; exact hP)) ?_
        rw [if_pos rfl, wS1]
        simp only [wS, wE, opBin, r_getV0, r_getVs, r_opI]
        refine ⟨trivial, ?_⟩
        rw [wS0]
        simp only [List.set]
        exact step3 _ hrt hnx _ el.symm
      · rw [if_neg c] at el
        refine iff_val false (fun P hP => ct _ (by rw [decide_eq_false c]; exact hP)) ?_
        rw [if_neg Bool.false_ne_true, wS0]
        exact step3 _ hrt hnx _ el.symm
    rw [wS1]
    have ct : ∀ P : Bool → M → Prop, P (decide (p.lf = false ∧ f * p.lo.den = p.lo.num * b)) μ' → wT (T k) (.and (.cmp .Eq (.var 4) (.cst (.int 0))) (.cmp .Eq (.bin .Mult (.var 7) (.idx (.var 2) (.cst (.int 1)))) (.bin .Mult (.idx (.var 2) (.cst (.int 0))) (.var 6)))) [some (encS p), some (.int 4000), some (enc p.lo), some (enc p.hi), some (.int (b01 p.lf)), some (.int (b01 p.hf)), some (.int b), some (.int f), o8, o9] μ' P := by
      intro P hP
      simp only [wT, wE, wCmp, opCmp]
      simp only [r_getV0, r_getVs, q_ii, b01_eq0, enc0, enc1]
      cases hh : p.lf
      · simp only [Bool.not_false, if_true]
        simp only [opBin, r_opI, enc0, enc1]
        refine ⟨mw f1 bl (by decide), mw h1.1 bb (by decide), ?_⟩
        simp only [q_ii]
        simpa [hh] using hP
      · simp only [Bool.not_true, Bool.false_eq_true, if_false]
        simpa [hh] using hP
    by_cases c : p.lf = false ∧ f * p.lo.den = p.lo.num * b
    · rw [if_pos c] at ef
      refine iff_val true (fun P hP => ct _ (by rw [decide_eq_true c]; exact hP)) ?_
      rw [if_pos rfl, wS1]
      simp only [wS, wE, opBin, r_getV0, r_getVs, r_addI]
      rw [wS0]
      simp only [List.set]
      rw [← ef]
      exact step2 _ (fun d hd => rt_here hd) (fun hn o6 o7 o8 o9 => ⟨rfl, hn, _, _, _, _, rfl⟩)
    · rw [if_neg c] at ef
      refine iff_val false (fun P hP => ct _ (by rw [decide_eq_false c]; exact hP)) ?_
      rw [if_neg Bool.false_ne_true, wS0]
      rw [← ef]
      exact step2 _ (fun d hd => rt_here hd) (fun hn o6 o7 o8 o9 => ⟨rfl, hn, _, _, _, _, rfl⟩)
  · rintro ρ μ' ⟨rfl, nb, o6, o7, o8, o9, rfl⟩
    exfalso
    obtain ⟨y, hy1, hy2⟩ := hy
    have := nob nb hy1
    rw [r_rangeL] at this
    omega
end
end K30


set_option Elab.async false
set_option linter.all false
set_option maxRecDepth 100000
namespace K30
open PySem L2 Rf
theorem narrow_sole {m : Rat} {p : Rf.Sp} (hin : inJ p.lo p.lf (some p.hi) p.hf m) (hlo : m - 1 / (2 * m.den * m.den) ≤ p.lo) (hhi : p.hi ≤ m + 1 / (2 * m.den * m.den)) : ∀ t, Smp p t → t = m := by
  intro t ht
  by_cases e : t = m
  · exact e
  · exfalso
    have h1 : p.lo ≤ t := by rcases ht.in_.1 with q | ⟨q, _⟩ <;> grind
    have h2 : t ≤ p.hi := by rcases ht.in_.2 with q | ⟨q, _⟩ <;> grind
    have := near_den e (by grind) (by grind)
    have := ht.least m hin
    omega
theorem near_end (m : Rat) (s : Int) : Rat.divInt (2 * m.num * m.den + s) (2 * m.den * m.den) = m + s * (1 / (2 * (m.den : Rat) * m.den)) := by
  rw [Rat.divInt_eq_div]
  have e : ∀ z : Rat, (((z.den : Nat) : Int) : Rat) = ((z.den : Nat) : Rat) := fun _ => rfl
  simp only [Rat.intCast_add, Rat.intCast_mul, numR, e]
  have h1 : (m.den : Rat) ≠ 0 := by have := denR_pos m; grind
  have : ((2 : Int) : Rat) = 2 := rfl
  rw [this]
  grind
theorem wide_end (x : Rat) (r : Int) : Rat.divInt (x.num * 400 + x.den * (1 + r)) (x.den * 400) = x + (1 + r) / 400 := by
  rw [Rat.divInt_eq_div]
  have e : ∀ z : Rat, (((z.den : Nat) : Int) : Rat) = ((z.den : Nat) : Rat) := fun _ => rfl
  simp only [Rat.intCast_add, Rat.intCast_mul, numR, e]
  have h1 : (x.den : Rat) ≠ 0 := by have := denR_pos x; grind
  have : ((400 : Int) : Rat) = 400 := rfl
  rw [this]
  have : ((1 : Int) : Rat) = 1 := rfl
  rw [this]
  grind
section
variable {k : Nat} {μ : M} {Q : WQ}
theorem b__law_wide (hk : 1 ≤ k) {n b : Nat} (hw : WellOk n b μ) (hb : b ≤ 800000000) (hq : ∀ p μ', Wl n (b + 10) μ μ' → p.ok → Bd 200 p.lo → Bd 200 p.hi → (∃ y, inJ p.lo p.lf (some p.hi) p.hf y ∧ y.den ≤ 4000) → Q (encS p) μ') : wDef (T k) 3 ir__law_wide [.cel n] μ Q := by
  have dr : ∀ (n b : Nat) (many : Int) (μ1 : M) (P : WQ), WellOk n b μ1 → b ≤ BIG → 0 < many → many.natAbs < 2 ^ 400 → (∀ r μ', Wl n (b + 1) μ1 μ' → 0 ≤ r → r < many → P (.int r) μ') → T k 32 [.cel n, .int many] μ1 P := fun n b many μ1 P hw hb h0 h1 hq => tc (m := 1) (by omega) (by decide) ⟨n, b, many, rfl, hw, hb, h0, h1, hq⟩
  have bi : ∀ r : Int, 0 ≤ r → r < 2 → ∃ f : Bool, r = b01 f := fun r h0 h1 => by
    rcases (by omega : r = 0 ∨ r = 1) with rfl | rfl
    · exact ⟨false, rfl⟩
    · exact ⟨true, rfl⟩
  simp only [wDef, ir__law_wide]
  rw [show startD 3 [D.cel n] = [some (.cel n), none, none] from rfl, wS1]
  simp only [wS, wE, wEs]
  simp only [r_getV0, r_getVs, opBin]
  refine dr _ _ _ _ _ hw (by unfold BIG; omega) (by decide) (by decide) fun r1 μ1 w1 a0 a1 => ?_
  simp only [r_opI]
  refine ⟨trivial, dr _ _ _ _ _ w1.ok (by unfold BIG; omega) (by decide) (by decide) fun r2 μ2 w2 a2 a3 => ?_⟩
  simp only [r_addI]
  refine tc (m := 1) (by omega) (by decide) ⟨_, _, rfl, by omega, Nat.lt_of_lt_of_le (show (1 + r2).natAbs < 2 ^ 14 by omega) (Nat.pow_le_pow_right (by decide) (by decide)), ?_⟩
  have bx : Bd 14 (Rat.divInt (r1 - 1200) (1 + r2)) := bd_div (by omega) (by omega) (by omega)
  have dx : ((Rat.divInt (r1 - 1200) (1 + r2)).den : Int) ≤ 400 := by have := (di_in (a := r1 - 1200) (b := 1 + r2) (by omega)).1; omega
  have w2 := w1.trans w2
  generalize Rat.divInt (r1 - 1200) (1 + r2) = x at bx dx
  simp only [List.set]
  rw [wS1]
  simp only [wS, wT, wE, wEs, wCmp, opCmp]
  simp only [r_getV0, r_getVs]
  refine dr _ _ _ _ _ w2.ok (by unfold BIG; omega) (by decide) (by decide) fun r3 μ3 w3 a4 a5 => ?_
  have w3 := w2.trans w3
  simp only [q_ii]
  by_cases z : r3 = 0
  · simp only [z, decide_true, if_true]
    rw [wS1]
    simp only [wS, wE, wEs]
    simp only [r_getV0, r_getVs]
    refine ⟨line_le (by simp), .inl (hq ⟨x, x, true, true⟩ _ (w3.mono (by omega)) (ok_iff.mpr (.inr ⟨rfl, rfl, rfl⟩)) (bx.mono (by decide)) (bx.mono (by decide)) ⟨x, ⟨.inr ⟨rfl, rfl⟩, .inr ⟨rfl, rfl⟩⟩, by omega⟩)⟩
  · simp only [z, decide_false, Bool.false_eq_true, if_false]
    rw [wS0]
    try dsimp only
    rw [wS1]
    have nb := bx.1
    have db := bx.2
    have dp := denp x
    simp only [wS, wE, wEs]
    simp only [r_getV0, r_getVs, enc0, enc1]
    simp only [opBin]
    simp only [r_opI, enc0, enc1]
    refine ⟨mw bx.1 (m := 9) (by decide) (by decide), new_l (line_le (by simp)) ?_⟩
    refine dr _ _ _ _ _ w3.ok (by unfold BIG; omega) (by decide) (by decide) fun r4 μ4 w4 a6 a7 => ?_
    have w4 := w3.trans w4
    obtain ⟨many, m0, m1, hm⟩ : ∃ z : Int, 0 < z ∧ z ≤ 900 ∧ ∀ (P : WQ) (ν : M), opIdx (.lst [.int 3, .int 40, .int 900]) (.int r4) ν P = P (.int z) ν := by
      rcases (by omega : r4 = 0 ∨ r4 = 1 ∨ r4 = 2) with rfl | rfl | rfl
      · exact ⟨3, by decide, by decide, fun P ν => by simp⟩
      · exact ⟨40, by decide, by decide, fun P ν => by simp⟩
      · exact ⟨900, by decide, by decide, fun P ν => by simp⟩
    simp only [hm]
    refine dr _ _ _ _ _ w4.ok (by unfold BIG; omega) m0 (Nat.lt_of_lt_of_le (show many.natAbs < 2 ^ 14 by omega) (Nat.pow_le_pow_right (by decide) (by decide))) fun r5 μ5 w5 a8 a9 => ?_
    have w5 := w4.trans w5
    simp only [r_addI, r_opI]
    refine ⟨mw (n := 14) (m := 14) (by omega) (by omega) (by decide), ?_⟩
    try simp only [r_addI, r_opI]
    refine ⟨mw (n := 14) (m := 9) (by omega) (by decide) (by decide), ?_⟩
    have dp400 : (0 : Int) < x.den * 400 := by omega
    refine tc (m := 1) (by omega) (by decide) ⟨_, _, rfl, by omega, Nat.lt_of_lt_of_le (show ((x.den : Int) * 400).natAbs < 2 ^ 30 by omega) (Nat.pow_le_pow_right (by decide) (by decide)), ?_⟩
    have by_ : Bd 40 (Rat.divInt (x.num * 400 + x.den * (1 + r5)) (x.den * 400)) := by
      have hm2 : (x.den : Int) * (1 + r5) ≤ 400 * 1000 := Int.mul_le_mul dx (by omega) (by omega) (by omega)
      have hm3 : 0 ≤ (x.den : Int) * (1 + r5) := Int.mul_nonneg (by omega) (by omega)
      exact bd_div (by omega) (by omega) (by omega)
    rw [wide_end] at by_ ⊢
    have hlt : x < x + (1 + (r5 : Rat)) / 400 := by
      have : (0 : Rat) ≤ (r5 : Rat) := Rat.intCast_le_intCast.mpr (show (0 : Int) ≤ r5 by omega)
      grind
    have hgap : 1 < (x + (1 + (r5 : Rat)) / 400 - x) * ((401 : Int) : Rat) := by
      have : (0 : Rat) ≤ (r5 : Rat) := Rat.intCast_le_intCast.mpr (show (0 : Int) ≤ r5 by omega)
      have e : ((401 : Int) : Rat) = 401 := rfl
      rw [e]
      grind
    simp only [List.set]
    rw [wS1]
    simp only [wS, wE, wEs]
    simp only [r_getV0, r_getVs]
    refine dr _ _ _ _ _ w5.ok (by unfold BIG; omega) (by decide) (by decide) fun r6 μ6 w6 c0 c1 => ?_
    have w6 := w5.trans w6
    refine dr _ _ _ _ _ w6.ok (by unfold BIG; omega) (by decide) (by decide) fun r7 μ7 w7 c2 c3 => ?_
    have w7 := w6.trans w7
    obtain ⟨f, rfl⟩ := bi r6 c0 c1
    obtain ⟨g, rfl⟩ := bi r7 c2 c3
    have hok : (⟨x, x + (1 + (r5 : Rat)) / 400, f, g⟩ : Rf.Sp).ok := ok_iff.mpr (.inl hlt)
    obtain ⟨y, y1, y2⟩ := small_in hok (b := 401) (by decide) (.inr hgap) (by show (x.den : Int) ≤ 401; omega)
    exact ⟨line_le (by simp), .inl (hq ⟨x, x + (1 + (r5 : Rat)) / 400, f, g⟩ _ (w7.mono (by omega)) hok (bx.mono (by decide)) (by_.mono (by decide)) ⟨y, y1, by omega⟩)⟩
end
end K30


set_option Elab.async false
set_option linter.all false
set_option maxRecDepth 100000
namespace K30
open PySem L2 Rf
section
variable {k : Nat} {μ : M} {Q : WQ}
theorem b__law_narrow (hk : 1 ≤ k) {n b : Nat} (hw : WellOk n b μ) (hb : b ≤ 800000000) (hq : ∀ p m μ', Wl n (b + 10) μ μ' → p.ok → Bd 200 p.lo → Bd 200 p.hi → (∀ t, Smp p t → t = m) → Q (.tup [encS p, enc m]) μ') : wDef (T k) 8 ir__law_narrow [.cel n] μ Q := by
  have dr : ∀ (n b : Nat) (many : Int) (μ1 : M) (P : WQ), WellOk n b μ1 → b ≤ BIG → 0 < many → many.natAbs < 2 ^ 400 → (∀ r μ', Wl n (b + 1) μ1 μ' → 0 ≤ r → r < many → P (.int r) μ') → T k 32 [.cel n, .int many] μ1 P := fun n b many μ1 P hw hb h0 h1 hq => tc (m := 1) (by omega) (by decide) ⟨n, b, many, rfl, hw, hb, h0, h1, hq⟩
  have bi : ∀ r : Int, 0 ≤ r → r < 2 → ∃ f : Bool, r = b01 f := fun r h0 h1 => by
    rcases (by omega : r = 0 ∨ r = 1) with rfl | rfl
    · exact ⟨false, rfl⟩
    · exact ⟨true, rfl⟩
  have p6 : (10 : Int) ^ (6 : Int).toNat = 1000000 := by decide
  have p9 : (10 : Int) ^ (9 : Int).toNat = 1000000000 := by decide
  have p10 : (10 : Int) ^ (10 : Int).toNat = 10000000000 := by decide
  have c6 : CPow 10 6 ∨ CPowW 10 6 := .inl ⟨by decide, by decide, by decide⟩
  have c9 : CPow 10 9 ∨ CPowW 10 9 := .inl ⟨by decide, by decide, by decide⟩
  have c10 : CPow 10 10 ∨ CPowW 10 10 := .inl ⟨by decide, by decide, by decide⟩
  simp only [wDef, ir__law_narrow]
  rw [show startD 8 [D.cel n] = [some (.cel n), none, none, none, none, none, none, none] from rfl, wS1]
  simp only [wS, wE, wEs]
  simp only [r_getV0, r_getVs, opBin]
  simp only [r_opI]
  refine ⟨c6, c9, cm1 (by decide) (by decide), ?_⟩
  rw [p6, p9]
  refine dr _ _ _ _ _ hw (by unfold BIG; omega) (by decide) (by decide) fun r1 μ1 w1 a0 a1 => ?_
  simp only [r_addI]
  obtain ⟨bt, hbt⟩ : ∃ bt, bt = 1000000 + r1 := ⟨_, rfl⟩
  rw [← hbt]
  simp only [List.set]
  rw [wS1]
  simp only [wS, wE, wEs]
  simp only [r_getV0, r_getVs, opBin]
  simp only [r_opI]
  refine ⟨c10, cm1 (by decide) (by decide), ?_⟩
  rw [p10]
  refine dr _ _ _ _ _ w1.ok (by unfold BIG; omega) (by decide) (by decide) fun r2 μ2 w2 a2 a3 => ?_
  have w2 := w1.trans w2
  simp only [r_opI]
  refine ⟨c10, trivial, ?_⟩
  refine tc (m := 1) (by omega) (by decide) ⟨_, _, rfl, by omega, Nat.lt_of_lt_of_le (show bt.natAbs < 2 ^ 34 by omega) (Nat.pow_le_pow_right (by decide) (by decide)), ?_⟩
  have bm : Bd 34 (Rat.divInt (r2 - 10000000000) bt) := bd_div (by omega) (by omega) (by omega)
  generalize Rat.divInt (r2 - 10000000000) bt = m at bm
  have dm := denp m
  have bd : ((m.den : Nat) : Int).natAbs < 2 ^ 34 := by rw [Int.natAbs_natCast]; exact bm.2
  have n1 : (2 * (m.den : Int)).natAbs < 2 ^ 35 := by omega
  have n2 : (2 * m.num).natAbs < 2 ^ 35 := by have := bm.1; omega
  have far0 : (0 : Int) < 2 * m.den * m.den := Int.mul_pos (by omega) dm
  have farb : (2 * (m.den : Int) * m.den).natAbs < 2 ^ 69 := by rw [Int.natAbs_mul]; exact mul_lt2 n1 bd
  have numb : ∀ s : Int, -1 ≤ s → s ≤ 1 → (2 * m.num * m.den + s).natAbs < 2 ^ 71 := fun s h1 h2 => by
    have : (2 * m.num * (m.den : Int)).natAbs < 2 ^ 69 := by rw [Int.natAbs_mul]; exact mul_lt2 n2 bd
    omega
  simp only [List.set]
  rw [wS1]
  simp only [wS, wE, wEs]
  simp only [r_getV0, r_getVs, enc0, enc1]
  simp only [opBin]
  simp only [r_opI, enc1]
  refine ⟨cm1 (by decide) (by decide), mw n1 bd (by decide), ?_⟩
  simp only [List.set]
  rw [wS1]
  simp only [wS, wE, wEs, wI]
  refine new_l (line_le (by simp)) ?_
  simp only [srcOf, asSq, asR, asL, Option.map_some]
  refine lc_pure (fun n ys h => by cases h) (line_le (by simp)) (fun d => match d with | .int s => enc (m + s * (1 / (2 * (m.den : Rat) * m.den))) | d => d) ?_ ?_
  · intro i x hx
    have hx : ([D.int (-1), D.int 1] : List D)[i]? = some x := hx
    obtain ⟨s, rfl, s1, s2⟩ : ∃ s : Int, x = .int s ∧ -1 ≤ s ∧ s ≤ 1 := by
      match i, hx with
      | 0, hx => cases hx; exact ⟨-1, rfl, by decide, by decide⟩
      | 1, hx => cases hx; exact ⟨1, rfl, by decide, by decide⟩
      | i + 2, hx => simp at hx
    refine ⟨_, rfl, fun P hP => ?_⟩
    simp [wE, wEs, wipeD]
    refine ⟨cm1 (by decide) (by decide), mw n2 bd (by decide), ?_⟩
    refine tc (m := 1) (by omega) (by decide) ⟨_, _, rfl, by omega, Nat.lt_of_lt_of_le farb (Nat.pow_le_pow_right (by decide) (by decide)), ?_⟩
    rw [near_end]
    exact hP
  have ee : ∀ s : Int, -1 ≤ s → s ≤ 1 → Bd 71 (m + s * (1 / (2 * (m.den : Rat) * m.den))) := fun s h1 h2 => by
    rw [← near_end]
    exact bd_div (by omega) (numb s h1 h2) (by omega)
  have b1 := ee (-1) (by decide) (by decide)
  have b2 := ee 1 (by decide) (by decide)
  have dpos : (0 : Rat) < 1 / (2 * (m.den : Rat) * m.den) := by
    rw [Rat.div_def, Rat.one_mul]
    have := denR_pos m
    have h2 : (0 : Rat) < 2 * (m.den : Rat) := by grind
    exact Rat.inv_pos.mpr (Rat.mul_pos h2 this)
  have i1 : ((-1 : Int) : Rat) = -1 := rfl
  have i2 : ((1 : Int) : Rat) = 1 := rfl
  refine new_l (line_le (by simp)) ?_
  simp only [List.map_cons, List.map_nil]
  generalize he0 : m + ((-1 : Int) : Rat) * (1 / (2 * (m.den : Rat) * m.den)) = e0 at b1
  generalize he1 : m + ((1 : Int) : Rat) * (1 / (2 * (m.den : Rat) * m.den)) = e1 at b2
  have q0 : e0 < m := by grind
  have q1 : m < e1 := by grind
  have q2 : m - 1 / (2 * (m.den : Rat) * m.den) ≤ e0 := by grind
  have q3 : e1 ≤ m + 1 / (2 * (m.den : Rat) * m.den) := by grind
  simp only [List.set]
  rw [wS1]
  simp only [wS, wE, wEs]
  simp only [r_getV0, r_getVs]
  refine dr _ _ _ _ _ w2.ok (by unfold BIG; omega) (by decide) (by decide) fun r3 μ3 w3 a4 a5 => ?_
  have w3 := w2.trans w3
  refine dr _ _ _ _ _ w3.ok (by unfold BIG; omega) (by decide) (by decide) fun r4 μ4 w4 a6 a7 => ?_
  have w4 := w3.trans w4
  obtain ⟨f, rfl⟩ := bi r3 a4 a5
  obtain ⟨g, rfl⟩ := bi r4 a6 a7
  refine ⟨line_le (by simp), ?_⟩
  simp only [List.set]
  rw [wS1]
  simp only [wS, wE, wEs]
  simp only [r_getV0, r_getVs]
  refine dr _ _ _ _ _ w4.ok (by unfold BIG; omega) (by decide) (by decide) fun way μ5 w5 a8 a9 => ?_
  have w5 := (w4.trans w5).mono (c := b + 10) (by omega)
  simp only [List.set]
  have il0 : ∀ (a b : D) (P : WQ) (ν : M), opIdx (.lst [a, b]) (.int 0) ν P = P a ν := fun a b P ν => by simp
  have il1 : ∀ (a b : D) (P : WQ) (ν : M), opIdx (.lst [a, b]) (.int 1) ν P = P b ν := fun a b P ν => by simp
  have it0 : ∀ (a b : D) (P : WQ) (ν : M), opIdx (.tup [a, b]) (.int 0) ν P = P a ν := fun a b P ν => by simp
  have it1 : ∀ (a b : D) (P : WQ) (ν : M), opIdx (.tup [a, b]) (.int 1) ν P = P b ν := fun a b P ν => by simp
  rw [wS1]
  by_cases h0 : way = 0
  · refine iff_val true (fun P hP => ?_) ?_
    · simp only [wT, wE, wCmp, opCmp, r_getV0, r_getVs, q_ii, h0, decide_true]
      exact hP
    rw [if_pos rfl, wS1]
    simp only [wS, wE, wEs]
    simp only [r_getV0, r_getVs]
    simp only [il1, it1]
    exact ⟨line_le (by simp), line_le (by simp), .inl (hq ⟨m, e1, true, g⟩ m _ w5 (ok_iff.mpr (.inl q1)) (bm.mono (by decide)) (b2.mono (by decide)) (narrow_sole ⟨.inr ⟨rfl, rfl⟩, .inl q1⟩ (by show _ ≤ m; grind) q3))⟩
  refine iff_val false (fun P hP => ?_) ?_
  · simp only [wT, wE, wCmp, opCmp, r_getV0, r_getVs, q_ii, h0, decide_false]
    exact hP
  rw [if_neg Bool.false_ne_true, wS0]
  try dsimp only
  rw [wS1]
  by_cases h1 : way = 1
  · refine iff_val true (fun P hP => ?_) ?_
    · simp only [wT, wE, wCmp, opCmp, r_getV0, r_getVs, q_ii, h1, decide_true]
      exact hP
    rw [if_pos rfl, wS1]
    simp only [wS, wE, wEs]
    simp only [r_getV0, r_getVs]
    simp only [il0, it0]
    exact ⟨line_le (by simp), line_le (by simp), .inl (hq ⟨e0, m, f, true⟩ m _ w5 (ok_iff.mpr (.inl q0)) (b1.mono (by decide)) (bm.mono (by decide)) (narrow_sole ⟨.inl q0, .inr ⟨rfl, rfl⟩⟩ q2 (by show m ≤ _; grind)))⟩
  refine iff_val false (fun P hP => ?_) ?_
  · simp only [wT, wE, wCmp, opCmp, r_getV0, r_getVs, q_ii, h1, decide_false]
    exact hP
  rw [if_neg Bool.false_ne_true, wS0]
  try dsimp only
  rw [wS1]
  simp only [wS, wE, wEs]
  simp only [r_getV0, r_getVs]
  simp only [il0, il1]
  simp only [opBin]
  refine ⟨line_le (by simp), ?_⟩
  rw [r_addT]
  exact ⟨by simp, line_le (by simp), line_le (by simp), .inl (hq ⟨e0, e1, f, g⟩ m _ w5 (ok_iff.mpr (.inl (by show e0 < e1; grind))) (b1.mono (by decide)) (b2.mono (by decide)) (narrow_sole ⟨.inl q0, .inl q1⟩ q2 q3))⟩
end
end K30


set_option Elab.async false
set_option linter.all false
set_option maxRecDepth 100000
namespace K30
open PySem L2 Rf
/-- all bottoms up to 61 divide it -/
def S0 : Int := 591133442051411133755680800
theorem S0_dv : ∀ d : Nat, d < 62 → 0 < d → (d : Int) ∣ S0 := by
  have h : ∀ d : Nat, d < 62 → 0 < d → S0 % (d : Int) = 0 := by decide +kernel
  exact fun d h1 h2 => Int.dvd_of_emod_eq_zero (h d h1 h2)
def S3 : Int := S0 * S0 * S0
theorem S3_pos : 0 < S3 := by decide +kernel
theorem S3_bd : S3.natAbs < 2 ^ 300 := by decide +kernel
theorem dv1 {x : Rat} (h : x.den ≤ 61) : dvs S0 x := S0_dv _ (by omega) x.den_pos
theorem dv3 {x : Rat} (h : x.den ≤ 61) : dvs S3 x := Int.dvd_trans (dv1 h) (by unfold S3; rw [Int.mul_assoc]; exact Int.dvd_mul_right _ _)
theorem den_dvd {a b : Int} (hb : 0 < b) : ((Rat.divInt a b).den : Int) ∣ b := by
  rw [Rat.den_divInt, if_neg (by omega)]
  have : b.gcd a ∣ b.natAbs := Int.gcd_dvd_natAbs_left _ _
  have h2 : b.natAbs / b.gcd a ∣ b.natAbs := Nat.div_dvd_of_dvd this
  exact Int.natAbs_dvd_natAbs.mp (by rw [Int.natAbs_natCast]; exact h2)
theorem dv_aff {x p q : Rat} (hx : x.den ≤ 61) (hp : p.den ≤ 61) (hq : q.den ≤ 61) : dvs S3 (x * p + q) := by
  have h1 := denp x
  have h2 := denp p
  have h3 := denp q
  have pos : (0 : Int) < x.den * p.den * q.den := Int.mul_pos (Int.mul_pos h1 h2) h3
  have := den_dvd (a := x.num * p.num * q.den + q.num * x.den * p.den) pos
  rw [di_aff] at this
  refine Int.dvd_trans this ?_
  unfold S3
  exact Int.mul_dvd_mul (Int.mul_dvd_mul (dv1 hx) (dv1 hp)) (dv1 hq)
theorem smp_uniq {p : Rf.Sp} {t u : Rat} (ht : Smp p t) (hu : Smp p u) : t = u := by
  have h1 := ht.least u hu.in_
  have h2 := hu.least t ht.in_
  have e : t.den = u.den := by omega
  by_cases h : t.den = 1
  · exact Rat.ext (by rw [ht.one h, hu.one (by omega)]) e
  · have := t.den_pos
    exact hu.sole (by omega) t ht.in_ e
/-! the same -/
theorem Sm_enc {n : Nat} (x : Rat) : Sm (n + 2) (enc x) := by
  refine ⟨by simp, fun y hy => ?_⟩
  simp at hy
  rcases hy with rfl | rfl <;> trivial
theorem Sm_S {n : Nat} (p : Rf.Sp) : Sm (n + 3) (encS p) := by
  refine ⟨by simp, fun y hy => ?_⟩
  simp at hy
  rcases hy with rfl | rfl | rfl | rfl
  · exact Sm_enc _
  · exact Sm_enc _
  · trivial
  · trivial
theorem Sm_T {n : Nat} {L : List Rf.Sp} (h : L.length ≤ 1000) : Sm (n + 4) (tupS L) := by
  refine ⟨by simpa using h, fun y hy => ?_⟩
  obtain ⟨p, _, rfl⟩ := List.mem_map.mp hy
  exact Sm_S p
theorem Sm_L {n : Nat} {ds : List D} (hl : ds.length ≤ 1000) (h : ∀ d ∈ ds, Sm n d) : Sm (n + 1) (.lst ds) := ⟨hl, h⟩
/-! repr -/
def Rp (n dp : Nat) (d : D) : Prop := ∃ p, toP d = some p ∧ p.showable = true ∧ p.canLay0 = true ∧ p.depth ≤ dp ∧ p.shown.length ≤ n
theorem Rp.mono {n m a b : Nat} {d : D} (h : Rp n a d) (l : n ≤ m) (l2 : a ≤ b) : Rp m b d := by
  obtain ⟨p, h1, h2, h3, h4, h5⟩ := h
  exact ⟨p, h1, h2, h3, Nat.le_trans h4 l2, Nat.le_trans h5 l⟩
theorem Rp.int {i : Int} (h : i.natAbs < 2 ^ 14) : Rp 15 0 (.int i) := ⟨.int i, rfl, by simp [PyData.showable, log_lt (n := 14) (by decide) h (by decide)], by simp [PyData.canLay0], by simp [PyData.depth], (tx_int (n := 14) (by decide) h).1⟩
theorem Rp.all {n dp : Nat} : ∀ {xs : List D}, (∀ x ∈ xs, Rp n dp x) → ∃ ps, toPs xs = some ps ∧ PyData.showableAll ps = true ∧ PyData.canLayAll0 ps = true ∧ PyData.depthAll ps ≤ dp ∧ ((PyData.shownAll ps).map (·.length)).sum ≤ xs.length * n ∧ (PyData.shownAll ps).length = xs.length
  | [], _ => ⟨[], rfl, rfl, rfl, Nat.zero_le _, by simp [PyData.shownAll], rfl⟩
  | x :: xs, h => by
    obtain ⟨p, h1, h2, h3, h4, h5⟩ := h x (by simp)
    obtain ⟨ps, g1, g2, g3, g4, g5, g6⟩ := Rp.all fun y hy => h y (List.mem_cons_of_mem _ hy)
    refine ⟨p :: ps, by simp only [toPs, h1, g1], by simp only [PyData.showableAll, h2, g2, Bool.and_self], by simp only [PyData.canLayAll0, h3, g3, Bool.and_self], by simp only [PyData.depthAll]; omega, ?_, by simp only [PyData.shownAll, List.length_cons, g6]⟩
    simp only [PyData.shownAll, List.map_cons, List.sum_cons, List.length_cons, Nat.add_mul]
    omega
theorem Rp.tup {n dp m : Nat} {xs : List D} (h : ∀ x ∈ xs, Rp n dp x) (hl : xs.length ≤ m) : Rp (m * (n + 2) + 3) (dp + 1) (.tup xs) := by
  obtain ⟨ps, g1, g2, g3, g4, g5, g6⟩ := Rp.all h
  refine ⟨.tuple ps, by simp only [toP, g1, Option.map_some], by simpa only [PyData.showable] using g2, by simpa only [PyData.canLay0] using g3, by simp only [PyData.depth]; omega, ?_⟩
  have e : PyData.shown (.tuple ps) = tupleText (PyData.shownAll ps) := by simp only [PyData.shown]
  rw [e]
  refine Nat.le_trans (tupleText_len_le _) ?_
  have := Nat.mul_le_mul_right (n + 2) hl
  rw [g6]
  rw [Nat.mul_add] at this
  omega
theorem Rp.fr {x : Rat} (h : Bd 14 x) : Rp 37 1 (enc x) := Rp.tup (n := 15) (dp := 0) (m := 2) (by intro y hy; simp at hy; rcases hy with rfl | rfl; exact .int h.1; exact .int (by rw [Int.natAbs_natCast]; exact h.2)) (by simp)
theorem Rp.sp {p : Rf.Sp} (h1 : Bd 14 p.lo) (h2 : Bd 14 p.hi) : Rp 159 2 (encS p) := by
  refine Rp.tup (n := 37) (dp := 1) (m := 4) (fun z hz => ?_) (by simp)
  simp at hz
  have hb : ∀ b : Bool, (b01 b).natAbs < 2 ^ 14 := by decide
  rcases hz with rfl | rfl | rfl | rfl
  · exact .fr h1
  · exact .fr h2
  · exact (Rp.int (hb _)).mono (by decide) (by decide)
  · exact (Rp.int (hb _)).mono (by decide) (by decide)
theorem r_repr {d : D} {μ : M} {Q : WQ} : opBlt .repr [d] μ Q = (match toPm μ d with | some p => (p.showable && p.canLay0 && decide (p.depth ≤ 64) && refB d) = true ∧ p.shown.length ≤ sizeLine ∧ Q (.str p.shown) μ | none => False) := rfl
theorem reprL {L : List Rf.Sp} (h : ∀ p ∈ L, Bd 14 p.lo ∧ Bd 14 p.hi) (hl : L.length ≤ 64) : ∃ t : Str, ∀ (μ : M) (Q : WQ), Q (.str t) μ → opBlt .repr [lstS L] μ Q := by
  obtain ⟨ps, g1, g2, g3, g4, g5, g6⟩ := Rp.all (n := 159) (dp := 2) (xs := L.map encS) fun x hx => by
    obtain ⟨p, hp, rfl⟩ := List.mem_map.mp hx
    exact Rp.sp (h p hp).1 (h p hp).2
  have hlen : (PyData.shown (.list ps)).length ≤ sizeLine := by
    have e : PyData.shown (.list ps) = listText (PyData.shownAll ps) := by simp only [PyData.shown]
    rw [e, sizeLine_eq]
    refine Nat.le_trans (listText_len_le _) ?_
    rw [g6]
    simp only [List.length_map] at g5 ⊢
    omega
  refine ⟨PyData.shown (.list ps), ?_⟩
  intro μ Q hq
  rw [r_repr]
  simp only [lstS, toPm, toP, g1, Option.map_some]
  refine ⟨?_, hlen, hq⟩
  simp only [PyData.showable, PyData.canLay0, PyData.depth, refB, g2, g3, Bool.and_self, Bool.true_and, Bool.and_true, decide_eq_true_eq]
  refine decide_eq_true ?_
  show PyData.depthAll ps + 1 ≤ 64
  omega
end K30


set_option Elab.async false
set_option linter.all false
set_option maxRecDepth 100000
namespace K30
open PySem L2 Rf
def lwA : CSs :=
  (.cons (.set 4 (.lc (.nm 16) (.r1 (.cal 32 (.cons (.var 2) (.cons (.idx (.lst (.cons (.cst (.int 10)) (.cons (.cst (.int 31)) .nil))) (.bin .FloorDiv (.cal 32 (.cons (.var 2) (.cons (.cst (.int 3)) .nil))) (.cst (.int 2)))) .nil)))) .nil (.cal 42 (.cons (.var 2) (.cons (.var 3) .nil))) [16]))
      (.cons (.par 5 6 (.cal 43 (.cons (.var 4) .nil)) (.blt .repr (.cons (.var 4) .nil)))
      (.cons (.set 7 (.cal 34 (.cons (.bin .Mult (.bin .Add (.cst (.int 1)) (.cal 32 (.cons (.var 2) (.cons (.cst (.int 60)) .nil)))) (.bin .Sub (.cst (.int 1)) (.bin .Mult (.cst (.int 2)) (.cal 32 (.cons (.var 2) (.cons (.cst (.int 2)) .nil)))))) (.cons (.bin .Add (.cst (.int 1)) (.cal 32 (.cons (.var 2) (.cons (.cst (.int 60)) .nil)))) .nil))))
      (.cons (.set 8 (.cal 34 (.cons (.bin .Sub (.cal 32 (.cons (.var 2) (.cons (.cst (.int 121)) .nil))) (.cst (.int 60))) (.cons (.bin .Add (.cst (.int 1)) (.cal 32 (.cons (.var 2) (.cons (.cst (.int 60)) .nil)))) .nil))))
      (.cons (.set 9 (.cal 45 (.cons (.var 5) (.cons (.var 7) (.cons (.var 8) .nil)))))
      (.cons (.set 10 (.lst (.cons (.cal 28 (.cons (.var 5) (.cons (.var 7) (.cons (.var 8) .nil)))) (.cons (.cak 28 .nil ["q", "spans", "p"] (.cons (.var 8) (.cons (.var 5) (.cons (.var 7) .nil))) [1, 2, 0] 0) (.cons (.cal 28 (.cons (.cal 26 (.cons (.var 4) .nil)) (.cons (.var 7) (.cons (.var 8) .nil)))) .nil)))))
      (.cons (.iff (.or (.not (.cal 33 (.cons (.var 10) (.cons (.lst (.cons (.var 9) (.cons (.var 9) (.cons (.var 9) .nil)))) .nil)))) (.cmp .NotEq (.blt .repr (.cons (.var 4) .nil)) (.var 6)))
        (.cons (.ret (.cst (.bl false)))
        .nil)
        .nil)
      (.cons (.set 11 (.tup (.cons (.cal 34 (.cons (.idx (.var 7) (.cst (.int 1))) (.cons (.idx (.var 7) (.cst (.int 0))) .nil))) (.cons (.cal 34 (.cons (.bin .Mult (.neg (.idx (.var 8) (.cst (.int 0)))) (.idx (.var 7) (.cst (.int 1)))) (.cons (.bin .Mult (.idx (.var 8) (.cst (.int 1))) (.idx (.var 7) (.cst (.int 0)))) .nil))) .nil))))
      (.cons (.iff (.not (.cal 33 (.cons (.cal 28 (.cons (.idx (.var 10) (.cst (.int 0))) (.cons (.idx (.var 11) (.cst (.int 0))) (.cons (.idx (.var 11) (.cst (.int 1))) .nil)))) (.cons (.var 5) .nil))))
        (.cons (.ret (.cst (.bl false)))
        .nil)
        .nil)
      (.cons (.set 12 (.tup (.cons (.cst (.int 0)) (.cons (.cst (.int 1)) .nil))))
      (.cons (.for (.nm 13) (.sq (.var 5))
        (.cons (.set 12 (.cal 44 (.cons (.var 12) (.cons (.tup (.cons (.cst (.int 1)) (.cons (.cst (.int 1)) .nil))) (.cons (.cal 44 (.cons (.idx (.var 13) (.cst (.int 0))) (.cons (.tup (.cons (.neg (.cst (.int 1))) (.cons (.cst (.int 1)) .nil))) (.cons (.idx (.var 13) (.cst (.int 1))) .nil)))) .nil)))))
        .nil))
      (.cons (.set 14 (.cal 44 (.cons (.var 12) (.cons (.tup (.cons (.blt .abs (.cons (.idx (.var 7) (.cst (.int 0))) .nil)) (.cons (.idx (.var 7) (.cst (.int 1))) .nil))) (.cons (.tup (.cons (.cst (.int 0)) (.cons (.cst (.int 1)) .nil))) .nil)))))
      (.cons (.iff (.not (.cal 33 (.cons (.lst (.cons (.cal 29 (.cons (.var 5) .nil)) (.cons (.cak 29 .nil ["spans"] (.cons (.var 5) .nil) [0] 0) (.cons (.cal 29 (.cons (.var 9) .nil)) .nil)))) (.cons (.lst (.cons (.var 12) (.cons (.var 12) (.cons (.var 14) .nil)))) .nil))))
        (.cons (.ret (.cst (.bl false)))
        .nil)
        .nil)
      (.cons (.for (.nm 13) (.sq (.slc (.var 4) .nil (.cons (.cst (.int 8)) .nil)))
        (.cons (.for (.nm 15) (.sq (.lst (.cons (.idx (.var 13) (.cst (.int 0))) (.cons (.idx (.var 13) (.cst (.int 1))) .nil))))
          (.cons (.iff (.not (.cal 33 (.cons (.cal 27 (.cons (.var 9) (.cons (.cal 44 (.cons (.var 15) (.cons (.var 7) (.cons (.var 8) .nil)))) .nil))) (.cons (.cal 37 (.cons (.var 5) (.cons (.var 15) .nil))) .nil))))
            (.cons (.ret (.cst (.bl false)))
            .nil)
            .nil)
          .nil))
        .nil))
      .nil))))))))))))))
def lwA2 : CSs :=
  (.cons (.set 10 (.lst (.cons (.cal 28 (.cons (.var 5) (.cons (.var 7) (.cons (.var 8) .nil)))) (.cons (.cak 28 .nil ["q", "spans", "p"] (.cons (.var 8) (.cons (.var 5) (.cons (.var 7) .nil))) [1, 2, 0] 0) (.cons (.cal 28 (.cons (.cal 26 (.cons (.var 4) .nil)) (.cons (.var 7) (.cons (.var 8) .nil)))) .nil)))))
      (.cons (.iff (.or (.not (.cal 33 (.cons (.var 10) (.cons (.lst (.cons (.var 9) (.cons (.var 9) (.cons (.var 9) .nil)))) .nil)))) (.cmp .NotEq (.blt .repr (.cons (.var 4) .nil)) (.var 6)))
        (.cons (.ret (.cst (.bl false)))
        .nil)
        .nil)
      (.cons (.set 11 (.tup (.cons (.cal 34 (.cons (.idx (.var 7) (.cst (.int 1))) (.cons (.idx (.var 7) (.cst (.int 0))) .nil))) (.cons (.cal 34 (.cons (.bin .Mult (.neg (.idx (.var 8) (.cst (.int 0)))) (.idx (.var 7) (.cst (.int 1)))) (.cons (.bin .Mult (.idx (.var 8) (.cst (.int 1))) (.idx (.var 7) (.cst (.int 0)))) .nil))) .nil))))
      (.cons (.iff (.not (.cal 33 (.cons (.cal 28 (.cons (.idx (.var 10) (.cst (.int 0))) (.cons (.idx (.var 11) (.cst (.int 0))) (.cons (.idx (.var 11) (.cst (.int 1))) .nil)))) (.cons (.var 5) .nil))))
        (.cons (.ret (.cst (.bl false)))
        .nil)
        .nil)
      (.cons (.set 12 (.tup (.cons (.cst (.int 0)) (.cons (.cst (.int 1)) .nil))))
      (.cons (.for (.nm 13) (.sq (.var 5))
        (.cons (.set 12 (.cal 44 (.cons (.var 12) (.cons (.tup (.cons (.cst (.int 1)) (.cons (.cst (.int 1)) .nil))) (.cons (.cal 44 (.cons (.idx (.var 13) (.cst (.int 0))) (.cons (.tup (.cons (.neg (.cst (.int 1))) (.cons (.cst (.int 1)) .nil))) (.cons (.idx (.var 13) (.cst (.int 1))) .nil)))) .nil)))))
        .nil))
      (.cons (.set 14 (.cal 44 (.cons (.var 12) (.cons (.tup (.cons (.blt .abs (.cons (.idx (.var 7) (.cst (.int 0))) .nil)) (.cons (.idx (.var 7) (.cst (.int 1))) .nil))) (.cons (.tup (.cons (.cst (.int 0)) (.cons (.cst (.int 1)) .nil))) .nil)))))
      (.cons (.iff (.not (.cal 33 (.cons (.lst (.cons (.cal 29 (.cons (.var 5) .nil)) (.cons (.cak 29 .nil ["spans"] (.cons (.var 5) .nil) [0] 0) (.cons (.cal 29 (.cons (.var 9) .nil)) .nil)))) (.cons (.lst (.cons (.var 12) (.cons (.var 12) (.cons (.var 14) .nil)))) .nil))))
        (.cons (.ret (.cst (.bl false)))
        .nil)
        .nil)
      (.cons (.for (.nm 13) (.sq (.slc (.var 4) .nil (.cons (.cst (.int 8)) .nil)))
        (.cons (.for (.nm 15) (.sq (.lst (.cons (.idx (.var 13) (.cst (.int 0))) (.cons (.idx (.var 13) (.cst (.int 1))) .nil))))
          (.cons (.iff (.not (.cal 33 (.cons (.cal 27 (.cons (.var 9) (.cons (.cal 44 (.cons (.var 15) (.cons (.var 7) (.cons (.var 8) .nil)))) .nil))) (.cons (.cal 37 (.cons (.var 5) (.cons (.var 15) .nil))) .nil))))
            (.cons (.ret (.cst (.bl false)))
            .nil)
            .nil)
          .nil))
        .nil))
      .nil)))))))))
def lwA3 : CSs :=
  (.cons (.set 12 (.tup (.cons (.cst (.int 0)) (.cons (.cst (.int 1)) .nil))))
      (.cons (.for (.nm 13) (.sq (.var 5))
        (.cons (.set 12 (.cal 44 (.cons (.var 12) (.cons (.tup (.cons (.cst (.int 1)) (.cons (.cst (.int 1)) .nil))) (.cons (.cal 44 (.cons (.idx (.var 13) (.cst (.int 0))) (.cons (.tup (.cons (.neg (.cst (.int 1))) (.cons (.cst (.int 1)) .nil))) (.cons (.idx (.var 13) (.cst (.int 1))) .nil)))) .nil)))))
        .nil))
      (.cons (.set 14 (.cal 44 (.cons (.var 12) (.cons (.tup (.cons (.blt .abs (.cons (.idx (.var 7) (.cst (.int 0))) .nil)) (.cons (.idx (.var 7) (.cst (.int 1))) .nil))) (.cons (.tup (.cons (.cst (.int 0)) (.cons (.cst (.int 1)) .nil))) .nil)))))
      (.cons (.iff (.not (.cal 33 (.cons (.lst (.cons (.cal 29 (.cons (.var 5) .nil)) (.cons (.cak 29 .nil ["spans"] (.cons (.var 5) .nil) [0] 0) (.cons (.cal 29 (.cons (.var 9) .nil)) .nil)))) (.cons (.lst (.cons (.var 12) (.cons (.var 12) (.cons (.var 14) .nil)))) .nil))))
        (.cons (.ret (.cst (.bl false)))
        .nil)
        .nil)
      (.cons (.for (.nm 13) (.sq (.slc (.var 4) .nil (.cons (.cst (.int 8)) .nil)))
        (.cons (.for (.nm 15) (.sq (.lst (.cons (.idx (.var 13) (.cst (.int 0))) (.cons (.idx (.var 13) (.cst (.int 1))) .nil))))
          (.cons (.iff (.not (.cal 33 (.cons (.cal 27 (.cons (.var 9) (.cons (.cal 44 (.cons (.var 15) (.cons (.var 7) (.cons (.var 8) .nil)))) .nil))) (.cons (.cal 37 (.cons (.var 5) (.cons (.var 15) .nil))) .nil))))
            (.cons (.ret (.cst (.bl false)))
            .nil)
            .nil)
          .nil))
        .nil))
      .nil)))))
def lwB : CSs :=
  (.cons (.set 13 (.ife (.cmp .Lt (.var 3) (.cst (.int 5))) (.cal 48 (.cons (.var 2) .nil)) (.cal 42 (.cons (.var 2) (.cons (.bin .Mod (.blt .int (.cons (.var 3) .nil)) (.cst (.int 3))) .nil)))))
      (.cons (.set 9 (.cal 46 (.cons (.var 13) (.cons (.cst (.int 4000)) .nil))))
      (.cons (.iff (.not (.cal 33 (.cons (.lst (.cons (.cal 30 (.cons (.var 13) .nil)) (.cons (.cak 30 .nil ["span"] (.cons (.var 13) .nil) [0] 0) .nil))) (.cons (.lst (.cons (.var 9) (.cons (.var 9) .nil))) .nil))))
        (.cons (.ret (.cst (.bl false)))
        .nil)
        .nil)
      (.cons (.unp [13, 9] (.cal 47 (.cons (.var 2) .nil)))
      (.cons (.iff (.not (.cal 33 (.cons (.cal 30 (.cons (.var 13) .nil)) (.cons (.var 9) .nil))))
        (.cons (.ret (.cst (.bl false)))
        .nil)
        .nil)
      .nil)))))
/-- what the law's turn knows -/
structure LF (L R : List Rf.Sp) (p q : Rat) : Prop where
  okL : ∀ s ∈ L, s.ok
  bL : ∀ s ∈ L, Bd 14 s.lo ∧ Bd 14 s.hi
  dL : ∀ s ∈ L, s.lo.den ≤ 61 ∧ s.hi.den ≤ 61
  nL : L.length ≤ 30
  cR : Canon R
  mR : ∀ c ∈ cutsC R, c ∈ cutsC L
  iR : ∀ c, indC (cutsC R) c = L.any (covers · c)
  bp : Bd 6 p
  bq : Bd 6 q
  p0 : p ≠ 0
theorem mem_scL {p q : Rat} {R : List Rf.Sp} {s : Rf.Sp} (h : s ∈ scL p q R) : ∃ r ∈ R, s = scSp p q r := by
  unfold scL at h
  split at h
  · obtain ⟨r, hr, rfl⟩ := List.mem_map.mp h
    exact ⟨r, hr, rfl⟩
  · obtain ⟨r, hr, rfl⟩ := List.mem_map.mp (List.mem_reverse.mp h)
    exact ⟨r, hr, rfl⟩
theorem len_scL {p q : Rat} {R : List Rf.Sp} : (scL p q R).length = R.length := by
  unfold scL; split <;> simp
theorem ends_sc {p q : Rat} {R : List Rf.Sp} {P : Rat → Prop} (h : ∀ r ∈ R, P (r.lo * p + q) ∧ P (r.hi * p + q)) : ∀ s ∈ scL p q R, P s.lo ∧ P s.hi := by
  intro s hs
  obtain ⟨r, hr, rfl⟩ := mem_scL hs
  obtain ⟨h1, h2⟩ := h r hr
  unfold scSp
  split
  · exact ⟨h1, h2⟩
  · exact ⟨h2, h1⟩
section
variable {L R : List Rf.Sp} {p q : Rat}
theorem LF.pd (h : LF L R p q) : p.den ≤ 61 ∧ q.den ≤ 61 ∨ True := .inr trivial
theorem LF.bR (h : LF L R p q) : ∀ s ∈ R, Bd 14 s.lo ∧ Bd 14 s.hi := ends_of (P := Bd 14) h.mR h.bL
theorem LF.dR (h : LF L R p q) : ∀ s ∈ R, s.lo.den ≤ 61 ∧ s.hi.den ≤ 61 := ends_of (P := fun x => x.den ≤ 61) h.mR h.dL
theorem LF.nR (h : LF L R p q) : R.length ≤ 30 := by
  have := nodup_sub (canon_nodup h.cR) h.mR
  rw [cutsC_len, cutsC_len] at this
  have := h.nL
  omega
theorem LF.sL (h : LF L R p q) : SpB S3 L := ⟨S3_pos, Nat.lt_trans S3_bd (Nat.pow_lt_pow_right (by decide) (by decide)), fun s hs => ⟨dv3 (h.dL s hs).1, dv3 (h.dL s hs).2⟩, fun s hs => ⟨(h.bL s hs).1.mono (by decide), (h.bL s hs).2.mono (by decide)⟩, by have := h.nL; omega⟩
theorem LF.sR (h : LF L R p q) : SpB S3 R := ⟨S3_pos, Nat.lt_trans S3_bd (Nat.pow_lt_pow_right (by decide) (by decide)), fun s hs => ⟨dv3 (h.dR s hs).1, dv3 (h.dR s hs).2⟩, fun s hs => ⟨(h.bR s hs).1.mono (by decide), (h.bR s hs).2.mono (by decide)⟩, by have := h.nR; omega⟩
theorem bd_aff {x p q : Rat} (hx : Bd 14 x) (hp : Bd 6 p) (hq : Bd 6 q) : Bd 27 (x * p + q) := (hx.mul hp).add hq
theorem LF.bD (h : LF L R p q) : ∀ s ∈ scL p q R, Bd 27 s.lo ∧ Bd 27 s.hi := ends_sc fun r hr => ⟨bd_aff (h.bR r hr).1 h.bp h.bq, bd_aff (h.bR r hr).2 h.bp h.bq⟩
theorem d6 {x : Rat} (h : x.den ≤ 60) : x.den ≤ 61 := by omega
theorem LF.sD (h : LF L R p q) (hp : p.den ≤ 61) (hq : q.den ≤ 61) : SpB S3 (scL p q R) := ⟨S3_pos, Nat.lt_trans S3_bd (Nat.pow_lt_pow_right (by decide) (by decide)), ends_sc fun r hr => ⟨dv_aff (h.dR r hr).1 hp hq, dv_aff (h.dR r hr).2 hp hq⟩, fun s hs => ⟨(h.bD s hs).1.mono (by decide), (h.bD s hs).2.mono (by decide)⟩, by rw [len_scL]; have := h.nR; omega⟩
theorem LF.cD (h : LF L R p q) : Canon (scL p q R) := scL_canon h.p0 h.cR
variable {μ : M}
theorem same {d : D} {P : WQ} (h : Sm LV d) (hP : P (.bl true) μ) : T LV 33 [d, d] μ P := tc (m := 6) (by decide) (by decide) ⟨d, rfl, h, hP⟩
theorem di_back1 {p : Rat} : Rat.divInt (p.den : Int) p.num = 1 / p := by
  rw [Rat.divInt_eq_div]
  have e : (((p.den : Nat) : Int) : Rat) = ((p.den : Nat) : Rat) := rfl
  rw [e, numR]
  have h1 : (p.den : Rat) ≠ 0 := by have := denR_pos p; grind
  by_cases h : p = 0
  · subst h; grind
  · grind
theorem di_back2 {p q : Rat} (hp : p ≠ 0) : Rat.divInt (-q.num * p.den) (q.den * p.num) = -q / p := by
  rw [Rat.divInt_eq_div]
  have e : ∀ z : Rat, (((z.den : Nat) : Int) : Rat) = ((z.den : Nat) : Rat) := fun _ => rfl
  simp only [Rat.intCast_mul, Rat.intCast_neg, numR, e]
  have h1 : (p.den : Rat) ≠ 0 := by have := denR_pos p; grind
  have h2 : (q.den : Rat) ≠ 0 := by have := denR_pos q; grind
  grind
theorem abs_enc (p : Rat) : D.tup [.int (p.num.natAbs : Int), .int p.den] = enc (absR p) := by
  unfold absR enc
  split
  · rename_i h
    have : p.num < 0 := by
      have := @pos_num (-p)
      rw [Rat.neg_num] at this
      have h2 : 0 < -p := by grind
      rw [← this] at h2
      omega
    rw [Rat.neg_num, Rat.neg_den]
    congr 3
    omega
  · rename_i h
    have : 0 ≤ p.num := Rat.num_nonneg.mpr (by grind)
    congr 3
    omega
theorem law_A2 {E : DEnds} {r0 r1 r2 r3 r10 r11 r12 r13 r14 r15 r16 : Option D} {t : Str} (f : LF L R p q) (pd : p.den ≤ 61) (qd : q.den ≤ 61)
    (ht : ∀ (μ : M) (Q : WQ), Q (.str t) μ → opBlt .repr [lstS L] μ Q)
    (h3 : ∀ o10 o11, wSs (T LV) lwA3 E [r0, r1, r2, r3, some (lstS L), some (tupS R), some (.str t), some (enc p), some (enc q), some (tupS (scL p q R)), o10, o11, r12, r13, r14, r15, r16] μ) :
    wSs (T LV) lwA2 E [r0, r1, r2, r3, some (lstS L), some (tupS R), some (.str t), some (enc p), some (enc q), some (tupS (scL p q R)), r10, r11, r12, r13, r14, r15, r16] μ := by
  have b1 : Bd 1000 p := f.bp.mono (by decide)
  have b2 : Bd 1000 q := f.bq.mono (by decide)
  have sD := f.sD pd qd
  have lD : (scL p q R).length ≤ 1000 := by rw [len_scL]; have := f.nR; omega
  have lR : R.length ≤ 1000 := by have := f.nR; omega
  have n0 : p.num ≠ 0 := fun h => f.p0 (Rat.num_eq_zero.mp h)
  have d1 := denp p
  have d2 := denp q
  unfold lwA2
  rw [wS1]
  simp only [wS, wE, wEs]
  simp only [r_getV0, r_getVs]
  refine tc (m := 6) (by decide) (by decide) ⟨R, S3, p, q, rfl, f.sR, f.cR, b1, b2, f.p0, ?_⟩
  simp only [permD]
  refine tc (m := 6) (by decide) (by decide) ⟨R, S3, p, q, rfl, f.sR, f.cR, b1, b2, f.p0, ?_⟩
  refine tc (m := 6) (by decide) (by decide) ⟨L, S3, rfl, f.sL, f.okL, by have := f.nL; omega, fun R' c1 c2 c3 => ?_⟩
  have : R' = R := canon_unique c1 f.cR fun c => by rw [c3, f.iR]
  subst this
  refine tc (m := 6) (by decide) (by decide) ⟨R', S3, p, q, rfl, f.sR, f.cR, b1, b2, f.p0, ?_⟩
  refine new_l (line_le (by simp)) ?_
  simp only [List.set]
  rw [wS1]
  refine iff_val false (fun P hP => ?_) ?_
  · simp only [wT, wE, wEs, ofE, wCmp, opCmp]
    simp only [r_getV0, r_getVs]
    refine new_l (line_le (by simp)) (same (Sm_L (by simp) (fun d hd => ?_)) ?_)
    · simp at hd
      subst hd
      exact Sm_T lD
    simp only [r_truB, Bool.not_true, Bool.false_eq_true, if_false]
    refine ht _ _ ?_
    simp only [q_ss, decide_true, Option.map_some, Bool.not_true]
    exact hP
  rw [if_neg Bool.false_ne_true, wS0]
  try dsimp only
  rw [wS1]
  simp only [wS, wE, wEs]
  simp only [r_getV0, r_getVs]
  simp only [enc0, enc1]
  have nb : p.num.natAbs < 2 ^ 9000 := Nat.lt_of_lt_of_le f.bp.1 (Nat.pow_le_pow_right (by decide) (by decide))
  refine tc (m := 6) (by decide) (by decide) ⟨_, _, rfl, n0, nb, ?_⟩
  simp only [opBin, r_opI, enc0, enc1]
  have n1 : (-q.num).natAbs < 2 ^ 6 := by rw [Int.natAbs_neg]; exact f.bq.1
  have n2 : ((p.den : Nat) : Int).natAbs < 2 ^ 6 := by rw [Int.natAbs_natCast]; exact f.bp.2
  have n3 : ((q.den : Nat) : Int).natAbs < 2 ^ 6 := by rw [Int.natAbs_natCast]; exact f.bq.2
  refine ⟨mw n1 n2 (by decide), mw n3 f.bp.1 (by decide), ?_⟩
  have m0 : (q.den : Int) * p.num ≠ 0 := Int.mul_ne_zero (by omega) n0
  have m1 : ((q.den : Int) * p.num).natAbs < 2 ^ 12 := by rw [Int.natAbs_mul]; exact mul_lt2 n3 f.bp.1
  refine tc (m := 6) (by decide) (by decide) ⟨_, _, rfl, m0, Nat.lt_of_lt_of_le m1 (Nat.pow_le_pow_right (by decide) (by decide)), ?_⟩
  have k1 : Bd 12 (1 / p) := by rw [← di_back1]; exact bd_div n0 (by omega) (by have := f.bp.1; omega)
  have k2 : Bd 12 (-q / p) := by rw [← di_back2 f.p0]; exact bd_div m0 (by rw [Int.natAbs_mul]; exact mul_lt2 n1 n2) m1
  rw [di_back1, di_back2 f.p0]
  refine ⟨line_le (by simp), ?_⟩
  simp only [List.set]
  rw [wS1]
  refine iff_val false (fun P hP => ?_) ?_
  · simp only [wT, wE, wEs, ofE]
    simp only [r_getV0, r_getVs]
    have i3 : ∀ (a b c : D) (P : WQ) (ν : M), opIdx (.lst [a, b, c]) (.int 0) ν P = P a ν := fun a b c P ν => by simp
    have it0 : ∀ (a b : D) (P : WQ) (ν : M), opIdx (.tup [a, b]) (.int 0) ν P = P a ν := fun a b P ν => by simp
    have it1 : ∀ (a b : D) (P : WQ) (ν : M), opIdx (.tup [a, b]) (.int 1) ν P = P b ν := fun a b P ν => by simp
    simp only [i3, it0, it1]
    have z : (1 : Rat) / p ≠ 0 := fun z => by
      have : (1 / p) * p = 1 := by have := f.p0; grind
      rw [z] at this
      grind
    refine tc (m := 6) (by decide) (by decide) ⟨_, S3, _, _, rfl, sD, f.cD, k1.mono (by decide), k2.mono (by decide), z, ?_⟩
    rw [scL_back f.p0]
    refine same (Sm_T lR) ?_
    simp only [r_truB, Bool.not_true]
    exact hP
  rw [if_neg Bool.false_ne_true, wS0]
  exact h3 _ _
end
end K30


set_option Elab.async false
set_option linter.all false
set_option maxRecDepth 100000
namespace K30
open PySem L2 Rf
section
variable {L R : List Rf.Sp} {p q : Rat} {μ : M}
theorem m1_enc : D.tup [.int (-1), .int 1] = enc (-1 : Rat) := rfl
theorem p1_enc : D.tup [.int 1, .int 1] = enc (1 : Rat) := rfl
theorem p0_enc : D.tup [.int 0, .int 1] = enc (0 : Rat) := rfl
theorem r_abs' {i : Int} {P : WQ} {ν : M} : opBlt .abs [.int i] ν P = P (.int (i.natAbs : Int)) ν := by
  have : (if i < 0 then -i else i) = (i.natAbs : Int) := by split <;> omega
  rw [← this]; rfl
theorem sc_len {m : Nat} (f : LF L R p q) : Bd (30 * R.length + 1) (lenF 0 R) := by
  have : ∀ M : List Rf.Sp, (∀ s ∈ M, Bd 14 s.lo ∧ Bd 14 s.hi) → ∀ t n, Bd n t → Bd (30 * M.length + n) (lenF t M) := by
    intro M
    induction M with
    | nil => intro _ t n h; simpa [lenF] using h
    | cons s M ih =>
      intro h t n ht
      obtain ⟨h1, h2⟩ := h s (by simp)
      have := ih (fun y hy => h y (List.mem_cons_of_mem _ hy)) _ _ (ht.add (h2.sub h1))
      exact this.mono (by simp; omega)
  exact this R f.bR 0 1 ⟨by decide, by decide⟩
theorem law_A3 {E : DEnds} {r0 r1 r2 r3 r6 r10 r11 r12 r13 r14 r15 r16 : Option D} (f : LF L R p q) (pd : p.den ≤ 61) (qd : q.den ≤ 61)
    (hE : ∀ o12 o13 o14 o15, E.nx [r0, r1, r2, r3, some (lstS L), some (tupS R), r6, some (enc p), some (enc q), some (tupS (scL p q R)), r10, r11, o12, o13, o14, o15, r16] μ) :
    wSs (T LV) lwA3 E [r0, r1, r2, r3, some (lstS L), some (tupS R), r6, some (enc p), some (enc q), some (tupS (scL p q R)), r10, r11, r12, r13, r14, r15, r16] μ := by
  have sD := f.sD pd qd
  have nR := f.nR
  have tb := sc_len (m := 0) f
  have etake : R.take (⟨none, R.map encS⟩ : Src).items.length = R := by
    have : (⟨none, R.map encS⟩ : Src).items.length = R.length := by simp
    rw [this, List.take_length]
  unfold lwA3
  rw [wS1]
  simp only [wS, wE, wEs]
  refine ⟨line_le (by simp), ?_⟩
  simp only [List.set]
  rw [wS1]
  simp only [wS, wI, wE, r_getV0, r_getVs]
  simp only [show srcOf μ (tupS R) = some ⟨none, R.map encS⟩ from rfl]
  refine ⟨fun i ρ μ' => μ' = μ ∧ ∃ (o13 : Option D), ρ = [r0, r1, r2, r3, some (lstS L), some (tupS R), r6, some (enc p), some (enc q), some (tupS (scL p q R)), r10, r11, some (enc (lenF 0 (R.take i))), o13, r14, r15, r16] ∧ Bd (i * 30 + 1) (lenF 0 (R.take i)), ⟨rfl, _, rfl, by simp [lenF], by simp [lenF]⟩, fun _ _ _ _ _ _ _ h => (by cases h), ?_, ?_⟩
  · rintro i x ρ μ' hx ⟨rfl, o13, rfl, hb⟩
    obtain ⟨s, hs, rfl, hm⟩ := items_S hx
    have hi := (List.getElem?_eq_some_iff.mp hs).1
    obtain ⟨e1, e2⟩ := f.bR s hm
    refine ⟨_, rfl, ?_⟩
    simp only [List.set]
    rw [wS1]
    simp only [wS, wE, wEs]
    simp only [r_getV0, r_getVs]
    refine ⟨line_le (by simp), ?_⟩
    simp only [encS0, encS1]
    refine ⟨line_le (by simp), ?_⟩
    rw [m1_enc, p1_enc]
    refine tc (m := 6) (by decide) (by decide) ⟨_, _, _, rfl, e1.mono (by decide), ⟨by decide, by decide⟩, e2.mono (by decide), ?_⟩
    have bm : Bd 29 (s.lo * (-1) + s.hi) := by
      have : s.lo * (-1) + s.hi = s.hi - s.lo := by grind
      rw [this]
      exact e2.sub e1
    refine tc (m := 6) (by decide) (by decide) ⟨_, _, _, rfl, hb.mono (by omega), ⟨by decide, by decide⟩, bm.mono (by decide), ?_⟩
    have ev : lenF 0 (R.take i) * 1 + (s.lo * (-1) + s.hi) = lenF 0 (R.take (i + 1)) := by
      rw [take_snoc hs, lenF_app]
      show _ = lenF 0 (R.take i) + (s.hi - s.lo)
      grind
    rw [ev]
    try dsimp only
    rw [wS0]
    simp only [List.set]
    refine ⟨trivial, _, rfl, ?_⟩
    rw [← ev]
    have : lenF 0 (R.take i) * 1 + (s.lo * (-1) + s.hi) = lenF 0 (R.take i) + (s.lo * (-1) + s.hi) := by grind
    rw [this]
    exact (hb.add bm).mono (by omega)
  rintro ρ μ' ⟨rfl, o13, rfl, hb⟩
  rw [etake] at hb ⊢
  clear hb
  have ba : Bd 6 (absR p) := by unfold absR; split; exact f.bp.neg; exact f.bp
  rw [wS1]
  simp only [wS, wE, wEs]
  simp only [r_getV0, r_getVs]
  simp only [enc0, r_abs', enc1]
  refine ⟨line_le (by simp), line_le (by simp), ?_⟩
  rw [abs_enc, p0_enc]
  refine tc (m := 6) (by decide) (by decide) ⟨_, _, _, rfl, tb.mono (by omega), ba.mono (by decide), ⟨by decide, by decide⟩, ?_⟩
  have ev : lenF 0 R * absR p + 0 = lenF 0 (scL p q R) := by rw [lenF_sc f.p0]; grind
  rw [ev]
  try dsimp only
  simp only [List.set]
  rw [wS1]
  refine iff_val false (fun P hP => ?_) ?_
  · simp only [wT, wE, wEs, ofE]
    simp only [r_getV0, r_getVs]
    refine tc (m := 6) (by decide) (by decide) ⟨R, S3, 14, rfl, f.sR, f.cR, f.bR, by omega, by decide, ?_⟩
    simp only [permD]
    refine tc (m := 6) (by decide) (by decide) ⟨R, S3, 14, rfl, f.sR, f.cR, f.bR, by omega, by decide, ?_⟩
    refine tc (m := 6) (by decide) (by decide) ⟨_, S3, 27, rfl, sD, f.cD, f.bD, by rw [len_scL]; omega, by decide, ?_⟩
    refine new_l (line_le (by simp)) (new_l (line_le (by simp)) (same (Sm_L (by simp) (fun d hd => ?_)) ?_))
    · simp at hd
      rcases hd with rfl | rfl
      · exact Sm_enc _
      · exact Sm_enc _
    simp only [r_truB, Bool.not_true]
    exact hP
  rw [if_neg Bool.false_ne_true, wS0]
  try dsimp only
  rw [wS1]
  simp only [wS, wI, wE, wEs, wO]
  simp only [r_getV0, r_getVs]
  have hsl : ∀ P : WQ, P (.lst (cutD (L.map encS) none (some 8))) μ' → opSlc (lstS L) none (some 8) μ' P := fun P hP => by
    unfold lstS
    rw [r_slcL]
    refine new_l (line_le ?_) hP
    unfold cutD
    have := f.nL
    simp
    omega
  refine hsl _ ?_
  have hin : ∀ x ∈ cutD (L.map encS) none (some 8), ∃ s ∈ L, x = encS s := fun x hx => by
    unfold cutD at hx
    have hx := List.mem_of_mem_drop (List.mem_of_mem_take hx)
    obtain ⟨s, hs, rfl⟩ := List.mem_map.mp hx
    exact ⟨s, hs, rfl⟩
  generalize cutD (L.map encS) none (some 8) = items at hin
  simp only [show srcOf μ' (D.lst items) = some ⟨none, items⟩ from rfl]
  refine ⟨fun i ρ μ'' => μ'' = μ' ∧ ∃ (o13 o15 : Option D), ρ = [r0, r1, r2, r3, some (lstS L), some (tupS R), r6, some (enc p), some (enc q), some (tupS (scL p q R)), r10, r11, some (enc (lenF 0 R)), o13, some (enc (lenF 0 (scL p q R))), o15, r16], ⟨rfl, _, _, rfl⟩, fun _ _ _ _ _ _ _ h => (by cases h), ?_, ?_⟩
  · rintro i x ρ μ'' hx ⟨rfl, o13', o15', rfl⟩
    obtain ⟨s, hs, rfl⟩ := hin x (List.mem_of_getElem? hx)
    obtain ⟨b1, b2⟩ := f.bL s hs
    obtain ⟨d1, d2⟩ := f.dL s hs
    refine ⟨_, rfl, ?_⟩
    simp only [List.set]
    rw [wS1]
    simp only [wS, wI, wE, wEs]
    simp only [r_getV0, r_getVs]
    simp only [encS0, encS1]
    refine new_l (line_le (by simp)) ?_
    simp only [show srcOf μ'' (D.lst [enc s.lo, enc s.hi]) = some ⟨none, [enc s.lo, enc s.hi]⟩ from rfl]
    refine ⟨fun i ρ μ3 => μ3 = μ'' ∧ ∃ (o15 : Option D), ρ = [r0, r1, r2, r3, some (lstS L), some (tupS R), r6, some (enc p), some (enc q), some (tupS (scL p q R)), r10, r11, some (enc (lenF 0 R)), some (encS s), some (enc (lenF 0 (scL p q R))), o15, r16], ⟨rfl, _, rfl⟩, fun _ _ _ _ _ _ _ h => (by cases h), ?_, ?_⟩
    · rintro j y ρ μ3 hy ⟨rfl, o15'', rfl⟩
      obtain ⟨x, bx, dx, rfl⟩ : ∃ x : Rat, Bd 14 x ∧ x.den ≤ 61 ∧ y = enc x := by
        match j, hy with
        | 0, hy => cases hy; exact ⟨_, b1, d1, rfl⟩
        | 1, hy => cases hy; exact ⟨_, b2, d2, rfl⟩
        | j + 2, hy => simp at hy
      refine ⟨_, rfl, ?_⟩
      simp only [List.set]
      rw [wS1]
      refine iff_val false (fun P hP => ?_) ?_
      · simp only [wT, wE, wEs, ofE]
        simp only [r_getV0, r_getVs]
        refine tc (m := 6) (by decide) (by decide) ⟨x, p, q, rfl, bx.mono (by decide), f.bp.mono (by decide), f.bq.mono (by decide), ?_⟩
        refine tc (m := 6) (by decide) (by decide) ⟨_, S3, _, rfl, sD, f.cD, dv_aff dx pd qd, (bd_aff bx f.bp f.bq).mono (by decide), ?_⟩
        rw [has_any f.cD, any_within_sc f.p0]
        refine tc (m := 6) (by decide) (by decide) ⟨R, x, .inr rfl, fun s hs => ⟨(f.bR s hs).1.mono (by decide), (f.bR s hs).2.mono (by decide)⟩, bx.mono (by decide), ?_⟩
        refine same (by exact trivial) ?_
        simp only [r_truB, Bool.not_true]
        exact hP
      rw [if_neg Bool.false_ne_true, wS0]
      try dsimp only
      rw [wS0]
      exact ⟨rfl, _, rfl⟩
    · rintro ρ μ3 ⟨rfl, o15'', rfl⟩
      rw [wS0]
      exact ⟨rfl, _, _, rfl⟩
  · rintro ρ μ'' ⟨rfl, o13', o15', rfl⟩
    rw [wS0]
    exact hE _ _ _ _
end
end K30


set_option Elab.async false
set_option linter.all false
set_option maxRecDepth 100000
namespace K30
open PySem L2 Rf
def lwB1 : CSs :=
  (.cons (.set 9 (.cal 46 (.cons (.var 13) (.cons (.cst (.int 4000)) .nil))))
      (.cons (.iff (.not (.cal 33 (.cons (.lst (.cons (.cal 30 (.cons (.var 13) .nil)) (.cons (.cak 30 .nil ["span"] (.cons (.var 13) .nil) [0] 0) .nil))) (.cons (.lst (.cons (.var 9) (.cons (.var 9) .nil))) .nil))))
        (.cons (.ret (.cst (.bl false)))
        .nil)
        .nil)
      (.cons (.unp [13, 9] (.cal 47 (.cons (.var 2) .nil)))
      (.cons (.iff (.not (.cal 33 (.cons (.cal 30 (.cons (.var 13) .nil)) (.cons (.var 9) .nil))))
        (.cons (.ret (.cst (.bl false)))
        .nil)
        .nil)
      .nil))))
theorem map_of {P : Rf.Sp → Prop} : ∀ {ys : List D}, (∀ y ∈ ys, ∃ s, y = encS s ∧ P s) → ∃ L : List Rf.Sp, ys = L.map encS ∧ ∀ s ∈ L, P s
  | [], _ => ⟨[], rfl, by simp⟩
  | y :: ys, h => by
    obtain ⟨s, rfl, hs⟩ := h y (by simp)
    obtain ⟨L, rfl, hL⟩ := map_of fun z hz => h z (List.mem_cons_of_mem _ hz)
    refine ⟨s :: L, rfl, fun t ht => ?_⟩
    rcases List.mem_cons.mp ht with rfl | ht
    · exact hs
    · exact hL t ht
theorem end_in {p : Rf.Sp} (h : p.ok) (h1 : p.lo.den ≤ 61) (h2 : p.hi.den ≤ 61) : ∃ y, inJ p.lo p.lf (some p.hi) p.hf y ∧ y.den ≤ 4000 := by
  have hw : p.lo = p.hi ∨ 1 < (p.hi - p.lo) * ((3722 : Int) : Rat) := by
    rcases ok_iff.mp h with q | ⟨q, _⟩
    · right
      have a := apart q
      have c1 : ((p.lo.den : Nat) : Rat) * (p.hi.den : Rat) ≤ 3721 := by
        have : p.lo.den * p.hi.den ≤ 61 * 61 := Nat.mul_le_mul h1 h2
        have := Rat.natCast_le_natCast.mpr this
        rw [Rat.natCast_mul] at this
        exact this
      have c2 : (p.hi - p.lo) * ((p.lo.den : Rat) * p.hi.den) ≤ (p.hi - p.lo) * 3721 := Rat.mul_le_mul_of_nonneg_left c1 (by grind)
      have e : ((3722 : Int) : Rat) = 3722 := rfl
      rw [e]
      grind
    · exact .inl q
  obtain ⟨y, y1, y2⟩ := small_in h (b := 3722) (by decide) hw (by omega)
  exact ⟨y, y1, by omega⟩
section
variable {μ : M}
theorem dr {n b : Nat} {many : Int} {Q : WQ} (hw : WellOk n b μ) (hb : b ≤ BIG) (h0 : 0 < many) (h1 : many.natAbs < 2 ^ 400) (hq : ∀ r μ', Wl n (b + 1) μ μ' → 0 ≤ r → r < many → Q (.int r) μ') : T LV 32 [.cel n, .int many] μ Q :=
  tc (m := 6) (by decide) (by decide) ⟨n, b, many, rfl, hw, hb, h0, h1, hq⟩
theorem law_B1 {E : DEnds} {r0 r1 r3 r4 r5 r6 r7 r8 r9 r10 r11 r12 r14 r15 r16 : Option D} {n b : Nat} {p : Rf.Sp} (hw : WellOk n b μ) (hb : b ≤ 100000) (hp : p.ok) (h1 : Bd 200 p.lo) (h2 : Bd 200 p.hi) (hy : ∃ y, inJ p.lo p.lf (some p.hi) p.hf y ∧ y.den ≤ 4000)
    (hE : ∀ o9 o13 μ', Wl n (b + 20) μ μ' → E.nx [r0, r1, some (.cel n), r3, r4, r5, r6, r7, r8, o9, r10, r11, r12, o13, r14, r15, r16] μ') :
    wSs (T LV) lwB1 E [r0, r1, some (.cel n), r3, r4, r5, r6, r7, r8, r9, r10, r11, r12, some (encS p), r14, r15, r16] μ := by
  unfold lwB1
  rw [wS1]
  simp only [wS, wE, wEs]
  simp only [r_getV0, r_getVs]
  refine tc (m := 6) (by decide) (by decide) ⟨p, rfl, hp, h1, h2, hy, fun t ht => ?_⟩
  simp only [List.set]
  rw [wS1]
  refine iff_val false (fun P hP => ?_) ?_
  · simp only [wT, wE, wEs, ofE]
    simp only [r_getV0, r_getVs]
    refine tc (m := 6) (by decide) (by decide) ⟨p, rfl, hp, h1, h2, fun t1 ht1 => ?_⟩
    simp only [permD]
    refine tc (m := 6) (by decide) (by decide) ⟨p, rfl, hp, h1, h2, fun t2 ht2 => ?_⟩
    have e1 := smp_uniq ht1 ht
    have e2 := smp_uniq ht2 ht
    subst e1 e2
    refine new_l (line_le (by simp)) (new_l (line_le (by simp)) (same (Sm_L (by simp) (fun d hd => ?_)) ?_))
    · simp at hd
      subst hd
      exact Sm_enc _
    simp only [r_truB, Bool.not_true]
    exact hP
  rw [if_neg Bool.false_ne_true, wS0]
  try dsimp only
  rw [wS1]
  simp only [wS, wE, wEs]
  simp only [r_getV0, r_getVs]
  refine tc (m := 6) (by decide) (by decide) ⟨n, b, rfl, hw, by omega, fun p2 m μ1 w1 k1 k2 k3 k4 => ?_⟩
  simp only [setsD, List.set]
  rw [wS1]
  refine iff_val false (fun P hP => ?_) ?_
  · simp only [wT, wE, wEs, ofE]
    simp only [r_getV0, r_getVs]
    refine tc (m := 6) (by decide) (by decide) ⟨p2, rfl, k1, k2, k3, fun t2 ht2 => ?_⟩
    rw [k4 t2 ht2]
    refine same (Sm_enc _) ?_
    simp only [r_truB, Bool.not_true]
    exact hP
  rw [if_neg Bool.false_ne_true, wS0]
  try dsimp only
  rw [wS0]
  exact hE _ _ _ (w1.mono (by omega))
theorem law_B {E : DEnds} {r0 r1 r4 r5 r6 r7 r8 r9 r10 r11 r12 r13 r14 r15 r16 : Option D} {n b : Nat} {turn : Int} (hw : WellOk n b μ) (hb : b ≤ 90000) (t0 : 0 ≤ turn)
    (hE : ∀ o9 o13 μ', Wl n (b + 40) μ μ' → E.nx [r0, r1, some (.cel n), some (.int turn), r4, r5, r6, r7, r8, o9, r10, r11, r12, o13, r14, r15, r16] μ') :
    wSs (T LV) lwB E [r0, r1, some (.cel n), some (.int turn), r4, r5, r6, r7, r8, r9, r10, r11, r12, r13, r14, r15, r16] μ := by
  have step : ∀ (p : Rf.Sp) (μ1 : M), Wl n (b + 10) μ μ1 → p.ok → Bd 200 p.lo → Bd 200 p.hi → (∃ y, inJ p.lo p.lf (some p.hi) p.hf y ∧ y.den ≤ 4000) → wSs (T LV) lwB1 E [r0, r1, some (.cel n), some (.int turn), r4, r5, r6, r7, r8, r9, r10, r11, r12, some (encS p), r14, r15, r16] μ1 := fun p μ1 w1 a1 a2 a3 a4 =>
    law_B1 w1.ok (by omega) a1 a2 a3 a4 fun o9 o13 μ' w => hE _ _ _ ((w1.trans w).mono (by omega))
  unfold lwB
  rw [wS1]
  simp only [wS, wT, wE, wEs, wCmp, opCmp]
  simp only [r_getV0, r_getVs, r_cmpI]
  by_cases h : turn < 5
  · simp only [h, decide_true, if_true]
    refine tc (m := 6) (by decide) (by decide) ⟨n, b, rfl, hw, by omega, fun p μ1 w1 k1 k2 k3 k4 => ?_⟩
    simp only [List.set]
    exact step p μ1 w1 k1 k2 k3 k4
  · simp only [h, decide_false, Bool.false_eq_true, if_false]
    have ei : ∀ (i : Int) (P : WQ) (ν : M), opBlt .int [.int i] ν P = P (.int i) ν := fun i P ν => rfl
    simp only [ei, opBin, r_opI]
    refine ⟨by decide, ?_⟩
    have m0 := Int.emod_nonneg turn (b := 3) (by decide)
    have m1 := Int.emod_lt_of_pos turn (b := 3) (by decide)
    refine tc (m := 6) (by decide) (by decide) ⟨n, b, _, rfl, hw, by omega, m0, by omega, fun p μ1 w1 k1 k2 k3 k4 k5 => ?_⟩
    simp only [List.set]
    exact step p μ1 w1 k1 (k2.mono (by decide)) (k3.mono (by decide)) (end_in k1 k4 k5)
theorem law_A {E : DEnds} {r0 r1 r4 r5 r6 r7 r8 r9 r10 r11 r12 r13 r14 r15 r16 : Option D} {n b : Nat} {turn : Int} (hw : WellOk n b μ) (hb : b ≤ 90000) (t0 : 0 ≤ turn) (t2 : turn ≤ 2)
    (hE : ∀ o4 o5 o6 o7 o8 o9 o10 o11 o12 o13 o14 o15 μ', Wl n (b + 400) μ μ' → E.nx [r0, r1, some (.cel n), some (.int turn), o4, o5, o6, o7, o8, o9, o10, o11, o12, o13, o14, o15, r16] μ') :
    wSs (T LV) lwA E [r0, r1, some (.cel n), some (.int turn), r4, r5, r6, r7, r8, r9, r10, r11, r12, r13, r14, r15, r16] μ := by
  unfold lwA
  rw [wS1]
  simp only [wS, wE, wEs, wI]
  simp only [r_getV0, r_getVs]
  refine new_l (line_le (by simp)) ?_
  refine dr hw (by unfold BIG; omega) (by decide) (by decide) fun r1' μ1 w1 a0 a1 => ?_
  simp only [opBin, r_opI]
  refine ⟨dv (n := 2) (by decide) (by decide) (by decide), ?_⟩
  obtain ⟨many, m0, m1, hm⟩ : ∃ z : Int, 0 < z ∧ z ≤ 31 ∧ ∀ (P : WQ) (ν : M), opIdx (.lst [.int 10, .int 31]) (.int (r1' / 2)) ν P = P (.int z) ν := by
    rcases (by omega : r1' / 2 = 0 ∨ r1' / 2 = 1) with h | h
    · exact ⟨10, by decide, by decide, fun P ν => by rw [h]; simp⟩
    · exact ⟨31, by decide, by decide, fun P ν => by rw [h]; simp⟩
  simp only [hm]
  refine dr w1.ok (by unfold BIG; omega) m0 (Nat.lt_of_lt_of_le (show many.natAbs < 2 ^ 14 by omega) (Nat.pow_le_pow_right (by decide) (by decide))) fun cnt μ2 w2 a2 a3 => ?_
  have w2 := w1.trans w2
  refine ⟨⟨by omega, by omega⟩, ?_⟩
  refine lc_gen (Γ := T LV) (n := n) (b := b + 2) (c := 10) (fun d => ∃ s : Rf.Sp, d = encS s ∧ (s.ok ∧ (Bd 14 s.lo ∧ Bd 14 s.hi) ∧ (s.lo.den ≤ 61 ∧ s.hi.den ≤ 61))) (w2.ok.mono (by omega)) rfl (by simp; omega) ?_ ?_
  · intro i x μ' hx hw'
    have hi := (List.getElem?_eq_some_iff.mp hx).1
    simp at hi
    refine ⟨_, rfl, fun P hP => ?_⟩
    simp [wE, wEs, wipeD]
    exact tc (m := 6) (by decide) (by decide) ⟨n, _, turn, rfl, hw'.ok, by omega, t0, t2, fun s μ3 w3 k1 k2 k3 k4 k5 => hP _ _ ((hw'.trans w3).mono (by omega)) ⟨s, rfl, k1, ⟨k2, k3⟩, k4, k5⟩⟩
  intro ys μ3 w3 hlen hys
  simp at hlen
  obtain ⟨L, rfl, hL⟩ := map_of hys
  have w3 := (w2.trans w3).mono (c := b + 320) (by simp; omega)
  have nL : L.length ≤ 30 := by simp at hlen; omega
  refine new_l (line_le (by simp; omega)) ?_
  rw [show D.lst (L.map encS) = lstS L from rfl]
  have sL : SpB S3 L := ⟨S3_pos, Nat.lt_trans S3_bd (Nat.pow_lt_pow_right (by decide) (by decide)), fun s hs => ⟨dv3 (hL s hs).2.2.1, dv3 (hL s hs).2.2.2⟩, fun s hs => ⟨(hL s hs).2.1.1.mono (by decide), (hL s hs).2.1.2.mono (by decide)⟩, by omega⟩
  simp only [List.set]
  rw [wS1]
  simp only [wS, wE, wEs]
  simp only [r_getV0, r_getVs]
  refine tc (m := 6) (by decide) (by decide) ⟨L, S3, rfl, sL, Nat.lt_trans S3_bd (Nat.pow_lt_pow_right (by decide) (by decide)), fun s hs => (hL s hs).1, by omega, fun R c1 c2 c3 => ?_⟩
  obtain ⟨t, ht⟩ := reprL (L := L) (fun s hs => (hL s hs).2.1) (by omega)
  refine ht _ _ ?_
  simp only [List.set]
  rw [wS1]
  simp only [wS, wE, wEs]
  simp only [r_getV0, r_getVs, opBin]
  refine dr w3.ok (by unfold BIG; omega) (by decide) (by decide) fun a μ4 w4 b0 b1 => ?_
  have w4 := w3.trans w4
  simp only [r_addI]
  refine dr w4.ok (by unfold BIG; omega) (by decide) (by decide) fun c μ5 w5 b2 b3 => ?_
  have w5 := w4.trans w5
  simp only [r_opI]
  refine ⟨cm1 (by decide) (by decide), trivial, cm1 (by omega) (by omega), ?_⟩
  refine dr w5.ok (by unfold BIG; omega) (by decide) (by decide) fun d μ6 w6 b4 b5 => ?_
  have w6 := w5.trans w6
  simp only [r_addI]
  obtain ⟨tp, htp, tp0, tp1⟩ : ∃ tp : Int, (1 + a) * (1 - 2 * c) = tp ∧ tp ≠ 0 ∧ tp.natAbs < 2 ^ 6 := by
    rcases (by omega : c = 0 ∨ c = 1) with rfl | rfl
    · exact ⟨_, rfl, by omega, by omega⟩
    · exact ⟨_, rfl, by omega, by omega⟩
  rw [htp]
  refine tc (m := 6) (by decide) (by decide) ⟨_, _, rfl, by omega, Nat.lt_of_lt_of_le (show (1 + d).natAbs < 2 ^ 14 by omega) (Nat.pow_le_pow_right (by decide) (by decide)), ?_⟩
  obtain ⟨pd1, pd2⟩ := di_in (a := tp) (b := 1 + d) (by omega)
  have bp : Bd 6 (Rat.divInt tp (1 + d)) := bd_div (by omega) tp1 (by omega)
  have p0 : Rat.divInt tp (1 + d) ≠ 0 := fun z => by
    rw [z] at pd2
    have : (tp : Rat) = 0 := by grind
    exact tp0 (Rat.intCast_eq_zero_iff.mp this)
  have pd : (Rat.divInt tp (1 + d)).den ≤ 61 := by omega
  generalize Rat.divInt tp (1 + d) = p at bp p0 pd
  simp only [List.set]
  rw [wS1]
  simp only [wS, wE, wEs]
  simp only [r_getV0, r_getVs, opBin]
  refine dr w6.ok (by unfold BIG; omega) (by decide) (by decide) fun e μ7 w7 b6 b7 => ?_
  have w7 := w6.trans w7
  simp only [r_opI]
  refine ⟨trivial, dr w7.ok (by unfold BIG; omega) (by decide) (by decide) fun g μ8 w8 b8 b9 => ?_⟩
  have w8 := w7.trans w8
  simp only [r_addI]
  refine tc (m := 6) (by decide) (by decide) ⟨_, _, rfl, by omega, Nat.lt_of_lt_of_le (show (1 + g).natAbs < 2 ^ 14 by omega) (Nat.pow_le_pow_right (by decide) (by decide)), ?_⟩
  obtain ⟨qd1, _⟩ := di_in (a := e - 60) (b := 1 + g) (by omega)
  have bq : Bd 6 (Rat.divInt (e - 60) (1 + g)) := bd_div (by omega) (by omega) (by omega)
  have qd : (Rat.divInt (e - 60) (1 + g)).den ≤ 61 := by omega
  generalize Rat.divInt (e - 60) (1 + g) = q at bq qd
  have f : LF L R p q := ⟨fun s hs => (hL s hs).1, fun s hs => (hL s hs).2.1, fun s hs => (hL s hs).2.2, nL, c1, c2, c3, bp, bq, p0⟩
  simp only [List.set]
  rw [wS1]
  simp only [wS, wE, wEs]
  simp only [r_getV0, r_getVs]
  refine tc (m := 6) (by decide) (by decide) ⟨R, p, q, rfl, by have := f.nR; omega, fun s hs => ⟨(f.bR s hs).1.mono (by decide), (f.bR s hs).2.mono (by decide)⟩, bp.mono (by decide), bq.mono (by decide), p0, ?_⟩
  simp only [List.set]
  exact law_A2 f pd qd ht fun o10 o11 => law_A3 f pd qd fun o12 o13 o14 o15 => hE _ _ _ _ _ _ _ _ _ _ _ _ _ (w8.mono (by omega))
def law_spec : DSpec := fun ds μ Q => ∃ ns : List Int, ds = [.scr (ns.map .int)] ∧ ns.length ≤ 63 ∧ ∀ μ', Q (.bl true) μ'
theorem law_len : ∀ ds μ Q, law_spec ds μ Q → ds.length = d_law.ps.length := by
  rintro ds μ Q ⟨ns, rfl, _⟩
  rfl
theorem law_told (ns : List Int) (hl : ns.length ≤ 63) (hb : ∀ z ∈ ns, Builtin.Int.intBits z ≤ 1048576) : law_spec [.scr (ns.map .int)] [] fun d _ => d = .bl true := ⟨ns, rfl, hl, fun _ => rfl⟩
theorem law_body : ∀ ds μ Q, law_spec ds μ Q → wDef (T LV) d_law.N.length d_law.ir ds μ Q := by
  rintro ds μ Q ⟨ns, rfl, hl, hq⟩
  show wDef (T LV) 17 ir_law [.scr (ns.map .int)] μ Q
  simp only [wDef, ir_law]
  rw [show startD 17 [D.scr (ns.map .int)] = [some (.scr (ns.map .int)), none, none, none, none, none, none, none, none, none, none, none, none, none, none, none, none] from rfl, wS1]
  simp only [wS, wI, wE, wEs, r_getV0, r_getVs, r_len, r_lenS, r_min, r_max, List.length_map]
  obtain ⟨N, hN, hN3⟩ : ∃ N : Int, (if (if (ns.length : Int) < 3 then (ns.length : Int) else 3) > 1 then (if (ns.length : Int) < 3 then (ns.length : Int) else 3) else 1) = N ∧ (0 ≤ N ∧ N ≤ 3) := ⟨_, rfl, by split <;> split <;> omega⟩
  rw [hN]
  refine ⟨⟨by omega, by omega⟩, fun i ρ μ' => ∃ o1 o2 o3 o4 o5 o6 o7 o8 o9 o10 o11 o12 o13 o14 o15 o16, ρ = [some (.scr (ns.map .int)), o1, o2, o3, o4, o5, o6, o7, o8, o9, o10, o11, o12, o13, o14, o15, o16], ⟨_, _, _, _, _, _, _, _, _, _, _, _, _, _, _, _, rfl⟩, fun _ _ _ _ _ _ _ h => (by cases h), ?_, ?_⟩
  · rintro i x ρ μ0 hx ⟨o1, o2, o3, o4, o5, o6, o7, o8, o9, o10, o11, o12, o13, o14, o15, o16, rfl⟩
    obtain ⟨hi, rfl⟩ := r_rangeD hx
    refine ⟨_, rfl, ?_⟩
    simp only [List.set]
    rw [wS1]
    simp only [wS, wE, wEs, r_getV0, r_getVs]
    refine tc (m := 6) (by decide) (by decide) ⟨ns, _, rfl, hl, by omega, fun μ1 w1 => ?_⟩
    generalize hn : μ0.length = n at w1 ⊢
    simp only [List.set]
    rw [wS1]
    simp only [wS, wI, wE, wEs]
    refine ⟨⟨by decide, by decide⟩, ?_⟩
    refine ⟨fun j ρ μ' => WellOk n (400 * j) μ' ∧ ∃ o3 o4 o5 o6 o7 o8 o9 o10 o11 o12 o13 o14 o15 o16, ρ = [some (.scr (ns.map .int)), some (.int (0 + (i : Int))), some (.cel n), o3, o4, o5, o6, o7, o8, o9, o10, o11, o12, o13, o14, o15, o16], ⟨w1, _, _, _, _, _, _, _, _, _, _, _, _, _, _, rfl⟩, fun _ _ _ _ _ _ _ h => (by cases h), ?_, ?_⟩
    · rintro j x ρ μ2 hx ⟨w2, o3, o4, o5, o6, o7, o8, o9, o10, o11, o12, o13, o14, o15, o16, rfl⟩
      obtain ⟨hj, rfl⟩ := r_rangeD hx
      have hj : j < 3 := hj
      refine ⟨_, rfl, ?_⟩
      simp only [List.set]
      exact law_A w2 (by omega) (by omega) (by omega) fun o4 o5 o6 o7 o8 o9 o10 o11 o12 o13 o14 o15 μ' w => ⟨w.ok.mono (by omega), _, _, _, _, _, _, _, _, _, _, _, _, _, _, rfl⟩
    · rintro ρ μ2 ⟨w2, o3, o4, o5, o6, o7, o8, o9, o10, o11, o12, o13, o14, o15, o16, rfl⟩
      have w2 : WellOk n (400 * 3) μ2 := w2
      rw [wS1]
      simp only [wS, wI, wE, wEs]
      refine ⟨⟨by decide, by decide⟩, ?_⟩
      refine ⟨fun j ρ μ' => WellOk n (1200 + 40 * j) μ' ∧ ∃ o3 o4 o5 o6 o7 o8 o9 o10 o11 o12 o13 o14 o15 o16, ρ = [some (.scr (ns.map .int)), some (.int (0 + (i : Int))), some (.cel n), o3, o4, o5, o6, o7, o8, o9, o10, o11, o12, o13, o14, o15, o16], ⟨w2, _, _, _, _, _, _, _, _, _, _, _, _, _, _, rfl⟩, fun _ _ _ _ _ _ _ h => (by cases h), ?_, ?_⟩
      · rintro j x ρ μ3 hx ⟨w3, o3, o4, o5, o6, o7, o8, o9, o10, o11, o12, o13, o14, o15, o16, rfl⟩
        obtain ⟨hj, rfl⟩ := r_rangeD hx
        have hj : j < 8 := hj
        refine ⟨_, rfl, ?_⟩
        simp only [List.set]
        exact law_B w3 (by omega) (by omega) fun o9 o13 μ' w => ⟨w.ok.mono (by omega), _, _, _, _, _, _, _, _, _, _, _, _, _, _, rfl⟩
      · rintro ρ μ3 ⟨w3, o3, o4, o5, o6, o7, o8, o9, o10, o11, o12, o13, o14, o15, o16, rfl⟩
        rw [wS0]
        exact ⟨_, _, _, _, _, _, _, _, _, _, _, _, _, _, _, _, rfl⟩
  · rintro ρ μ' ⟨o1, o2, o3, o4, o5, o6, o7, o8, o9, o10, o11, o12, o13, o14, o15, o16, rfl⟩
    rw [wS1]
    simp only [wS, wE]
    exact rt_here (hq _)
end
end K30


set_option Elab.async false
set_option linter.all false
set_option maxRecDepth 100000
namespace K30
open PySem L2 Rf
theorem T_body : ∀ k i d ds μ Q, Ds[i]? = some d → T (k + 1) i ds μ Q → wDef (T k) d.N.length d.ir ds μ Q := by
  intro k i d ds μ Q hd h
  obtain ⟨hl, h⟩ := h
  match i, hd, hl, h with
  | 0, hd, hl, h =>
    cases hd
    simp only [lv] at hl
    obtain ⟨d, rfl, h, hq⟩ := h
    exact b_is_integer h hq
  | 1, hd, hl, h =>
    cases hd
    simp only [lv] at hl
    obtain ⟨d, m, rfl, h, hq⟩ := h
    exact b_is_below (by omega) h hq
  | 2, hd, hl, h =>
    cases hd
    simp only [lv] at hl
    obtain ⟨t, b, rfl, h1, h2, hq⟩ := h
    exact b_made h1 h2 hq
  | 3, hd, hl, h =>
    cases hd
    simp only [lv] at hl
    obtain ⟨x, y, rfl, h1, h2, hq⟩ := h
    exact b_plus (by omega) h1 h2 hq
  | 4, hd, hl, h =>
    cases hd
    simp only [lv] at hl
    obtain ⟨x, y, rfl, h1, h2, hq⟩ := h
    exact b_minus (by omega) h1 h2 hq
  | 5, hd, hl, h =>
    cases hd
    simp only [lv] at hl
    obtain ⟨x, rfl, h1, hq⟩ := h
    exact b_whole_of h1 hq
  | 6, hd, hl, h =>
    cases hd
    simp only [lv] at hl
    obtain ⟨d, rfl, h, hq⟩ := h
    exact b_is_fraction (by omega) h hq
  | 7, hd, hl, h =>
    cases hd
    simp only [lv] at hl
    obtain ⟨x, rfl, hq⟩ := h
    exact b_check_fraction (by omega) hq
  | 8, hd, hl, h =>
    cases hd
    simp only [lv] at hl
    obtain ⟨x, f, rfl, h, hq⟩ := h
    exact b_first_whole (by omega) h hq
  | 9, hd, hl, h =>
    cases hd
    simp only [lv] at hl
    obtain ⟨x, f, rfl, h, hq⟩ := h
    exact b_last_whole (by omega) h hq
  | 10, hd, hl, h =>
    cases hd
    simp only [lv] at hl
    obtain ⟨p, rfl, h, h1, h2, hq⟩ := h
    exact b_simplest_within (by omega) h h1 h2 hq
  | 11, hd, hl, h =>
    cases hd
    simp only [lv] at hl
    obtain ⟨p, rfl, h, h1, h2, hq⟩ := h
    exact b_is_span (by omega) h h1 h2 hq
  | 12, hd, hl, h =>
    cases hd
    simp only [lv] at hl
    obtain ⟨L, S, rfl, hS, hq⟩ := h
    exact b_scale_of hS hq
  | 13, hd, hl, h =>
    cases hd
    simp only [lv] at hl
    obtain ⟨L, S, s, rfl, hS, p0, p1, p2, hq⟩ := h
    exact b_cuts_of hS p0 p1 p2 hq
  | 14, hd, hl, h =>
    cases hd
    simp only [lv] at hl
    obtain ⟨r, s, rfl, p0, sb, ho, hl', hq⟩ := h
    exact b_spans_from (by omega) p0 sb ho hl' hq
  | 15, hd, hl, h =>
    cases hd
    simp only [lv] at hl
    obtain ⟨a, b, f, x, g, rfl, hg, ha, hb, hl', hq⟩ := h
    exact b_swept (by omega) hg ha hb hl' hq
  | 16, hd, hl, h =>
    cases hd
    simp only [lv] at hl
    obtain ⟨a, b, rfl, hq⟩ := h
    exact b_in_either hq
  | 17, hd, hl, h =>
    cases hd
    simp only [lv] at hl
    obtain ⟨L, S, rfl, hS, hc, hq⟩ := h
    exact b_is_spans (by omega) hS hc hq
  | 18, hd, hl, h =>
    cases hd
    simp only [lv] at hl
    obtain ⟨L, S, rfl, hS, hc, hq⟩ := h
    exact b_check_spans (by omega) hS hc hq
  | 19, hd, hl, h =>
    cases hd
    simp only [lv] at hl
    obtain ⟨L, M, S, f, x, g, rfl, hg, hL, hM, cL, cM, hq⟩ := h
    exact b_joined (by omega) hg hL hM cL cM hq
  | 20, hd, hl, h =>
    cases hd
    simp only [lv] at hl
    obtain ⟨L, S, rfl, hS, ho, hl', hq⟩ := h
    exact b_melted (by omega) hS ho hl' hq
  | 21, hd, hl, h =>
    cases hd
    simp only [lv] at hl
    obtain ⟨L, S, x, rfl, hS, hx, bx, hq⟩ := h
    exact b_has_in (by omega) hS hx bx hq
  | 22, hd, hl, h =>
    cases hd
    simp only [lv] at hl
    obtain ⟨x, p, q, rfl, h1, h2, h3, hq⟩ := h
    exact b_number_scaled (by omega) h1 h2 h3 hq
  | 23, hd, hl, h =>
    cases hd
    simp only [lv] at hl
    obtain ⟨s, p, q, rfl, h1, h2, h3, h4, hq⟩ := h
    exact b_span_scaled (by omega) h1 h2 h3 h4 hq
  | 24, hd, hl, h =>
    cases hd
    simp only [lv] at hl
    obtain ⟨L, m, rfl, hb, hl', hm, hq⟩ := h
    exact b_long_of (by omega) hb hl' hm hq
  | 25, hd, hl, h =>
    cases hd
    simp only [lv] at hl
    obtain ⟨x, rfl, hx, hq⟩ := h
    exact b_check_factor (by omega) hx hq
  | 26, hd, hl, h =>
    cases hd
    simp only [lv] at hl
    obtain ⟨L, S, rfl, hS, ho, hl', hq⟩ := h
    exact b_spans_of (by omega) hS ho hl' hq
  | 27, hd, hl, h =>
    cases hd
    simp only [lv] at hl
    obtain ⟨L, S, x, rfl, hS, hc, hx, bx, hq⟩ := h
    exact b_contains (by omega) hS hc hx bx hq
  | 28, hd, hl, h =>
    cases hd
    simp only [lv] at hl
    obtain ⟨L, S, p, q, rfl, hS, hc, hp, hq', h0, hq⟩ := h
    exact b_scaled (by omega) hS hc hp hq' h0 hq
  | 29, hd, hl, h =>
    cases hd
    simp only [lv] at hl
    obtain ⟨L, S, m, rfl, hS, hc, hb, hl', hm, hq⟩ := h
    exact b_length_of (by omega) hS hc hb hl' hm hq
  | 30, hd, hl, h =>
    cases hd
    simp only [lv] at hl
    obtain ⟨p, rfl, h, h1, h2, hq⟩ := h
    exact b_simplest_in (by omega) h h1 h2 hq
  | 31, hd, hl, h =>
    cases hd
    simp only [lv] at hl
    obtain ⟨ns, place, rfl, h1, h2, hq⟩ := h
    exact b__law_begin h1 h2 hq
  | 32, hd, hl, h =>
    cases hd
    simp only [lv] at hl
    obtain ⟨n, b, many, rfl, h1, h2, h3, h4, hq⟩ := h
    exact b__law_pick h1 h2 h3 h4 hq
  | 33, hd, hl, h =>
    cases hd
    simp only [lv] at hl
    obtain ⟨d, rfl, h1, hq⟩ := h
    exact b__law_same h1 (fun x hx P hP => tc (m := 1) (by cases k with | zero => exact hx.elim | succ k => omega) (by decide) ⟨x, rfl, hx, hP⟩) hq
  | 34, hd, hl, h =>
    cases hd
    simp only [lv] at hl
    obtain ⟨t, b, rfl, h1, h2, hq⟩ := h
    exact b__law_frac h1 h2 hq
  | 35, hd, hl, h =>
    cases hd
    simp only [lv] at hl
    obtain ⟨x, y, rfl, h1, h2, hq⟩ := h
    exact b__law_less h1 h2 hq
  | 36, hd, hl, h =>
    cases hd
    simp only [lv] at hl
    obtain ⟨xs, S, rfl, s0, s1, s2, hl', hq⟩ := h
    exact b__law_scale (by omega) s0 s1 s2 hl' hq
  | 37, hd, hl, h =>
    cases hd
    simp only [lv] at hl
    obtain ⟨L, x, hd | hd, h1, h2, hq⟩ := h
    · subst hd; exact b__law_within (by omega) (.inl rfl) h1 h2 hq
    · subst hd; exact b__law_within (by omega) (.inr rfl) h1 h2 hq
  | 38, hd, hl, h =>
    cases hd
    simp only [lv] at hl
    obtain ⟨L, S, rfl, hS, hq⟩ := h
    exact b__law_places (by omega) hS hq
  | 39, hd, hl, h =>
    cases hd
    simp only [lv] at hl
    obtain ⟨s, ms, i, rfl, p0, sb, hi, hq⟩ := h
    exact b__law_cell (by omega) p0 sb hi hq
  | 40, hd, hl, h =>
    cases hd
    simp only [lv] at hl
    obtain ⟨s, ms, marks, rfl, p0, sb, hm, hml, hq⟩ := h
    exact b__law_listed (by omega) p0 sb hm hml hq
  | 41, hd, hl, h =>
    cases hd
    simp only [lv] at hl
    obtain ⟨n, b, way, rfl, h1, h2, h3, h4, hq⟩ := h
    exact b__law_end (by omega) h1 h2 h3 h4 hq
  | 42, hd, hl, h =>
    cases hd
    simp only [lv] at hl
    obtain ⟨n, b, way, rfl, h1, h2, h3, h4, hq⟩ := h
    exact b__law_span (by omega) h1 h2 h3 h4 hq
  | 43, hd, hl, h =>
    cases hd
    simp only [lv] at hl
    obtain ⟨L, S, rfl, hS, sb, ho, hl', hq⟩ := h
    exact b__law_due (by omega) hS sb ho hl' hq
  | 44, hd, hl, h =>
    cases hd
    simp only [lv] at hl
    obtain ⟨x, p, q, rfl, h1, h2, h3, hq⟩ := h
    exact b__law_scaled (by omega) h1 h2 h3 hq
  | 45, hd, hl, h =>
    cases hd
    simp only [lv] at hl
    obtain ⟨L, p, q, rfl, h1, h2, h3, h4, h5, hq⟩ := h
    exact b__law_scaled_list (by omega) h1 h2 h3 h4 h5 hq
  | 46, hd, hl, h =>
    cases hd
    simp only [lv] at hl
    obtain ⟨p, rfl, h, h1, h2, h3, hq⟩ := h
    exact b__law_simplest h h1 h2 h3 hq
  | 47, hd, hl, h =>
    cases hd
    simp only [lv] at hl
    obtain ⟨n, b, rfl, h1, h2, hq⟩ := h
    exact b__law_narrow (by omega) h1 h2 hq
  | 48, hd, hl, h =>
    cases hd
    simp only [lv] at hl
    obtain ⟨n, b, rfl, h1, h2, hq⟩ := h
    exact b__law_wide (by omega) h1 h2 hq
  | i + 49, hd, _, _ => simp [Ds] at hd
theorem T_len : ∀ k i d ds μ Q, Ds[i]? = some d → T k i ds μ Q → ds.length = d.ps.length := by
  intro k i d ds μ Q hd h
  obtain ⟨hl, h⟩ := h
  match i, hd, h with
  | 0, hd, h =>
    cases hd
    obtain ⟨d, rfl, h, hq⟩ := h
    rfl
  | 1, hd, h =>
    cases hd
    obtain ⟨d, m, rfl, h, hq⟩ := h
    rfl
  | 2, hd, h =>
    cases hd
    obtain ⟨t, b, rfl, h1, h2, hq⟩ := h
    rfl
  | 3, hd, h =>
    cases hd
    obtain ⟨x, y, rfl, h1, h2, hq⟩ := h
    rfl
  | 4, hd, h =>
    cases hd
    obtain ⟨x, y, rfl, h1, h2, hq⟩ := h
    rfl
  | 5, hd, h =>
    cases hd
    obtain ⟨x, rfl, h1, hq⟩ := h
    rfl
  | 6, hd, h =>
    cases hd
    obtain ⟨d, rfl, h, hq⟩ := h
    rfl
  | 7, hd, h =>
    cases hd
    obtain ⟨x, rfl, hq⟩ := h
    rfl
  | 8, hd, h =>
    cases hd
    obtain ⟨x, f, rfl, h, hq⟩ := h
    rfl
  | 9, hd, h =>
    cases hd
    obtain ⟨x, f, rfl, h, hq⟩ := h
    rfl
  | 10, hd, h =>
    cases hd
    obtain ⟨p, rfl, h, h1, h2, hq⟩ := h
    rfl
  | 11, hd, h =>
    cases hd
    obtain ⟨p, rfl, h, h1, h2, hq⟩ := h
    rfl
  | 12, hd, h =>
    cases hd
    obtain ⟨L, S, rfl, hS, hq⟩ := h
    rfl
  | 13, hd, h =>
    cases hd
    obtain ⟨L, S, s, rfl, hS, p0, p1, p2, hq⟩ := h
    rfl
  | 14, hd, h =>
    cases hd
    obtain ⟨r, s, rfl, p0, sb, ho, hl', hq⟩ := h
    rfl
  | 15, hd, h =>
    cases hd
    obtain ⟨a, b, f, x, g, rfl, hg, ha, hb, hl', hq⟩ := h
    rfl
  | 16, hd, h =>
    cases hd
    obtain ⟨a, b, rfl, hq⟩ := h
    rfl
  | 17, hd, h =>
    cases hd
    obtain ⟨L, S, rfl, hS, hc, hq⟩ := h
    rfl
  | 18, hd, h =>
    cases hd
    obtain ⟨L, S, rfl, hS, hc, hq⟩ := h
    rfl
  | 19, hd, h =>
    cases hd
    obtain ⟨L, M, S, f, x, g, rfl, hg, hL, hM, cL, cM, hq⟩ := h
    rfl
  | 20, hd, h =>
    cases hd
    obtain ⟨L, S, rfl, hS, ho, hl', hq⟩ := h
    rfl
  | 21, hd, h =>
    cases hd
    obtain ⟨L, S, x, rfl, hS, hx, bx, hq⟩ := h
    rfl
  | 22, hd, h =>
    cases hd
    obtain ⟨x, p, q, rfl, h1, h2, h3, hq⟩ := h
    rfl
  | 23, hd, h =>
    cases hd
    obtain ⟨s, p, q, rfl, h1, h2, h3, h4, hq⟩ := h
    rfl
  | 24, hd, h =>
    cases hd
    obtain ⟨L, m, rfl, hb, hl', hm, hq⟩ := h
    rfl
  | 25, hd, h =>
    cases hd
    obtain ⟨x, rfl, hx, hq⟩ := h
    rfl
  | 26, hd, h =>
    cases hd
    obtain ⟨L, S, rfl, hS, ho, hl', hq⟩ := h
    rfl
  | 27, hd, h =>
    cases hd
    obtain ⟨L, S, x, rfl, hS, hc, hx, bx, hq⟩ := h
    rfl
  | 28, hd, h =>
    cases hd
    obtain ⟨L, S, p, q, rfl, hS, hc, hp, hq', h0, hq⟩ := h
    rfl
  | 29, hd, h =>
    cases hd
    obtain ⟨L, S, m, rfl, hS, hc, hb, hl', hm, hq⟩ := h
    rfl
  | 30, hd, h =>
    cases hd
    obtain ⟨p, rfl, h, h1, h2, hq⟩ := h
    rfl
  | 31, hd, h =>
    cases hd
    obtain ⟨ns, place, rfl, h1, h2, hq⟩ := h
    rfl
  | 32, hd, h =>
    cases hd
    obtain ⟨n, b, many, rfl, h1, h2, h3, h4, hq⟩ := h
    rfl
  | 33, hd, h =>
    cases hd
    obtain ⟨d, rfl, h1, hq⟩ := h
    rfl
  | 34, hd, h =>
    cases hd
    obtain ⟨t, b, rfl, h1, h2, hq⟩ := h
    rfl
  | 35, hd, h =>
    cases hd
    obtain ⟨x, y, rfl, h1, h2, hq⟩ := h
    rfl
  | 36, hd, h =>
    cases hd
    obtain ⟨xs, S, rfl, s0, s1, s2, hl', hq⟩ := h
    rfl
  | 37, hd, h =>
    cases hd
    obtain ⟨L, x, hd | hd, h1, h2, hq⟩ := h
    · subst hd; rfl
    · subst hd; rfl
  | 38, hd, h =>
    cases hd
    obtain ⟨L, S, rfl, hS, hq⟩ := h
    rfl
  | 39, hd, h =>
    cases hd
    obtain ⟨s, ms, i, rfl, p0, sb, hi, hq⟩ := h
    rfl
  | 40, hd, h =>
    cases hd
    obtain ⟨s, ms, marks, rfl, p0, sb, hm, hml, hq⟩ := h
    rfl
  | 41, hd, h =>
    cases hd
    obtain ⟨n, b, way, rfl, h1, h2, h3, h4, hq⟩ := h
    rfl
  | 42, hd, h =>
    cases hd
    obtain ⟨n, b, way, rfl, h1, h2, h3, h4, hq⟩ := h
    rfl
  | 43, hd, h =>
    cases hd
    obtain ⟨L, S, rfl, hS, sb, ho, hl', hq⟩ := h
    rfl
  | 44, hd, h =>
    cases hd
    obtain ⟨x, p, q, rfl, h1, h2, h3, hq⟩ := h
    rfl
  | 45, hd, h =>
    cases hd
    obtain ⟨L, p, q, rfl, h1, h2, h3, h4, h5, hq⟩ := h
    rfl
  | 46, hd, h =>
    cases hd
    obtain ⟨p, rfl, h, h1, h2, h3, hq⟩ := h
    rfl
  | 47, hd, h =>
    cases hd
    obtain ⟨n, b, rfl, h1, h2, hq⟩ := h
    rfl
  | 48, hd, h =>
    cases hd
    obtain ⟨n, b, rfl, h1, h2, hq⟩ := h
    rfl
  | i + 49, hd, _ => simp [Ds] at hd
end K30


namespace K30
open PySem L2 Rf
set_option maxHeartbeats 0 in
theorem all_mk {l : PySem.W.OpenLaw} {w : World} {K : PySem.W.Frag} {h : Heap} {mg : Str → Option Value} {fa : Addr} (X : K.In h) (G : h.Ns mainGlobals mg) (hfa : mg "law" = some (.ref fa))
    {f0 : Addr} {od0 an0 : Option Addr} {sl0 : Array (Option Value)} {oc0 kV0 dc0 pm0 cd0 ct0 : Value}
    {f1 : Addr} {od1 an1 : Option Addr} {sl1 : Array (Option Value)} {oc1 kV1 dc1 pm1 cd1 ct1 : Value}
    {f2 : Addr} {od2 an2 : Option Addr} {sl2 : Array (Option Value)} {oc2 kV2 dc2 pm2 cd2 ct2 : Value}
    {f3 : Addr} {od3 an3 : Option Addr} {sl3 : Array (Option Value)} {oc3 kV3 dc3 pm3 cd3 ct3 : Value}
    {f4 : Addr} {od4 an4 : Option Addr} {sl4 : Array (Option Value)} {oc4 kV4 dc4 pm4 cd4 ct4 : Value}
    {f5 : Addr} {od5 an5 : Option Addr} {sl5 : Array (Option Value)} {oc5 kV5 dc5 pm5 cd5 ct5 : Value}
    {f6 : Addr} {od6 an6 : Option Addr} {sl6 : Array (Option Value)} {oc6 kV6 dc6 pm6 cd6 ct6 : Value}
    {f7 : Addr} {od7 an7 : Option Addr} {sl7 : Array (Option Value)} {oc7 kV7 dc7 pm7 cd7 ct7 : Value}
    {f8 : Addr} {od8 an8 : Option Addr} {sl8 : Array (Option Value)} {oc8 kV8 dc8 pm8 cd8 ct8 : Value}
    {f9 : Addr} {od9 an9 : Option Addr} {sl9 : Array (Option Value)} {oc9 kV9 dc9 pm9 cd9 ct9 : Value}
    {f10 : Addr} {od10 an10 : Option Addr} {sl10 : Array (Option Value)} {oc10 kV10 dc10 pm10 cd10 ct10 : Value}
    {f11 : Addr} {od11 an11 : Option Addr} {sl11 : Array (Option Value)} {oc11 kV11 dc11 pm11 cd11 ct11 : Value}
    {f12 : Addr} {od12 an12 : Option Addr} {sl12 : Array (Option Value)} {oc12 kV12 dc12 pm12 cd12 ct12 : Value}
    {f13 : Addr} {od13 an13 : Option Addr} {sl13 : Array (Option Value)} {oc13 kV13 dc13 pm13 cd13 ct13 : Value}
    {f14 : Addr} {od14 an14 : Option Addr} {sl14 : Array (Option Value)} {oc14 kV14 dc14 pm14 cd14 ct14 : Value}
    {f15 : Addr} {od15 an15 : Option Addr} {sl15 : Array (Option Value)} {oc15 kV15 dc15 pm15 cd15 ct15 : Value}
    {f16 : Addr} {od16 an16 : Option Addr} {sl16 : Array (Option Value)} {oc16 kV16 dc16 pm16 cd16 ct16 : Value}
    {f17 : Addr} {od17 an17 : Option Addr} {sl17 : Array (Option Value)} {oc17 kV17 dc17 pm17 cd17 ct17 : Value}
    {f18 : Addr} {od18 an18 : Option Addr} {sl18 : Array (Option Value)} {oc18 kV18 dc18 pm18 cd18 ct18 : Value}
    {f19 : Addr} {od19 an19 : Option Addr} {sl19 : Array (Option Value)} {oc19 kV19 dc19 pm19 cd19 ct19 : Value}
    {f20 : Addr} {od20 an20 : Option Addr} {sl20 : Array (Option Value)} {oc20 kV20 dc20 pm20 cd20 ct20 : Value}
    {f21 : Addr} {od21 an21 : Option Addr} {sl21 : Array (Option Value)} {oc21 kV21 dc21 pm21 cd21 ct21 : Value}
    {f22 : Addr} {od22 an22 : Option Addr} {sl22 : Array (Option Value)} {oc22 kV22 dc22 pm22 cd22 ct22 : Value}
    {f23 : Addr} {od23 an23 : Option Addr} {sl23 : Array (Option Value)} {oc23 kV23 dc23 pm23 cd23 ct23 : Value}
    {f24 : Addr} {od24 an24 : Option Addr} {sl24 : Array (Option Value)} {oc24 kV24 dc24 pm24 cd24 ct24 : Value}
    {f25 : Addr} {od25 an25 : Option Addr} {sl25 : Array (Option Value)} {oc25 kV25 dc25 pm25 cd25 ct25 : Value}
    {f26 : Addr} {od26 an26 : Option Addr} {sl26 : Array (Option Value)} {oc26 kV26 dc26 pm26 cd26 ct26 : Value}
    {f27 : Addr} {od27 an27 : Option Addr} {sl27 : Array (Option Value)} {oc27 kV27 dc27 pm27 cd27 ct27 : Value}
    {f28 : Addr} {od28 an28 : Option Addr} {sl28 : Array (Option Value)} {oc28 kV28 dc28 pm28 cd28 ct28 : Value}
    {f29 : Addr} {od29 an29 : Option Addr} {sl29 : Array (Option Value)} {oc29 kV29 dc29 pm29 cd29 ct29 : Value}
    {f30 : Addr} {od30 an30 : Option Addr} {sl30 : Array (Option Value)} {oc30 kV30 dc30 pm30 cd30 ct30 : Value}
    {f31 : Addr} {od31 an31 : Option Addr} {sl31 : Array (Option Value)} {oc31 kV31 dc31 pm31 cd31 ct31 : Value}
    {f32 : Addr} {od32 an32 : Option Addr} {sl32 : Array (Option Value)} {oc32 kV32 dc32 pm32 cd32 ct32 : Value}
    {f33 : Addr} {od33 an33 : Option Addr} {sl33 : Array (Option Value)} {oc33 kV33 dc33 pm33 cd33 ct33 : Value}
    {f34 : Addr} {od34 an34 : Option Addr} {sl34 : Array (Option Value)} {oc34 kV34 dc34 pm34 cd34 ct34 : Value}
    {f35 : Addr} {od35 an35 : Option Addr} {sl35 : Array (Option Value)} {oc35 kV35 dc35 pm35 cd35 ct35 : Value}
    {f36 : Addr} {od36 an36 : Option Addr} {sl36 : Array (Option Value)} {oc36 kV36 dc36 pm36 cd36 ct36 : Value}
    {f37 : Addr} {od37 an37 : Option Addr} {sl37 : Array (Option Value)} {oc37 kV37 dc37 pm37 cd37 ct37 : Value}
    {f38 : Addr} {od38 an38 : Option Addr} {sl38 : Array (Option Value)} {oc38 kV38 dc38 pm38 cd38 ct38 : Value}
    {f39 : Addr} {od39 an39 : Option Addr} {sl39 : Array (Option Value)} {oc39 kV39 dc39 pm39 cd39 ct39 : Value}
    {f40 : Addr} {od40 an40 : Option Addr} {sl40 : Array (Option Value)} {oc40 kV40 dc40 pm40 cd40 ct40 : Value}
    {f41 : Addr} {od41 an41 : Option Addr} {sl41 : Array (Option Value)} {oc41 kV41 dc41 pm41 cd41 ct41 : Value}
    {f42 : Addr} {od42 an42 : Option Addr} {sl42 : Array (Option Value)} {oc42 kV42 dc42 pm42 cd42 ct42 : Value}
    {f43 : Addr} {od43 an43 : Option Addr} {sl43 : Array (Option Value)} {oc43 kV43 dc43 pm43 cd43 ct43 : Value}
    {f44 : Addr} {od44 an44 : Option Addr} {sl44 : Array (Option Value)} {oc44 kV44 dc44 pm44 cd44 ct44 : Value}
    {f45 : Addr} {od45 an45 : Option Addr} {sl45 : Array (Option Value)} {oc45 kV45 dc45 pm45 cd45 ct45 : Value}
    {f46 : Addr} {od46 an46 : Option Addr} {sl46 : Array (Option Value)} {oc46 kV46 dc46 pm46 cd46 ct46 : Value}
    {f47 : Addr} {od47 an47 : Option Addr} {sl47 : Array (Option Value)} {oc47 kV47 dc47 pm47 cd47 ct47 : Value}
    {f48 : Addr} {od48 an48 : Option Addr} {sl48 : Array (Option Value)} {oc48 kV48 dc48 pm48 cd48 ct48 : Value}
    {f49 : Addr} {od49 an49 : Option Addr} {sl49 : Array (Option Value)} {oc49 kV49 dc49 pm49 cd49 ct49 : Value}
    (a0 : PySem.W.nsIn K mainGlobals "is_integer" = some (some (.ref f0))) (l0 : K.lookup f0 = some ⟨oc0, od0, .func (PySem.W.fnOf "is_integer" "is_integer" (defArgs d_is_integer.st) (defBody d_is_integer.st) (defScope d_is_integer.st) .none kV0 dc0 pm0 an0 cd0 ct0), sl0⟩) (c0 : PySem.W.codeIn K cd0 "is_integer" = true) (k0 : PySem.W.keepIn K (.ref f0) = true)
    (a1 : PySem.W.nsIn K mainGlobals "is_below" = some (some (.ref f1))) (l1 : K.lookup f1 = some ⟨oc1, od1, .func (PySem.W.fnOf "is_below" "is_below" (defArgs d_is_below.st) (defBody d_is_below.st) (defScope d_is_below.st) .none kV1 dc1 pm1 an1 cd1 ct1), sl1⟩) (c1 : PySem.W.codeIn K cd1 "is_below" = true) (k1 : PySem.W.keepIn K (.ref f1) = true)
    (a2 : PySem.W.nsIn K mainGlobals "made" = some (some (.ref f2))) (l2 : K.lookup f2 = some ⟨oc2, od2, .func (PySem.W.fnOf "made" "made" (defArgs d_made.st) (defBody d_made.st) (defScope d_made.st) .none kV2 dc2 pm2 an2 cd2 ct2), sl2⟩) (c2 : PySem.W.codeIn K cd2 "made" = true) (k2 : PySem.W.keepIn K (.ref f2) = true)
    (a3 : PySem.W.nsIn K mainGlobals "plus" = some (some (.ref f3))) (l3 : K.lookup f3 = some ⟨oc3, od3, .func (PySem.W.fnOf "plus" "plus" (defArgs d_plus.st) (defBody d_plus.st) (defScope d_plus.st) .none kV3 dc3 pm3 an3 cd3 ct3), sl3⟩) (c3 : PySem.W.codeIn K cd3 "plus" = true) (k3 : PySem.W.keepIn K (.ref f3) = true)
    (a4 : PySem.W.nsIn K mainGlobals "minus" = some (some (.ref f4))) (l4 : K.lookup f4 = some ⟨oc4, od4, .func (PySem.W.fnOf "minus" "minus" (defArgs d_minus.st) (defBody d_minus.st) (defScope d_minus.st) .none kV4 dc4 pm4 an4 cd4 ct4), sl4⟩) (c4 : PySem.W.codeIn K cd4 "minus" = true) (k4 : PySem.W.keepIn K (.ref f4) = true)
    (a5 : PySem.W.nsIn K mainGlobals "whole_of" = some (some (.ref f5))) (l5 : K.lookup f5 = some ⟨oc5, od5, .func (PySem.W.fnOf "whole_of" "whole_of" (defArgs d_whole_of.st) (defBody d_whole_of.st) (defScope d_whole_of.st) .none kV5 dc5 pm5 an5 cd5 ct5), sl5⟩) (c5 : PySem.W.codeIn K cd5 "whole_of" = true) (k5 : PySem.W.keepIn K (.ref f5) = true)
    (a6 : PySem.W.nsIn K mainGlobals "is_fraction" = some (some (.ref f6))) (l6 : K.lookup f6 = some ⟨oc6, od6, .func (PySem.W.fnOf "is_fraction" "is_fraction" (defArgs d_is_fraction.st) (defBody d_is_fraction.st) (defScope d_is_fraction.st) .none kV6 dc6 pm6 an6 cd6 ct6), sl6⟩) (c6 : PySem.W.codeIn K cd6 "is_fraction" = true) (k6 : PySem.W.keepIn K (.ref f6) = true)
    (a7 : PySem.W.nsIn K mainGlobals "check_fraction" = some (some (.ref f7))) (l7 : K.lookup f7 = some ⟨oc7, od7, .func (PySem.W.fnOf "check_fraction" "check_fraction" (defArgs d_check_fraction.st) (defBody d_check_fraction.st) (defScope d_check_fraction.st) .none kV7 dc7 pm7 an7 cd7 ct7), sl7⟩) (c7 : PySem.W.codeIn K cd7 "check_fraction" = true) (k7 : PySem.W.keepIn K (.ref f7) = true)
    (a8 : PySem.W.nsIn K mainGlobals "first_whole" = some (some (.ref f8))) (l8 : K.lookup f8 = some ⟨oc8, od8, .func (PySem.W.fnOf "first_whole" "first_whole" (defArgs d_first_whole.st) (defBody d_first_whole.st) (defScope d_first_whole.st) .none kV8 dc8 pm8 an8 cd8 ct8), sl8⟩) (c8 : PySem.W.codeIn K cd8 "first_whole" = true) (k8 : PySem.W.keepIn K (.ref f8) = true)
    (a9 : PySem.W.nsIn K mainGlobals "last_whole" = some (some (.ref f9))) (l9 : K.lookup f9 = some ⟨oc9, od9, .func (PySem.W.fnOf "last_whole" "last_whole" (defArgs d_last_whole.st) (defBody d_last_whole.st) (defScope d_last_whole.st) .none kV9 dc9 pm9 an9 cd9 ct9), sl9⟩) (c9 : PySem.W.codeIn K cd9 "last_whole" = true) (k9 : PySem.W.keepIn K (.ref f9) = true)
    (a10 : PySem.W.nsIn K mainGlobals "simplest_within" = some (some (.ref f10))) (l10 : K.lookup f10 = some ⟨oc10, od10, .func (PySem.W.fnOf "simplest_within" "simplest_within" (defArgs d_simplest_within.st) (defBody d_simplest_within.st) (defScope d_simplest_within.st) .none kV10 dc10 pm10 an10 cd10 ct10), sl10⟩) (c10 : PySem.W.codeIn K cd10 "simplest_within" = true) (k10 : PySem.W.keepIn K (.ref f10) = true)
    (a11 : PySem.W.nsIn K mainGlobals "is_span" = some (some (.ref f11))) (l11 : K.lookup f11 = some ⟨oc11, od11, .func (PySem.W.fnOf "is_span" "is_span" (defArgs d_is_span.st) (defBody d_is_span.st) (defScope d_is_span.st) .none kV11 dc11 pm11 an11 cd11 ct11), sl11⟩) (c11 : PySem.W.codeIn K cd11 "is_span" = true) (k11 : PySem.W.keepIn K (.ref f11) = true)
    (a12 : PySem.W.nsIn K mainGlobals "scale_of" = some (some (.ref f12))) (l12 : K.lookup f12 = some ⟨oc12, od12, .func (PySem.W.fnOf "scale_of" "scale_of" (defArgs d_scale_of.st) (defBody d_scale_of.st) (defScope d_scale_of.st) .none kV12 dc12 pm12 an12 cd12 ct12), sl12⟩) (c12 : PySem.W.codeIn K cd12 "scale_of" = true) (k12 : PySem.W.keepIn K (.ref f12) = true)
    (a13 : PySem.W.nsIn K mainGlobals "cuts_of" = some (some (.ref f13))) (l13 : K.lookup f13 = some ⟨oc13, od13, .func (PySem.W.fnOf "cuts_of" "cuts_of" (defArgs d_cuts_of.st) (defBody d_cuts_of.st) (defScope d_cuts_of.st) .none kV13 dc13 pm13 an13 cd13 ct13), sl13⟩) (c13 : PySem.W.codeIn K cd13 "cuts_of" = true) (k13 : PySem.W.keepIn K (.ref f13) = true)
    (a14 : PySem.W.nsIn K mainGlobals "spans_from" = some (some (.ref f14))) (l14 : K.lookup f14 = some ⟨oc14, od14, .func (PySem.W.fnOf "spans_from" "spans_from" (defArgs d_spans_from.st) (defBody d_spans_from.st) (defScope d_spans_from.st) .none kV14 dc14 pm14 an14 cd14 ct14), sl14⟩) (c14 : PySem.W.codeIn K cd14 "spans_from" = true) (k14 : PySem.W.keepIn K (.ref f14) = true)
    (a15 : PySem.W.nsIn K mainGlobals "swept" = some (some (.ref f15))) (l15 : K.lookup f15 = some ⟨oc15, od15, .func (PySem.W.fnOf "swept" "swept" (defArgs d_swept.st) (defBody d_swept.st) (defScope d_swept.st) .none kV15 dc15 pm15 an15 cd15 ct15), sl15⟩) (c15 : PySem.W.codeIn K cd15 "swept" = true) (k15 : PySem.W.keepIn K (.ref f15) = true)
    (a16 : PySem.W.nsIn K mainGlobals "in_either" = some (some (.ref f16))) (l16 : K.lookup f16 = some ⟨oc16, od16, .func (PySem.W.fnOf "in_either" "in_either" (defArgs d_in_either.st) (defBody d_in_either.st) (defScope d_in_either.st) .none kV16 dc16 pm16 an16 cd16 ct16), sl16⟩) (c16 : PySem.W.codeIn K cd16 "in_either" = true) (k16 : PySem.W.keepIn K (.ref f16) = true)
    (a17 : PySem.W.nsIn K mainGlobals "is_spans" = some (some (.ref f17))) (l17 : K.lookup f17 = some ⟨oc17, od17, .func (PySem.W.fnOf "is_spans" "is_spans" (defArgs d_is_spans.st) (defBody d_is_spans.st) (defScope d_is_spans.st) .none kV17 dc17 pm17 an17 cd17 ct17), sl17⟩) (c17 : PySem.W.codeIn K cd17 "is_spans" = true) (k17 : PySem.W.keepIn K (.ref f17) = true)
    (a18 : PySem.W.nsIn K mainGlobals "check_spans" = some (some (.ref f18))) (l18 : K.lookup f18 = some ⟨oc18, od18, .func (PySem.W.fnOf "check_spans" "check_spans" (defArgs d_check_spans.st) (defBody d_check_spans.st) (defScope d_check_spans.st) .none kV18 dc18 pm18 an18 cd18 ct18), sl18⟩) (c18 : PySem.W.codeIn K cd18 "check_spans" = true) (k18 : PySem.W.keepIn K (.ref f18) = true)
    (a19 : PySem.W.nsIn K mainGlobals "joined" = some (some (.ref f19))) (l19 : K.lookup f19 = some ⟨oc19, od19, .func (PySem.W.fnOf "joined" "joined" (defArgs d_joined.st) (defBody d_joined.st) (defScope d_joined.st) .none kV19 dc19 pm19 an19 cd19 ct19), sl19⟩) (c19 : PySem.W.codeIn K cd19 "joined" = true) (k19 : PySem.W.keepIn K (.ref f19) = true)
    (a20 : PySem.W.nsIn K mainGlobals "melted" = some (some (.ref f20))) (l20 : K.lookup f20 = some ⟨oc20, od20, .func (PySem.W.fnOf "melted" "melted" (defArgs d_melted.st) (defBody d_melted.st) (defScope d_melted.st) .none kV20 dc20 pm20 an20 cd20 ct20), sl20⟩) (c20 : PySem.W.codeIn K cd20 "melted" = true) (k20 : PySem.W.keepIn K (.ref f20) = true)
    (a21 : PySem.W.nsIn K mainGlobals "has_in" = some (some (.ref f21))) (l21 : K.lookup f21 = some ⟨oc21, od21, .func (PySem.W.fnOf "has_in" "has_in" (defArgs d_has_in.st) (defBody d_has_in.st) (defScope d_has_in.st) .none kV21 dc21 pm21 an21 cd21 ct21), sl21⟩) (c21 : PySem.W.codeIn K cd21 "has_in" = true) (k21 : PySem.W.keepIn K (.ref f21) = true)
    (a22 : PySem.W.nsIn K mainGlobals "number_scaled" = some (some (.ref f22))) (l22 : K.lookup f22 = some ⟨oc22, od22, .func (PySem.W.fnOf "number_scaled" "number_scaled" (defArgs d_number_scaled.st) (defBody d_number_scaled.st) (defScope d_number_scaled.st) .none kV22 dc22 pm22 an22 cd22 ct22), sl22⟩) (c22 : PySem.W.codeIn K cd22 "number_scaled" = true) (k22 : PySem.W.keepIn K (.ref f22) = true)
    (a23 : PySem.W.nsIn K mainGlobals "span_scaled" = some (some (.ref f23))) (l23 : K.lookup f23 = some ⟨oc23, od23, .func (PySem.W.fnOf "span_scaled" "span_scaled" (defArgs d_span_scaled.st) (defBody d_span_scaled.st) (defScope d_span_scaled.st) .none kV23 dc23 pm23 an23 cd23 ct23), sl23⟩) (c23 : PySem.W.codeIn K cd23 "span_scaled" = true) (k23 : PySem.W.keepIn K (.ref f23) = true)
    (a24 : PySem.W.nsIn K mainGlobals "long_of" = some (some (.ref f24))) (l24 : K.lookup f24 = some ⟨oc24, od24, .func (PySem.W.fnOf "long_of" "long_of" (defArgs d_long_of.st) (defBody d_long_of.st) (defScope d_long_of.st) .none kV24 dc24 pm24 an24 cd24 ct24), sl24⟩) (c24 : PySem.W.codeIn K cd24 "long_of" = true) (k24 : PySem.W.keepIn K (.ref f24) = true)
    (a25 : PySem.W.nsIn K mainGlobals "check_factor" = some (some (.ref f25))) (l25 : K.lookup f25 = some ⟨oc25, od25, .func (PySem.W.fnOf "check_factor" "check_factor" (defArgs d_check_factor.st) (defBody d_check_factor.st) (defScope d_check_factor.st) .none kV25 dc25 pm25 an25 cd25 ct25), sl25⟩) (c25 : PySem.W.codeIn K cd25 "check_factor" = true) (k25 : PySem.W.keepIn K (.ref f25) = true)
    (a26 : PySem.W.nsIn K mainGlobals "spans_of" = some (some (.ref f26))) (l26 : K.lookup f26 = some ⟨oc26, od26, .func (PySem.W.fnOf "spans_of" "spans_of" (defArgs d_spans_of.st) (defBody d_spans_of.st) (defScope d_spans_of.st) .none kV26 dc26 pm26 an26 cd26 ct26), sl26⟩) (c26 : PySem.W.codeIn K cd26 "spans_of" = true) (k26 : PySem.W.keepIn K (.ref f26) = true)
    (a27 : PySem.W.nsIn K mainGlobals "contains" = some (some (.ref f27))) (l27 : K.lookup f27 = some ⟨oc27, od27, .func (PySem.W.fnOf "contains" "contains" (defArgs d_contains.st) (defBody d_contains.st) (defScope d_contains.st) .none kV27 dc27 pm27 an27 cd27 ct27), sl27⟩) (c27 : PySem.W.codeIn K cd27 "contains" = true) (k27 : PySem.W.keepIn K (.ref f27) = true)
    (a28 : PySem.W.nsIn K mainGlobals "scaled" = some (some (.ref f28))) (l28 : K.lookup f28 = some ⟨oc28, od28, .func (PySem.W.fnOf "scaled" "scaled" (defArgs d_scaled.st) (defBody d_scaled.st) (defScope d_scaled.st) .none kV28 dc28 pm28 an28 cd28 ct28), sl28⟩) (c28 : PySem.W.codeIn K cd28 "scaled" = true) (k28 : PySem.W.keepIn K (.ref f28) = true)
    (a29 : PySem.W.nsIn K mainGlobals "length_of" = some (some (.ref f29))) (l29 : K.lookup f29 = some ⟨oc29, od29, .func (PySem.W.fnOf "length_of" "length_of" (defArgs d_length_of.st) (defBody d_length_of.st) (defScope d_length_of.st) .none kV29 dc29 pm29 an29 cd29 ct29), sl29⟩) (c29 : PySem.W.codeIn K cd29 "length_of" = true) (k29 : PySem.W.keepIn K (.ref f29) = true)
    (a30 : PySem.W.nsIn K mainGlobals "simplest_in" = some (some (.ref f30))) (l30 : K.lookup f30 = some ⟨oc30, od30, .func (PySem.W.fnOf "simplest_in" "simplest_in" (defArgs d_simplest_in.st) (defBody d_simplest_in.st) (defScope d_simplest_in.st) .none kV30 dc30 pm30 an30 cd30 ct30), sl30⟩) (c30 : PySem.W.codeIn K cd30 "simplest_in" = true) (k30 : PySem.W.keepIn K (.ref f30) = true)
    (a31 : PySem.W.nsIn K mainGlobals "_law_begin" = some (some (.ref f31))) (l31 : K.lookup f31 = some ⟨oc31, od31, .func (PySem.W.fnOf "_law_begin" "_law_begin" (defArgs d__law_begin.st) (defBody d__law_begin.st) (defScope d__law_begin.st) .none kV31 dc31 pm31 an31 cd31 ct31), sl31⟩) (c31 : PySem.W.codeIn K cd31 "_law_begin" = true) (k31 : PySem.W.keepIn K (.ref f31) = true)
    (a32 : PySem.W.nsIn K mainGlobals "_law_pick" = some (some (.ref f32))) (l32 : K.lookup f32 = some ⟨oc32, od32, .func (PySem.W.fnOf "_law_pick" "_law_pick" (defArgs d__law_pick.st) (defBody d__law_pick.st) (defScope d__law_pick.st) .none kV32 dc32 pm32 an32 cd32 ct32), sl32⟩) (c32 : PySem.W.codeIn K cd32 "_law_pick" = true) (k32 : PySem.W.keepIn K (.ref f32) = true)
    (a33 : PySem.W.nsIn K mainGlobals "_law_same" = some (some (.ref f33))) (l33 : K.lookup f33 = some ⟨oc33, od33, .func (PySem.W.fnOf "_law_same" "_law_same" (defArgs d__law_same.st) (defBody d__law_same.st) (defScope d__law_same.st) .none kV33 dc33 pm33 an33 cd33 ct33), sl33⟩) (c33 : PySem.W.codeIn K cd33 "_law_same" = true) (k33 : PySem.W.keepIn K (.ref f33) = true)
    (a34 : PySem.W.nsIn K mainGlobals "_law_frac" = some (some (.ref f34))) (l34 : K.lookup f34 = some ⟨oc34, od34, .func (PySem.W.fnOf "_law_frac" "_law_frac" (defArgs d__law_frac.st) (defBody d__law_frac.st) (defScope d__law_frac.st) .none kV34 dc34 pm34 an34 cd34 ct34), sl34⟩) (c34 : PySem.W.codeIn K cd34 "_law_frac" = true) (k34 : PySem.W.keepIn K (.ref f34) = true)
    (a35 : PySem.W.nsIn K mainGlobals "_law_less" = some (some (.ref f35))) (l35 : K.lookup f35 = some ⟨oc35, od35, .func (PySem.W.fnOf "_law_less" "_law_less" (defArgs d__law_less.st) (defBody d__law_less.st) (defScope d__law_less.st) .none kV35 dc35 pm35 an35 cd35 ct35), sl35⟩) (c35 : PySem.W.codeIn K cd35 "_law_less" = true) (k35 : PySem.W.keepIn K (.ref f35) = true)
    (a36 : PySem.W.nsIn K mainGlobals "_law_scale" = some (some (.ref f36))) (l36 : K.lookup f36 = some ⟨oc36, od36, .func (PySem.W.fnOf "_law_scale" "_law_scale" (defArgs d__law_scale.st) (defBody d__law_scale.st) (defScope d__law_scale.st) .none kV36 dc36 pm36 an36 cd36 ct36), sl36⟩) (c36 : PySem.W.codeIn K cd36 "_law_scale" = true) (k36 : PySem.W.keepIn K (.ref f36) = true)
    (a37 : PySem.W.nsIn K mainGlobals "_law_within" = some (some (.ref f37))) (l37 : K.lookup f37 = some ⟨oc37, od37, .func (PySem.W.fnOf "_law_within" "_law_within" (defArgs d__law_within.st) (defBody d__law_within.st) (defScope d__law_within.st) .none kV37 dc37 pm37 an37 cd37 ct37), sl37⟩) (c37 : PySem.W.codeIn K cd37 "_law_within" = true) (k37 : PySem.W.keepIn K (.ref f37) = true)
    (a38 : PySem.W.nsIn K mainGlobals "_law_places" = some (some (.ref f38))) (l38 : K.lookup f38 = some ⟨oc38, od38, .func (PySem.W.fnOf "_law_places" "_law_places" (defArgs d__law_places.st) (defBody d__law_places.st) (defScope d__law_places.st) .none kV38 dc38 pm38 an38 cd38 ct38), sl38⟩) (c38 : PySem.W.codeIn K cd38 "_law_places" = true) (k38 : PySem.W.keepIn K (.ref f38) = true)
    (a39 : PySem.W.nsIn K mainGlobals "_law_cell" = some (some (.ref f39))) (l39 : K.lookup f39 = some ⟨oc39, od39, .func (PySem.W.fnOf "_law_cell" "_law_cell" (defArgs d__law_cell.st) (defBody d__law_cell.st) (defScope d__law_cell.st) .none kV39 dc39 pm39 an39 cd39 ct39), sl39⟩) (c39 : PySem.W.codeIn K cd39 "_law_cell" = true) (k39 : PySem.W.keepIn K (.ref f39) = true)
    (a40 : PySem.W.nsIn K mainGlobals "_law_listed" = some (some (.ref f40))) (l40 : K.lookup f40 = some ⟨oc40, od40, .func (PySem.W.fnOf "_law_listed" "_law_listed" (defArgs d__law_listed.st) (defBody d__law_listed.st) (defScope d__law_listed.st) .none kV40 dc40 pm40 an40 cd40 ct40), sl40⟩) (c40 : PySem.W.codeIn K cd40 "_law_listed" = true) (k40 : PySem.W.keepIn K (.ref f40) = true)
    (a41 : PySem.W.nsIn K mainGlobals "_law_end" = some (some (.ref f41))) (l41 : K.lookup f41 = some ⟨oc41, od41, .func (PySem.W.fnOf "_law_end" "_law_end" (defArgs d__law_end.st) (defBody d__law_end.st) (defScope d__law_end.st) .none kV41 dc41 pm41 an41 cd41 ct41), sl41⟩) (c41 : PySem.W.codeIn K cd41 "_law_end" = true) (k41 : PySem.W.keepIn K (.ref f41) = true)
    (a42 : PySem.W.nsIn K mainGlobals "_law_span" = some (some (.ref f42))) (l42 : K.lookup f42 = some ⟨oc42, od42, .func (PySem.W.fnOf "_law_span" "_law_span" (defArgs d__law_span.st) (defBody d__law_span.st) (defScope d__law_span.st) .none kV42 dc42 pm42 an42 cd42 ct42), sl42⟩) (c42 : PySem.W.codeIn K cd42 "_law_span" = true) (k42 : PySem.W.keepIn K (.ref f42) = true)
    (a43 : PySem.W.nsIn K mainGlobals "_law_due" = some (some (.ref f43))) (l43 : K.lookup f43 = some ⟨oc43, od43, .func (PySem.W.fnOf "_law_due" "_law_due" (defArgs d__law_due.st) (defBody d__law_due.st) (defScope d__law_due.st) .none kV43 dc43 pm43 an43 cd43 ct43), sl43⟩) (c43 : PySem.W.codeIn K cd43 "_law_due" = true) (k43 : PySem.W.keepIn K (.ref f43) = true)
    (a44 : PySem.W.nsIn K mainGlobals "_law_scaled" = some (some (.ref f44))) (l44 : K.lookup f44 = some ⟨oc44, od44, .func (PySem.W.fnOf "_law_scaled" "_law_scaled" (defArgs d__law_scaled.st) (defBody d__law_scaled.st) (defScope d__law_scaled.st) .none kV44 dc44 pm44 an44 cd44 ct44), sl44⟩) (c44 : PySem.W.codeIn K cd44 "_law_scaled" = true) (k44 : PySem.W.keepIn K (.ref f44) = true)
    (a45 : PySem.W.nsIn K mainGlobals "_law_scaled_list" = some (some (.ref f45))) (l45 : K.lookup f45 = some ⟨oc45, od45, .func (PySem.W.fnOf "_law_scaled_list" "_law_scaled_list" (defArgs d__law_scaled_list.st) (defBody d__law_scaled_list.st) (defScope d__law_scaled_list.st) .none kV45 dc45 pm45 an45 cd45 ct45), sl45⟩) (c45 : PySem.W.codeIn K cd45 "_law_scaled_list" = true) (k45 : PySem.W.keepIn K (.ref f45) = true)
    (a46 : PySem.W.nsIn K mainGlobals "_law_simplest" = some (some (.ref f46))) (l46 : K.lookup f46 = some ⟨oc46, od46, .func (PySem.W.fnOf "_law_simplest" "_law_simplest" (defArgs d__law_simplest.st) (defBody d__law_simplest.st) (defScope d__law_simplest.st) .none kV46 dc46 pm46 an46 cd46 ct46), sl46⟩) (c46 : PySem.W.codeIn K cd46 "_law_simplest" = true) (k46 : PySem.W.keepIn K (.ref f46) = true)
    (a47 : PySem.W.nsIn K mainGlobals "_law_narrow" = some (some (.ref f47))) (l47 : K.lookup f47 = some ⟨oc47, od47, .func (PySem.W.fnOf "_law_narrow" "_law_narrow" (defArgs d__law_narrow.st) (defBody d__law_narrow.st) (defScope d__law_narrow.st) .none kV47 dc47 pm47 an47 cd47 ct47), sl47⟩) (c47 : PySem.W.codeIn K cd47 "_law_narrow" = true) (k47 : PySem.W.keepIn K (.ref f47) = true)
    (a48 : PySem.W.nsIn K mainGlobals "_law_wide" = some (some (.ref f48))) (l48 : K.lookup f48 = some ⟨oc48, od48, .func (PySem.W.fnOf "_law_wide" "_law_wide" (defArgs d__law_wide.st) (defBody d__law_wide.st) (defScope d__law_wide.st) .none kV48 dc48 pm48 an48 cd48 ct48), sl48⟩) (c48 : PySem.W.codeIn K cd48 "_law_wide" = true) (k48 : PySem.W.keepIn K (.ref f48) = true)
    (a49 : PySem.W.nsIn K mainGlobals "law" = some (some (.ref f49))) (l49 : K.lookup f49 = some ⟨oc49, od49, .func (PySem.W.fnOf "law" "law" (defArgs d_law.st) (defBody d_law.st) (defScope d_law.st) .none kV49 dc49 pm49 an49 cd49 ct49), sl49⟩) (c49 : PySem.W.codeIn K cd49 "law" = true) (k49 : PySem.W.keepIn K (.ref f49) = true)
    (z0 : PySem.W.nsIn K mainGlobals "abs" = some none)
    (z1 : PySem.W.nsIn K mainGlobals "all" = some none)
    (z2 : PySem.W.nsIn K mainGlobals "bool" = some none)
    (z3 : PySem.W.nsIn K mainGlobals "int" = some none)
    (z4 : PySem.W.nsIn K mainGlobals "isinstance" = some none)
    (z5 : PySem.W.nsIn K mainGlobals "len" = some none)
    (z6 : PySem.W.nsIn K mainGlobals "list" = some none)
    (z7 : PySem.W.nsIn K mainGlobals "max" = some none)
    (z8 : PySem.W.nsIn K mainGlobals "min" = some none)
    (z9 : PySem.W.nsIn K mainGlobals "range" = some none)
    (z10 : PySem.W.nsIn K mainGlobals "repr" = some none)
    (z11 : PySem.W.nsIn K mainGlobals "reversed" = some none)
    (z12 : PySem.W.nsIn K mainGlobals "set" = some none)
    (z13 : PySem.W.nsIn K mainGlobals "sorted" = some none)
    (z14 : PySem.W.nsIn K mainGlobals "str" = some none)
    (z15 : PySem.W.nsIn K mainGlobals "tuple" = some none)
    (z16 : PySem.W.nsIn K mainGlobals "zip" = some none)
    (zg : PySem.W.nsIn K mainGlobals "gcd" = some (some (.builtin "math.gcd")))
    (zl : PySem.W.nsIn K mainGlobals "lcm" = some (some (.builtin "math.lcm")))
    : ∃ fd : FuncData, (∀ (s : Shared) (v : Value), BindsTo s fd ⟨[v], []⟩ [("script", v)]) ∧ ∀ base : Heap, K.In base → base.Ns mainGlobals mg → RunIn l.prog w K mg base callerA fa fd ["script"] (lift K law_spec) := by
  have e := hfa.symm.trans (PySem.W.mg_of X G a49)
  cases e
  have F0 := fun_mk (st := d_is_integer.st) l0 c0 k0
  have B0 : Binds K _ d_is_integer.ps [] := F0.binds (ps := d_is_integer.ps) fun _ _ _ _ _ _ us hl => match us, hl with | [_], _ => rfl
  have A0 : DefAt K mg KW 0 d_is_integer f0 _ := ⟨F0, PySem.W.mg_of X G a0, B0, fun n ks perm hm => (by
    simp [KW] at hm), a0⟩
  have F1 := fun_mk (st := d_is_below.st) l1 c1 k1
  have B1 : Binds K _ d_is_below.ps [] := F1.binds (ps := d_is_below.ps) fun _ _ _ _ _ _ us hl => match us, hl with | [_, _], _ => rfl
  have A1 : DefAt K mg KW 1 d_is_below f1 _ := ⟨F1, PySem.W.mg_of X G a1, B1, fun n ks perm hm => (by
    simp [KW] at hm), a1⟩
  have F2 := fun_mk (st := d_made.st) l2 c2 k2
  have B2 : Binds K _ d_made.ps [] := F2.binds (ps := d_made.ps) fun _ _ _ _ _ _ us hl => match us, hl with | [_, _], _ => rfl
  have A2 : DefAt K mg KW 2 d_made f2 _ := ⟨F2, PySem.W.mg_of X G a2, B2, fun n ks perm hm => (by
    simp [KW] at hm), a2⟩
  have F3 := fun_mk (st := d_plus.st) l3 c3 k3
  have B3 : Binds K _ d_plus.ps [] := F3.binds (ps := d_plus.ps) fun _ _ _ _ _ _ us hl => match us, hl with | [_, _], _ => rfl
  have A3 : DefAt K mg KW 3 d_plus f3 _ := ⟨F3, PySem.W.mg_of X G a3, B3, fun n ks perm hm => (by
    simp [KW] at hm), a3⟩
  have F4 := fun_mk (st := d_minus.st) l4 c4 k4
  have B4 : Binds K _ d_minus.ps [] := F4.binds (ps := d_minus.ps) fun _ _ _ _ _ _ us hl => match us, hl with | [_, _], _ => rfl
  have A4 : DefAt K mg KW 4 d_minus f4 _ := ⟨F4, PySem.W.mg_of X G a4, B4, fun n ks perm hm => (by
    simp [KW] at hm), a4⟩
  have F5 := fun_mk (st := d_whole_of.st) l5 c5 k5
  have B5 : Binds K _ d_whole_of.ps [] := F5.binds (ps := d_whole_of.ps) fun _ _ _ _ _ _ us hl => match us, hl with | [_], _ => rfl
  have A5 : DefAt K mg KW 5 d_whole_of f5 _ := ⟨F5, PySem.W.mg_of X G a5, B5, fun n ks perm hm => (by
    simp [KW] at hm), a5⟩
  have F6 := fun_mk (st := d_is_fraction.st) l6 c6 k6
  have B6 : Binds K _ d_is_fraction.ps [] := F6.binds (ps := d_is_fraction.ps) fun _ _ _ _ _ _ us hl => match us, hl with | [_], _ => rfl
  have A6 : DefAt K mg KW 6 d_is_fraction f6 _ := ⟨F6, PySem.W.mg_of X G a6, B6, fun n ks perm hm => (by
    simp [KW] at hm), a6⟩
  have F7 := fun_mk (st := d_check_fraction.st) l7 c7 k7
  have B7 : Binds K _ d_check_fraction.ps [] := F7.binds (ps := d_check_fraction.ps) fun _ _ _ _ _ _ us hl => match us, hl with | [_], _ => rfl
  have A7 : DefAt K mg KW 7 d_check_fraction f7 _ := ⟨F7, PySem.W.mg_of X G a7, B7, fun n ks perm hm => (by
    simp [KW] at hm), a7⟩
  have F8 := fun_mk (st := d_first_whole.st) l8 c8 k8
  have B8 : Binds K _ d_first_whole.ps [] := F8.binds (ps := d_first_whole.ps) fun _ _ _ _ _ _ us hl => match us, hl with | [_, _], _ => rfl
  have A8 : DefAt K mg KW 8 d_first_whole f8 _ := ⟨F8, PySem.W.mg_of X G a8, B8, fun n ks perm hm => (by
    simp [KW] at hm), a8⟩
  have F9 := fun_mk (st := d_last_whole.st) l9 c9 k9
  have B9 : Binds K _ d_last_whole.ps [] := F9.binds (ps := d_last_whole.ps) fun _ _ _ _ _ _ us hl => match us, hl with | [_, _], _ => rfl
  have A9 : DefAt K mg KW 9 d_last_whole f9 _ := ⟨F9, PySem.W.mg_of X G a9, B9, fun n ks perm hm => (by
    simp [KW] at hm), a9⟩
  have F10 := fun_mk (st := d_simplest_within.st) l10 c10 k10
  have B10 : Binds K _ d_simplest_within.ps [] := F10.binds (ps := d_simplest_within.ps) fun _ _ _ _ _ _ us hl => match us, hl with | [_], _ => rfl
  have A10 : DefAt K mg KW 10 d_simplest_within f10 _ := ⟨F10, PySem.W.mg_of X G a10, B10, fun n ks perm hm => (by
    simp [KW] at hm), a10⟩
  have F11 := fun_mk (st := d_is_span.st) l11 c11 k11
  have B11 : Binds K _ d_is_span.ps [] := F11.binds (ps := d_is_span.ps) fun _ _ _ _ _ _ us hl => match us, hl with | [_], _ => rfl
  have A11 : DefAt K mg KW 11 d_is_span f11 _ := ⟨F11, PySem.W.mg_of X G a11, B11, fun n ks perm hm => (by
    simp [KW] at hm), a11⟩
  have F12 := fun_mk (st := d_scale_of.st) l12 c12 k12
  have B12 : Binds K _ d_scale_of.ps [] := F12.binds (ps := d_scale_of.ps) fun _ _ _ _ _ _ us hl => match us, hl with | [_], _ => rfl
  have A12 : DefAt K mg KW 12 d_scale_of f12 _ := ⟨F12, PySem.W.mg_of X G a12, B12, fun n ks perm hm => (by
    simp [KW] at hm), a12⟩
  have F13 := fun_mk (st := d_cuts_of.st) l13 c13 k13
  have B13 : Binds K _ d_cuts_of.ps [] := F13.binds (ps := d_cuts_of.ps) fun _ _ _ _ _ _ us hl => match us, hl with | [_, _], _ => rfl
  have A13 : DefAt K mg KW 13 d_cuts_of f13 _ := ⟨F13, PySem.W.mg_of X G a13, B13, fun n ks perm hm => (by
    simp [KW] at hm), a13⟩
  have F14 := fun_mk (st := d_spans_from.st) l14 c14 k14
  have B14 : Binds K _ d_spans_from.ps [] := F14.binds (ps := d_spans_from.ps) fun _ _ _ _ _ _ us hl => match us, hl with | [_, _], _ => rfl
  have A14 : DefAt K mg KW 14 d_spans_from f14 _ := ⟨F14, PySem.W.mg_of X G a14, B14, fun n ks perm hm => (by
    simp [KW] at hm), a14⟩
  have F15 := fun_mk (st := d_swept.st) l15 c15 k15
  have B15 : Binds K _ d_swept.ps [] := F15.binds (ps := d_swept.ps) fun _ _ _ _ _ _ us hl => match us, hl with | [_, _, _], _ => rfl
  have A15 : DefAt K mg KW 15 d_swept f15 _ := ⟨F15, PySem.W.mg_of X G a15, B15, fun n ks perm hm => (by
    simp [KW] at hm), a15⟩
  have F16 := fun_mk (st := d_in_either.st) l16 c16 k16
  have B16 : Binds K _ d_in_either.ps [] := F16.binds (ps := d_in_either.ps) fun _ _ _ _ _ _ us hl => match us, hl with | [_, _], _ => rfl
  have A16 : DefAt K mg KW 16 d_in_either f16 _ := ⟨F16, PySem.W.mg_of X G a16, B16, fun n ks perm hm => (by
    simp [KW] at hm), a16⟩
  have F17 := fun_mk (st := d_is_spans.st) l17 c17 k17
  have B17 : Binds K _ d_is_spans.ps [] := F17.binds (ps := d_is_spans.ps) fun _ _ _ _ _ _ us hl => match us, hl with | [_], _ => rfl
  have A17 : DefAt K mg KW 17 d_is_spans f17 _ := ⟨F17, PySem.W.mg_of X G a17, B17, fun n ks perm hm => (by
    simp [KW] at hm), a17⟩
  have F18 := fun_mk (st := d_check_spans.st) l18 c18 k18
  have B18 : Binds K _ d_check_spans.ps [] := F18.binds (ps := d_check_spans.ps) fun _ _ _ _ _ _ us hl => match us, hl with | [_], _ => rfl
  have A18 : DefAt K mg KW 18 d_check_spans f18 _ := ⟨F18, PySem.W.mg_of X G a18, B18, fun n ks perm hm => (by
    simp [KW] at hm), a18⟩
  have F19 := fun_mk (st := d_joined.st) l19 c19 k19
  have B19 : Binds K _ d_joined.ps [] := F19.binds (ps := d_joined.ps) fun _ _ _ _ _ _ us hl => match us, hl with | [_, _, _], _ => rfl
  have A19 : DefAt K mg KW 19 d_joined f19 _ := ⟨F19, PySem.W.mg_of X G a19, B19, fun n ks perm hm => (by
    simp [KW] at hm), a19⟩
  have F20 := fun_mk (st := d_melted.st) l20 c20 k20
  have B20 : Binds K _ d_melted.ps [] := F20.binds (ps := d_melted.ps) fun _ _ _ _ _ _ us hl => match us, hl with | [_], _ => rfl
  have A20 : DefAt K mg KW 20 d_melted f20 _ := ⟨F20, PySem.W.mg_of X G a20, B20, fun n ks perm hm => (by
    simp [KW] at hm), a20⟩
  have F21 := fun_mk (st := d_has_in.st) l21 c21 k21
  have B21 : Binds K _ d_has_in.ps [] := F21.binds (ps := d_has_in.ps) fun _ _ _ _ _ _ us hl => match us, hl with | [_, _], _ => rfl
  have A21 : DefAt K mg KW 21 d_has_in f21 _ := ⟨F21, PySem.W.mg_of X G a21, B21, fun n ks perm hm => (by
    simp [KW] at hm), a21⟩
  have F22 := fun_mk (st := d_number_scaled.st) l22 c22 k22
  have B22 : Binds K _ d_number_scaled.ps [] := F22.binds (ps := d_number_scaled.ps) fun _ _ _ _ _ _ us hl => match us, hl with | [_, _, _], _ => rfl
  have A22 : DefAt K mg KW 22 d_number_scaled f22 _ := ⟨F22, PySem.W.mg_of X G a22, B22, fun n ks perm hm => (by
    simp [KW] at hm), a22⟩
  have F23 := fun_mk (st := d_span_scaled.st) l23 c23 k23
  have B23 : Binds K _ d_span_scaled.ps [] := F23.binds (ps := d_span_scaled.ps) fun _ _ _ _ _ _ us hl => match us, hl with | [_, _, _], _ => rfl
  have A23 : DefAt K mg KW 23 d_span_scaled f23 _ := ⟨F23, PySem.W.mg_of X G a23, B23, fun n ks perm hm => (by
    simp [KW] at hm), a23⟩
  have F24 := fun_mk (st := d_long_of.st) l24 c24 k24
  have B24 : Binds K _ d_long_of.ps [] := F24.binds (ps := d_long_of.ps) fun _ _ _ _ _ _ us hl => match us, hl with | [_], _ => rfl
  have A24 : DefAt K mg KW 24 d_long_of f24 _ := ⟨F24, PySem.W.mg_of X G a24, B24, fun n ks perm hm => (by
    simp [KW] at hm), a24⟩
  have F25 := fun_mk (st := d_check_factor.st) l25 c25 k25
  have B25 : Binds K _ d_check_factor.ps [] := F25.binds (ps := d_check_factor.ps) fun _ _ _ _ _ _ us hl => match us, hl with | [_], _ => rfl
  have A25 : DefAt K mg KW 25 d_check_factor f25 _ := ⟨F25, PySem.W.mg_of X G a25, B25, fun n ks perm hm => (by
    simp [KW] at hm), a25⟩
  have F26 := fun_mk (st := d_spans_of.st) l26 c26 k26
  have B26 : Binds K _ d_spans_of.ps [] := F26.binds (ps := d_spans_of.ps) fun _ _ _ _ _ _ us hl => match us, hl with | [_], _ => rfl
  have A26 : DefAt K mg KW 26 d_spans_of f26 _ := ⟨F26, PySem.W.mg_of X G a26, B26, fun n ks perm hm => (by
    simp [KW] at hm), a26⟩
  have F27 := fun_mk (st := d_contains.st) l27 c27 k27
  have B27 : Binds K _ d_contains.ps [] := F27.binds (ps := d_contains.ps) fun _ _ _ _ _ _ us hl => match us, hl with | [_, _], _ => rfl
  have A27 : DefAt K mg KW 27 d_contains f27 _ := ⟨F27, PySem.W.mg_of X G a27, B27, fun n ks perm hm => (by
    simp [KW] at hm), a27⟩
  have F28 := fun_mk (st := d_scaled.st) l28 c28 k28
  have B28 : Binds K _ d_scaled.ps [] := F28.binds (ps := d_scaled.ps) fun _ _ _ _ _ _ us hl => match us, hl with | [_, _, _], _ => rfl
  have A28 : DefAt K mg KW 28 d_scaled f28 _ := ⟨F28, PySem.W.mg_of X G a28, B28, fun n ks perm hm => (by
    simp [KW] at hm
    rcases hm with ⟨rfl, rfl, rfl⟩
    · refine ⟨fun s us ws _ hl => ?_, fun r q => perm_rel r q⟩
      unfold permU at hl ⊢
      split at hl
      · rename_i hc
        rw [if_pos hc]
        exact match us, ws, hc with | [], [_, _, _], _ => .of_eq rfl
      · cases hl), a28⟩
  have F29 := fun_mk (st := d_length_of.st) l29 c29 k29
  have B29 : Binds K _ d_length_of.ps [] := F29.binds (ps := d_length_of.ps) fun _ _ _ _ _ _ us hl => match us, hl with | [_], _ => rfl
  have A29 : DefAt K mg KW 29 d_length_of f29 _ := ⟨F29, PySem.W.mg_of X G a29, B29, fun n ks perm hm => (by
    simp [KW] at hm
    rcases hm with ⟨rfl, rfl, rfl⟩
    · refine ⟨fun s us ws _ hl => ?_, fun r q => perm_rel r q⟩
      unfold permU at hl ⊢
      split at hl
      · rename_i hc
        rw [if_pos hc]
        exact match us, ws, hc with | [], [_], _ => .of_eq rfl
      · cases hl), a29⟩
  have F30 := fun_mk (st := d_simplest_in.st) l30 c30 k30
  have B30 : Binds K _ d_simplest_in.ps [] := F30.binds (ps := d_simplest_in.ps) fun _ _ _ _ _ _ us hl => match us, hl with | [_], _ => rfl
  have A30 : DefAt K mg KW 30 d_simplest_in f30 _ := ⟨F30, PySem.W.mg_of X G a30, B30, fun n ks perm hm => (by
    simp [KW] at hm
    rcases hm with ⟨rfl, rfl, rfl⟩
    · refine ⟨fun s us ws _ hl => ?_, fun r q => perm_rel r q⟩
      unfold permU at hl ⊢
      split at hl
      · rename_i hc
        rw [if_pos hc]
        exact match us, ws, hc with | [], [_], _ => .of_eq rfl
      · cases hl), a30⟩
  have F31 := fun_mk (st := d__law_begin.st) l31 c31 k31
  have B31 : Binds K _ d__law_begin.ps [] := F31.binds (ps := d__law_begin.ps) fun _ _ _ _ _ _ us hl => match us, hl with | [_, _], _ => rfl
  have A31 : DefAt K mg KW 31 d__law_begin f31 _ := ⟨F31, PySem.W.mg_of X G a31, B31, fun n ks perm hm => (by
    simp [KW] at hm), a31⟩
  have F32 := fun_mk (st := d__law_pick.st) l32 c32 k32
  have B32 : Binds K _ d__law_pick.ps [] := F32.binds (ps := d__law_pick.ps) fun _ _ _ _ _ _ us hl => match us, hl with | [_, _], _ => rfl
  have A32 : DefAt K mg KW 32 d__law_pick f32 _ := ⟨F32, PySem.W.mg_of X G a32, B32, fun n ks perm hm => (by
    simp [KW] at hm), a32⟩
  have F33 := fun_mk (st := d__law_same.st) l33 c33 k33
  have B33 : Binds K _ d__law_same.ps [] := F33.binds (ps := d__law_same.ps) fun _ _ _ _ _ _ us hl => match us, hl with | [_, _], _ => rfl
  have A33 : DefAt K mg KW 33 d__law_same f33 _ := ⟨F33, PySem.W.mg_of X G a33, B33, fun n ks perm hm => (by
    simp [KW] at hm), a33⟩
  have F34 := fun_mk (st := d__law_frac.st) l34 c34 k34
  have B34 : Binds K _ d__law_frac.ps [] := F34.binds (ps := d__law_frac.ps) fun _ _ _ _ _ _ us hl => match us, hl with | [_, _], _ => rfl
  have A34 : DefAt K mg KW 34 d__law_frac f34 _ := ⟨F34, PySem.W.mg_of X G a34, B34, fun n ks perm hm => (by
    simp [KW] at hm), a34⟩
  have F35 := fun_mk (st := d__law_less.st) l35 c35 k35
  have B35 : Binds K _ d__law_less.ps [] := F35.binds (ps := d__law_less.ps) fun _ _ _ _ _ _ us hl => match us, hl with | [_, _], _ => rfl
  have A35 : DefAt K mg KW 35 d__law_less f35 _ := ⟨F35, PySem.W.mg_of X G a35, B35, fun n ks perm hm => (by
    simp [KW] at hm), a35⟩
  have F36 := fun_mk (st := d__law_scale.st) l36 c36 k36
  have B36 : Binds K _ d__law_scale.ps [] := F36.binds (ps := d__law_scale.ps) fun _ _ _ _ _ _ us hl => match us, hl with | [_], _ => rfl
  have A36 : DefAt K mg KW 36 d__law_scale f36 _ := ⟨F36, PySem.W.mg_of X G a36, B36, fun n ks perm hm => (by
    simp [KW] at hm), a36⟩
  have F37 := fun_mk (st := d__law_within.st) l37 c37 k37
  have B37 : Binds K _ d__law_within.ps [] := F37.binds (ps := d__law_within.ps) fun _ _ _ _ _ _ us hl => match us, hl with | [_, _], _ => rfl
  have A37 : DefAt K mg KW 37 d__law_within f37 _ := ⟨F37, PySem.W.mg_of X G a37, B37, fun n ks perm hm => (by
    simp [KW] at hm), a37⟩
  have F38 := fun_mk (st := d__law_places.st) l38 c38 k38
  have B38 : Binds K _ d__law_places.ps [] := F38.binds (ps := d__law_places.ps) fun _ _ _ _ _ _ us hl => match us, hl with | [_], _ => rfl
  have A38 : DefAt K mg KW 38 d__law_places f38 _ := ⟨F38, PySem.W.mg_of X G a38, B38, fun n ks perm hm => (by
    simp [KW] at hm), a38⟩
  have F39 := fun_mk (st := d__law_cell.st) l39 c39 k39
  have B39 : Binds K _ d__law_cell.ps [] := F39.binds (ps := d__law_cell.ps) fun _ _ _ _ _ _ us hl => match us, hl with | [_, _, _], _ => rfl
  have A39 : DefAt K mg KW 39 d__law_cell f39 _ := ⟨F39, PySem.W.mg_of X G a39, B39, fun n ks perm hm => (by
    simp [KW] at hm), a39⟩
  have F40 := fun_mk (st := d__law_listed.st) l40 c40 k40
  have B40 : Binds K _ d__law_listed.ps [] := F40.binds (ps := d__law_listed.ps) fun _ _ _ _ _ _ us hl => match us, hl with | [_, _, _], _ => rfl
  have A40 : DefAt K mg KW 40 d__law_listed f40 _ := ⟨F40, PySem.W.mg_of X G a40, B40, fun n ks perm hm => (by
    simp [KW] at hm), a40⟩
  have F41 := fun_mk (st := d__law_end.st) l41 c41 k41
  have B41 : Binds K _ d__law_end.ps [] := F41.binds (ps := d__law_end.ps) fun _ _ _ _ _ _ us hl => match us, hl with | [_, _], _ => rfl
  have A41 : DefAt K mg KW 41 d__law_end f41 _ := ⟨F41, PySem.W.mg_of X G a41, B41, fun n ks perm hm => (by
    simp [KW] at hm), a41⟩
  have F42 := fun_mk (st := d__law_span.st) l42 c42 k42
  have B42 : Binds K _ d__law_span.ps [] := F42.binds (ps := d__law_span.ps) fun _ _ _ _ _ _ us hl => match us, hl with | [_, _], _ => rfl
  have A42 : DefAt K mg KW 42 d__law_span f42 _ := ⟨F42, PySem.W.mg_of X G a42, B42, fun n ks perm hm => (by
    simp [KW] at hm), a42⟩
  have F43 := fun_mk (st := d__law_due.st) l43 c43 k43
  have B43 : Binds K _ d__law_due.ps [] := F43.binds (ps := d__law_due.ps) fun _ _ _ _ _ _ us hl => match us, hl with | [_], _ => rfl
  have A43 : DefAt K mg KW 43 d__law_due f43 _ := ⟨F43, PySem.W.mg_of X G a43, B43, fun n ks perm hm => (by
    simp [KW] at hm), a43⟩
  have F44 := fun_mk (st := d__law_scaled.st) l44 c44 k44
  have B44 : Binds K _ d__law_scaled.ps [] := F44.binds (ps := d__law_scaled.ps) fun _ _ _ _ _ _ us hl => match us, hl with | [_, _, _], _ => rfl
  have A44 : DefAt K mg KW 44 d__law_scaled f44 _ := ⟨F44, PySem.W.mg_of X G a44, B44, fun n ks perm hm => (by
    simp [KW] at hm), a44⟩
  have F45 := fun_mk (st := d__law_scaled_list.st) l45 c45 k45
  have B45 : Binds K _ d__law_scaled_list.ps [] := F45.binds (ps := d__law_scaled_list.ps) fun _ _ _ _ _ _ us hl => match us, hl with | [_, _, _], _ => rfl
  have A45 : DefAt K mg KW 45 d__law_scaled_list f45 _ := ⟨F45, PySem.W.mg_of X G a45, B45, fun n ks perm hm => (by
    simp [KW] at hm), a45⟩
  have F46 := fun_mk (st := d__law_simplest.st) l46 c46 k46
  have B46 : Binds K _ d__law_simplest.ps [] := F46.binds (ps := d__law_simplest.ps) fun _ _ _ _ _ _ us hl => match us, hl with | [_, _], _ => rfl
  have A46 : DefAt K mg KW 46 d__law_simplest f46 _ := ⟨F46, PySem.W.mg_of X G a46, B46, fun n ks perm hm => (by
    simp [KW] at hm), a46⟩
  have F47 := fun_mk (st := d__law_narrow.st) l47 c47 k47
  have B47 : Binds K _ d__law_narrow.ps [] := F47.binds (ps := d__law_narrow.ps) fun _ _ _ _ _ _ us hl => match us, hl with | [_], _ => rfl
  have A47 : DefAt K mg KW 47 d__law_narrow f47 _ := ⟨F47, PySem.W.mg_of X G a47, B47, fun n ks perm hm => (by
    simp [KW] at hm), a47⟩
  have F48 := fun_mk (st := d__law_wide.st) l48 c48 k48
  have B48 : Binds K _ d__law_wide.ps [] := F48.binds (ps := d__law_wide.ps) fun _ _ _ _ _ _ us hl => match us, hl with | [_], _ => rfl
  have A48 : DefAt K mg KW 48 d__law_wide f48 _ := ⟨F48, PySem.W.mg_of X G a48, B48, fun n ks perm hm => (by
    simp [KW] at hm), a48⟩
  have F49 := fun_mk (st := d_law.st) l49 c49 k49
  have bn : ∀ n ∈ BN, mg n = none := by
    intro n hn
    simp only [BN, List.mem_cons, List.not_mem_nil, or_false] at hn
    rcases hn with rfl | rfl | rfl | rfl | rfl | rfl | rfl | rfl | rfl | rfl | rfl | rfl | rfl | rfl | rfl | rfl | rfl
    · exact PySem.W.mg_none_of X G z0
    · exact PySem.W.mg_none_of X G z1
    · exact PySem.W.mg_none_of X G z2
    · exact PySem.W.mg_none_of X G z3
    · exact PySem.W.mg_none_of X G z4
    · exact PySem.W.mg_none_of X G z5
    · exact PySem.W.mg_none_of X G z6
    · exact PySem.W.mg_none_of X G z7
    · exact PySem.W.mg_none_of X G z8
    · exact PySem.W.mg_none_of X G z9
    · exact PySem.W.mg_none_of X G z10
    · exact PySem.W.mg_none_of X G z11
    · exact PySem.W.mg_none_of X G z12
    · exact PySem.W.mg_none_of X G z13
    · exact PySem.W.mg_none_of X G z14
    · exact PySem.W.mg_none_of X G z15
    · exact PySem.W.mg_none_of X G z16
  have at_ : ∀ i d, Ds[i]? = some d → ∃ a fd, DefAt K mg KW i d a fd := by
    intro i d hd
    cases i with
    | zero => cases hd; exact ⟨_, _, A0⟩
    | succ i =>
    cases i with
    | zero => cases hd; exact ⟨_, _, A1⟩
    | succ i =>
    cases i with
    | zero => cases hd; exact ⟨_, _, A2⟩
    | succ i =>
    cases i with
    | zero => cases hd; exact ⟨_, _, A3⟩
    | succ i =>
    cases i with
    | zero => cases hd; exact ⟨_, _, A4⟩
    | succ i =>
    cases i with
    | zero => cases hd; exact ⟨_, _, A5⟩
    | succ i =>
    cases i with
    | zero => cases hd; exact ⟨_, _, A6⟩
    | succ i =>
    cases i with
    | zero => cases hd; exact ⟨_, _, A7⟩
    | succ i =>
    cases i with
    | zero => cases hd; exact ⟨_, _, A8⟩
    | succ i =>
    cases i with
    | zero => cases hd; exact ⟨_, _, A9⟩
    | succ i =>
    cases i with
    | zero => cases hd; exact ⟨_, _, A10⟩
    | succ i =>
    cases i with
    | zero => cases hd; exact ⟨_, _, A11⟩
    | succ i =>
    cases i with
    | zero => cases hd; exact ⟨_, _, A12⟩
    | succ i =>
    cases i with
    | zero => cases hd; exact ⟨_, _, A13⟩
    | succ i =>
    cases i with
    | zero => cases hd; exact ⟨_, _, A14⟩
    | succ i =>
    cases i with
    | zero => cases hd; exact ⟨_, _, A15⟩
    | succ i =>
    cases i with
    | zero => cases hd; exact ⟨_, _, A16⟩
    | succ i =>
    cases i with
    | zero => cases hd; exact ⟨_, _, A17⟩
    | succ i =>
    cases i with
    | zero => cases hd; exact ⟨_, _, A18⟩
    | succ i =>
    cases i with
    | zero => cases hd; exact ⟨_, _, A19⟩
    | succ i =>
    cases i with
    | zero => cases hd; exact ⟨_, _, A20⟩
    | succ i =>
    cases i with
    | zero => cases hd; exact ⟨_, _, A21⟩
    | succ i =>
    cases i with
    | zero => cases hd; exact ⟨_, _, A22⟩
    | succ i =>
    cases i with
    | zero => cases hd; exact ⟨_, _, A23⟩
    | succ i =>
    cases i with
    | zero => cases hd; exact ⟨_, _, A24⟩
    | succ i =>
    cases i with
    | zero => cases hd; exact ⟨_, _, A25⟩
    | succ i =>
    cases i with
    | zero => cases hd; exact ⟨_, _, A26⟩
    | succ i =>
    cases i with
    | zero => cases hd; exact ⟨_, _, A27⟩
    | succ i =>
    cases i with
    | zero => cases hd; exact ⟨_, _, A28⟩
    | succ i =>
    cases i with
    | zero => cases hd; exact ⟨_, _, A29⟩
    | succ i =>
    cases i with
    | zero => cases hd; exact ⟨_, _, A30⟩
    | succ i =>
    cases i with
    | zero => cases hd; exact ⟨_, _, A31⟩
    | succ i =>
    cases i with
    | zero => cases hd; exact ⟨_, _, A32⟩
    | succ i =>
    cases i with
    | zero => cases hd; exact ⟨_, _, A33⟩
    | succ i =>
    cases i with
    | zero => cases hd; exact ⟨_, _, A34⟩
    | succ i =>
    cases i with
    | zero => cases hd; exact ⟨_, _, A35⟩
    | succ i =>
    cases i with
    | zero => cases hd; exact ⟨_, _, A36⟩
    | succ i =>
    cases i with
    | zero => cases hd; exact ⟨_, _, A37⟩
    | succ i =>
    cases i with
    | zero => cases hd; exact ⟨_, _, A38⟩
    | succ i =>
    cases i with
    | zero => cases hd; exact ⟨_, _, A39⟩
    | succ i =>
    cases i with
    | zero => cases hd; exact ⟨_, _, A40⟩
    | succ i =>
    cases i with
    | zero => cases hd; exact ⟨_, _, A41⟩
    | succ i =>
    cases i with
    | zero => cases hd; exact ⟨_, _, A42⟩
    | succ i =>
    cases i with
    | zero => cases hd; exact ⟨_, _, A43⟩
    | succ i =>
    cases i with
    | zero => cases hd; exact ⟨_, _, A44⟩
    | succ i =>
    cases i with
    | zero => cases hd; exact ⟨_, _, A45⟩
    | succ i =>
    cases i with
    | zero => cases hd; exact ⟨_, _, A46⟩
    | succ i =>
    cases i with
    | zero => cases hd; exact ⟨_, _, A47⟩
    | succ i =>
    cases i with
    | zero => cases hd; exact ⟨_, _, A48⟩
    | succ i =>
    cases hd
  refine ⟨PySem.W.fnOf "law" "law" (defArgs d_law.st) (defBody d_law.st) (defScope d_law.st) .none kV49 dc49 pm49 an49 cd49 ct49, fun s v => .of_eq rfl, fun base _ _ => law_ok F49 law_okB rfl (k := LV) ⟨rfl, by decide, by decide⟩ bn (fun _ => PySem.W.mg_of X G zg) (fun _ => PySem.W.mg_of X G zl) (by intro p hp; cases hp) (fun f x hx => ?_) law_len law_body⟩
  rw [List.getElem?_map] at hx
  cases e : Ds[f]? with
  | none => rw [e] at hx; cases hx
  | some d' =>
    rw [e] at hx
    cases hx
    obtain ⟨a', fd', F'⟩ := at_ f d' e
    exact ⟨a', fd', d'.ps, F'.at_, F'.fn.kp, all_ok' ds_ok bn (fun _ => PySem.W.mg_of X G zg) (fun _ => PySem.W.mg_of X G zl) (by intro p hp; cases hp) at_ T_zero T_len T_body LV f d' a' fd' e F', F'.bi, F'.kb, F'.ns⟩
end K30
open PySem PySem.W PyProof.Rows
set_option maxHeartbeats 0 in
theorem PySem.Challenge.cw_wholelines_k30_whole_spans_scaled_and_si_holds : PySem.Challenge.rw_wholelines_k30_whole_spans_scaled_and_si.Holds := by
  w_on; o_law; k_head; (case hw => w_witness2)
  k_fill
  refine Rf.walk_claim (l := PySem.Challenge.rw_wholelines_k30_whole_spans_scaled_and_si) (n := 63) (x := "script") (sp := fun w => Rf.lift _ K30.law_spec) rfl (by decide) rfl (fun w h Y => PySem.W.kIn_of Y) ?F (fun _ _ a ns hl hb hS => Rf.law_start (K30.law_told ns hl hb) hS)
  case F =>
    intro w mg fa h KX G hmg
    refine' K30.all_mk KX G hmg ?a0 ?l0 ?c0 ?k0 ?a1 ?l1 ?c1 ?k1 ?a2 ?l2 ?c2 ?k2 ?a3 ?l3 ?c3 ?k3 ?a4 ?l4 ?c4 ?k4 ?a5 ?l5 ?c5 ?k5 ?a6 ?l6 ?c6 ?k6 ?a7 ?l7 ?c7 ?k7 ?a8 ?l8 ?c8 ?k8 ?a9 ?l9 ?c9 ?k9 ?a10 ?l10 ?c10 ?k10 ?a11 ?l11 ?c11 ?k11 ?a12 ?l12 ?c12 ?k12 ?a13 ?l13 ?c13 ?k13 ?a14 ?l14 ?c14 ?k14 ?a15 ?l15 ?c15 ?k15 ?a16 ?l16 ?c16 ?k16 ?a17 ?l17 ?c17 ?k17 ?a18 ?l18 ?c18 ?k18 ?a19 ?l19 ?c19 ?k19 ?a20 ?l20 ?c20 ?k20 ?a21 ?l21 ?c21 ?k21 ?a22 ?l22 ?c22 ?k22 ?a23 ?l23 ?c23 ?k23 ?a24 ?l24 ?c24 ?k24 ?a25 ?l25 ?c25 ?k25 ?a26 ?l26 ?c26 ?k26 ?a27 ?l27 ?c27 ?k27 ?a28 ?l28 ?c28 ?k28 ?a29 ?l29 ?c29 ?k29 ?a30 ?l30 ?c30 ?k30 ?a31 ?l31 ?c31 ?k31 ?a32 ?l32 ?c32 ?k32 ?a33 ?l33 ?c33 ?k33 ?a34 ?l34 ?c34 ?k34 ?a35 ?l35 ?c35 ?k35 ?a36 ?l36 ?c36 ?k36 ?a37 ?l37 ?c37 ?k37 ?a38 ?l38 ?c38 ?k38 ?a39 ?l39 ?c39 ?k39 ?a40 ?l40 ?c40 ?k40 ?a41 ?l41 ?c41 ?k41 ?a42 ?l42 ?c42 ?k42 ?a43 ?l43 ?c43 ?k43 ?a44 ?l44 ?c44 ?k44 ?a45 ?l45 ?c45 ?k45 ?a46 ?l46 ?c46 ?k46 ?a47 ?l47 ?c47 ?k47 ?a48 ?l48 ?c48 ?k48 ?a49 ?l49 ?c49 ?k49 ?z0 ?z1 ?z2 ?z3 ?z4 ?z5 ?z6 ?z7 ?z8 ?z9 ?z10 ?z11 ?z12 ?z13 ?z14 ?z15 ?z16 ?zg ?zl
    (case a0 => k_is); (case l0 => k_is); (case c0 => k_is); (case k0 => k_is); (case a1 => k_is); (case l1 => k_is); (case c1 => k_is); (case k1 => k_is); (case a2 => k_is); (case l2 => k_is); (case c2 => k_is); (case k2 => k_is); (case a3 => k_is); (case l3 => k_is); (case c3 => k_is); (case k3 => k_is); (case a4 => k_is); (case l4 => k_is); (case c4 => k_is); (case k4 => k_is); (case a5 => k_is); (case l5 => k_is); (case c5 => k_is); (case k5 => k_is); (case a6 => k_is); (case l6 => k_is); (case c6 => k_is); (case k6 => k_is); (case a7 => k_is); (case l7 => k_is); (case c7 => k_is); (case k7 => k_is); (case a8 => k_is); (case l8 => k_is); (case c8 => k_is); (case k8 => k_is); (case a9 => k_is); (case l9 => k_is); (case c9 => k_is); (case k9 => k_is); (case a10 => k_is); (case l10 => k_is); (case c10 => k_is); (case k10 => k_is); (case a11 => k_is); (case l11 => k_is); (case c11 => k_is); (case k11 => k_is); (case a12 => k_is); (case l12 => k_is); (case c12 => k_is); (case k12 => k_is); (case a13 => k_is); (case l13 => k_is); (case c13 => k_is); (case k13 => k_is); (case a14 => k_is); (case l14 => k_is); (case c14 => k_is); (case k14 => k_is); (case a15 => k_is); (case l15 => k_is); (case c15 => k_is); (case k15 => k_is); (case a16 => k_is); (case l16 => k_is); (case c16 => k_is); (case k16 => k_is); (case a17 => k_is); (case l17 => k_is); (case c17 => k_is); (case k17 => k_is); (case a18 => k_is); (case l18 => k_is); (case c18 => k_is); (case k18 => k_is); (case a19 => k_is); (case l19 => k_is); (case c19 => k_is); (case k19 => k_is); (case a20 => k_is); (case l20 => k_is); (case c20 => k_is); (case k20 => k_is); (case a21 => k_is); (case l21 => k_is); (case c21 => k_is); (case k21 => k_is); (case a22 => k_is); (case l22 => k_is); (case c22 => k_is); (case k22 => k_is); (case a23 => k_is); (case l23 => k_is); (case c23 => k_is); (case k23 => k_is); (case a24 => k_is); (case l24 => k_is); (case c24 => k_is); (case k24 => k_is); (case a25 => k_is); (case l25 => k_is); (case c25 => k_is); (case k25 => k_is); (case a26 => k_is); (case l26 => k_is); (case c26 => k_is); (case k26 => k_is); (case a27 => k_is); (case l27 => k_is); (case c27 => k_is); (case k27 => k_is); (case a28 => k_is); (case l28 => k_is); (case c28 => k_is); (case k28 => k_is); (case a29 => k_is); (case l29 => k_is); (case c29 => k_is); (case k29 => k_is); (case a30 => k_is); (case l30 => k_is); (case c30 => k_is); (case k30 => k_is); (case a31 => k_is); (case l31 => k_is); (case c31 => k_is); (case k31 => k_is); (case a32 => k_is); (case l32 => k_is); (case c32 => k_is); (case k32 => k_is); (case a33 => k_is); (case l33 => k_is); (case c33 => k_is); (case k33 => k_is); (case a34 => k_is); (case l34 => k_is); (case c34 => k_is); (case k34 => k_is); (case a35 => k_is); (case l35 => k_is); (case c35 => k_is); (case k35 => k_is); (case a36 => k_is); (case l36 => k_is); (case c36 => k_is); (case k36 => k_is); (case a37 => k_is); (case l37 => k_is); (case c37 => k_is); (case k37 => k_is); (case a38 => k_is); (case l38 => k_is); (case c38 => k_is); (case k38 => k_is); (case a39 => k_is); (case l39 => k_is); (case c39 => k_is); (case k39 => k_is); (case a40 => k_is); (case l40 => k_is); (case c40 => k_is); (case k40 => k_is); (case a41 => k_is); (case l41 => k_is); (case c41 => k_is); (case k41 => k_is); (case a42 => k_is); (case l42 => k_is); (case c42 => k_is); (case k42 => k_is); (case a43 => k_is); (case l43 => k_is); (case c43 => k_is); (case k43 => k_is); (case a44 => k_is); (case l44 => k_is); (case c44 => k_is); (case k44 => k_is); (case a45 => k_is); (case l45 => k_is); (case c45 => k_is); (case k45 => k_is); (case a46 => k_is); (case l46 => k_is); (case c46 => k_is); (case k46 => k_is); (case a47 => k_is); (case l47 => k_is); (case c47 => k_is); (case k47 => k_is); (case a48 => k_is); (case l48 => k_is); (case c48 => k_is); (case k48 => k_is); (case a49 => k_is); (case l49 => k_is); (case c49 => k_is); (case k49 => k_is); (case z0 => k_is); (case z1 => k_is); (case z2 => k_is); (case z3 => k_is); (case z4 => k_is); (case z5 => k_is); (case z6 => k_is); (case z7 => k_is); (case z8 => k_is); (case z9 => k_is); (case z10 => k_is); (case z11 => k_is); (case z12 => k_is); (case z13 => k_is); (case z14 => k_is); (case z15 => k_is); (case z16 => k_is); (case zg => k_is); (case zl => k_is)

