import PyProof.Rows.All
import Wide.All
import OpenK.AllK
import Wide.FinOn
import HandS.ForMost
import HandS.Wide
import HandS.Gcd
import HandS.IsInst
import HandS.Style
import HandS.NoneIn
import HandS.SortInts
import HandS.RaiseMore
import HandS.Zip
import HandS.FStr
import HandS.Text
import PyProof.ReprReads
import PyProof.ReprRoads
import HandS.EndBits
import PySem.Challenge.RW_wholelines_k68_whole_texts_shown
import PyProof.ReprLen
set_option Elab.async false
set_option linter.all false
set_option maxRecDepth 100000
/-! Rf1: plain data, plain states, a small core language of expressions and statements, and what is wanted of them (weakest preconditions over plain data) -/
namespace Rf
open PySem L2

/-- plain data: what an immutable value is; a list that nobody changes; a cell of the state -/
inductive D where
  | non | bl (b : Bool) | int (i : Int) | str (s : Str) | ty (n : String)
  | tup (xs : List D) | lst (xs : List D) | scr (xs : List D) | cel (n : Nat)
  deriving Inhabited
/-- what a cell holds -/
inductive CO where
  | lst (xs : List D) | dK (kvs : List (Key × D))
abbrev Rho := List (Option D)
abbrev M := List CO
abbrev WQ := D → M → Prop
abbrev DSpec := List D → M → WQ → Prop
abbrev Tab := Nat → DSpec

mutual
def D.blw (n : Nat) : D → Bool
  | .tup xs => belowAll n xs
  | .lst xs => belowAll n xs
  | .scr xs => belowAll n xs
  | .cel k => decide (k < n)
  | _ => true
def belowAll (n : Nat) : List D → Bool
  | [] => true
  | x :: xs => x.blw n && belowAll n xs
end
def CO.blw (n : Nat) : CO → Bool
  | .lst xs => belowAll n xs
  | .dK kvs => belowAll n (kvs.map (·.2))
mutual
/-- the cells from n on written out -/
def D.frz (n : Nat) (μ : M) : D → Option D
  | .tup xs => (frzAll n μ xs).map D.tup
  | .lst xs => (frzAll n μ xs).map D.lst
  | .scr xs => if belowAll n xs then some (.scr xs) else none
  | .cel k => if k < n then some (.cel k) else match μ[k]? with
    | some (.lst xs) => if belowAll n xs then some (.lst xs) else none
    | _ => none
  | .non => some .non | .bl b => some (.bl b) | .int i => some (.int i) | .str s => some (.str s) | .ty m => some (.ty m)
def frzAll (n : Nat) (μ : M) : List D → Option (List D)
  | [] => some []
  | x :: xs => match x.frz n μ, frzAll n μ xs with
    | some y, some ys => some (y :: ys)
    | _, _ => none
end

/-! ### operations -/
def newL (xs : List D) (μ : M) (Q : WQ) : Prop := xs.length ≤ sizeLine ∧ (Q (.lst xs) μ ∨ Q (.cel μ.length) (μ ++ [.lst xs]))
/-- the items of a list (a display, a cell) -/
def asL (μ : M) : D → Option (List D)
  | .lst xs => some xs
  | .cel n => match μ[n]? with
    | some (.lst xs) => some xs
    | _ => none
  | _ => none
/-- .. or of any list that is read -/
def asR (μ : M) : D → Option (List D)
  | .scr xs => some xs
  | d => asL μ d
/-- .. or of a tuple -/
def asSq (μ : M) : D → Option (List D)
  | .tup xs => some xs
  | d => asR μ d

def opAdd (x y : D) (μ : M) (Q : WQ) : Prop := match x with
  | .int i => match y with
    | .int j => Q (.int (i + j)) μ
    | _ => False
  | .str a => match y with
    | .str b => a.length + b.length ≤ sizeLine ∧ Q (.str (a ++ b)) μ
    | _ => False
  | .tup xs => match y with
    | .tup ys => xs ≠ [] ∧ xs.length + ys.length ≤ sizeLine ∧ Q (.tup (xs ++ ys)) μ
    | _ => False
  | x => ∃ xs ys, asL μ x = some xs ∧ asL μ y = some ys ∧ newL (xs ++ ys) μ Q
def opI (C : Int → Int → Prop) (g : Int → Int → Int) (x y : D) (μ : M) (Q : WQ) : Prop := match x with
  | .int i => match y with
    | .int j => C i j ∧ Q (.int (g i j)) μ
    | _ => False
  | _ => False
/-- powers of wide numbers -/
def CPowW (i j : Int) : Prop := 0 ≤ j ∧ (Builtin.Int.intBits i : Int) * j ≤ 2 ^ 27
def opBin : Operator → D → D → M → WQ → Prop
  | .Add => opAdd
  | .Sub => opI (fun _ _ => True) fun i j => i - j
  | .Mult => opI (fun i j => CMul i j ∨ CMulW i j) fun i j => i * j
  | .FloorDiv => opI CDivW fun i j => i / j
  | .Mod => opI (fun _ j => 0 < j) fun i j => i % j
  | .Pow => opI (fun i j => CPow i j ∨ CPowW i j) fun i j => i ^ j.toNat
  | .LShift => opI CPow fun i j => i * 2 ^ j.toNat
  | .RShift => opI (fun _ j => 0 ≤ j) fun i j => i / 2 ^ j.toNat
  | _ => fun _ _ _ _ => False

mutual
def toP : D → Option PyData
  | .non => some .none
  | .bl b => some (.bool b)
  | .int i => some (.int i)
  | .str s => some (.str s)
  | .tup xs => (toPs xs).map PyData.tuple
  | .lst xs => (toPs xs).map PyData.list
  | .scr _ => none
  | .ty _ => none
  | .cel _ => none
def toPs : List D → Option (List PyData)
  | [] => some []
  | x :: xs => match toP x, toPs xs with
    | some y, some ys => some (y :: ys)
    | _, _ => none
end
def toPm (μ : M) : D → Option PyData
  | .cel n => match μ[n]? with
    | some (.lst xs) => (toPs xs).map PyData.list
    | _ => none
  | d => toP d
/-- == of data -/
def eqP (μ : M) (x y : D) : Option Bool := match toPm μ x, toPm μ y with
  | some a, some b => if SeqAt.shaped a && SeqAt.shaped b then some (PyData.eqv a b) else none
  | _, _ => none
def eqD (μ : M) (x y : D) : Option Bool := match x with
  | .str a => match y with
    | .str b => some (decide (a = b))
    | y => eqP μ (.str a) y
  | x => eqP μ x y
def cmpI (g : Int → Int → Bool) (x y : D) : Option Bool := match x with
  | .int i => match y with
    | .int j => some (g i j)
    | _ => none
  | _ => none
def isD (x y : D) : Option Bool := match y with
  | .non => some (match x with | .non => true | _ => false)
  | .bl b => match x with
    | .bl a => some (decide (a = b))
    | _ => none
  | _ => none
def keyD : D → Option Key
  | .int i => some (.inl i)
  | .str s => some (.inr s)
  | _ => none
def dget (kvs : List (Key × D)) (k : Key) : Option D := (kvs.find? fun kv => decide (kv.1 = k)).map (·.2)
def dput (kvs : List (Key × D)) (k : Key) (v : D) : List (Key × D) :=
  if kvs.any (fun kv => decide (kv.1 = k)) then kvs.map (fun kv => if kv.1 = k then (kv.1, v) else kv) else kvs ++ [(k, v)]
def dmerge (kvs more : List (Key × D)) : List (Key × D) := more.foldl (fun acc kv => dput acc kv.1 kv.2) kvs
/-- the flat value that stands for it -/
def flat : D → Option V
  | .non => some .non
  | .bl b => some (.bl b)
  | .int i => some (.int i)
  | .str s => some (.str s)
  | _ => none
def flats : List D → Option (List V)
  | [] => some []
  | x :: xs => match flat x, flats xs with
    | some y, some ys => some (y :: ys)
    | _, _ => none
def inD (μ : M) (x y : D) : Option Bool := match y with
  | .cel n => match μ[n]? with
    | some (.lst xs) => match flat x, flats xs with
      | some v, some vs => if flatV v && vs.all flatV then some (inV v vs) else none
      | _, _ => none
    | some (.dK kvs) => (keyD x).map fun k => (dget kvs k).isSome
    | _ => none
  | y => match asSq μ y with
    | some xs => match flat x, flats xs with
      | some v, some vs => if flatV v && vs.all flatV then some (inV v vs) else none
      | _, _ => none
    | none => none
def opCmp : CmpOp → M → D → D → Option Bool
  | .Eq => eqD
  | .NotEq => fun μ x y => (eqD μ x y).map (!·)
  | .Lt => fun _ => cmpI fun i j => decide (i < j)
  | .LtE => fun _ => cmpI fun i j => decide (i ≤ j)
  | .Gt => fun _ => cmpI fun i j => decide (j < i)
  | .GtE => fun _ => cmpI fun i j => decide (j ≤ i)
  | .Is => fun _ => isD
  | .IsNot => fun _ x y => (isD x y).map (!·)
  | .In => inD
  | .NotIn => fun μ x y => (inD μ x y).map (!·)
def opIxSq (x y : D) (μ : M) (Q : WQ) : Prop := match asSq μ x, y with
  | some xs, .int i => match atI xs i with
    | some d => Q d μ
    | none => False
  | _, _ => False
def opIdx (x y : D) (μ : M) (Q : WQ) : Prop := match x with
  | .str z => match y with
    | .int i => match atI z.cps.toList i with
      | some c => z.length ≤ sizeLine ∧ Q (.str ⟨#[c]⟩) μ
      | none => False
    | _ => False
  | .cel n => match μ[n]? with
    | some (.lst xs) => match y with
      | .int i => match atI xs i with
        | some d => Q d μ
        | none => False
      | _ => False
    | some (.dK kvs) => match keyD y with
      | some k => match dget kvs k with
        | some d => Q d μ
        | none => False
      | none => False
    | none => False
  | x => opIxSq x y μ Q
/-- .. of a cell -/
def opIdxC (x y : D) (μ : M) (Q : WQ) : Prop := match x with
  | .cel n => opIdx (.cel n) y μ Q
  | _ => False
def cutD (xs : List D) (lo hi : Option Int) : List D := (xs.drop (HT.sIx xs.length 0 lo)).take (HT.sIx xs.length xs.length hi - HT.sIx xs.length 0 lo)
def opSlc (x : D) (lo hi : Option Int) (μ : M) (Q : WQ) : Prop := match x with
  | .tup xs => ¬ (HT.sIx xs.length 0 lo = 0 ∧ HT.sIx xs.length xs.length hi = xs.length) ∧ Q (.tup (cutD xs lo hi)) μ
  | x => match asR μ x with
    | some xs => newL (cutD xs lo hi) μ Q
    | none => False
/-- a value's truth -/
def truD (μ : M) : D → Option Bool
  | .non => some false
  | .bl b => some b
  | .int i => some (i != 0)
  | .str s => if s.length ≤ sizeLine then some ((s.length : Int) != 0) else none
  | .ty _ => none
  | .tup xs => some (!xs.isEmpty)
  | .lst xs => some (!xs.isEmpty)
  | .scr xs => some (!xs.isEmpty)
  | .cel n => match μ[n]? with
    | some (.lst xs) => some (!xs.isEmpty)
    | some (.dK kvs) => some (!kvs.isEmpty)
    | none => none

/-! ### built-in functions -/
inductive BI where
  | len | abs | int | isi | all | any | tuple | list | gcd | max2 | min2 | str | sorted | repr
  deriving DecidableEq
def tyD (μ : M) : D → Option String
  | .non => some "NoneType"
  | .bl _ => some "bool"
  | .int _ => some "int"
  | .str _ => some "str"
  | .ty _ => none
  | .tup _ => some "tuple"
  | .lst _ => some "list"
  | .scr _ => none
  | .cel n => match μ[n]? with
    | some (.lst _) => some "list"
    | some (.dK _) => some "dict"
    | none => none
def kitsB (a : String) : List D → Option Bool
  | [] => some false
  | .ty b :: r => match kitB a b, kitsB a r with
    | some true, some _ => some true
    | some false, some k => some k
    | _, _ => none
  | _ :: _ => none
def isiD (μ : M) (x : D) : D → Option Bool
  | .ty b => match tyD μ x with
    | some a => kitB a b
    | none => none
  | .tup cs => match tyD μ x with
    | some a => kitsB a cs
    | none => none
  | _ => none
def blsD : List D → Option (List Bool)
  | [] => some []
  | .bl b :: r => (blsD r).map (b :: ·)
  | _ :: _ => none
def lenD (μ : M) : D → Option Nat
  | .str s => if s.length ≤ sizeLine then some s.length else none
  | .cel n => match μ[n]? with
    | some (.lst xs) => some xs.length
    | some (.dK kvs) => some kvs.length
    | none => none
  | d => (asSq μ d).map (·.length)
def intsD : List D → Option (List Int)
  | [] => some []
  | .int i :: r => (intsD r).map (i :: ·)
  | _ :: _ => none
def strsD : List D → Option (List Str)
  | [] => some []
  | .str i :: r => (strsD r).map (i :: ·)
  | _ :: _ => none
def sortI (ns : List Int) : List Int := ns.mergeSort fun i j => decide (i ≤ j)
/-- it stands in the heap -/
def refB : D → Bool
  | .tup _ | .lst _ | .cel _ => true
  | _ => false
def opBlt : BI → List D → M → WQ → Prop
  | .len, [d], μ, Q => match lenD μ d with
    | some n => Q (.int n) μ
    | none => False
  | .abs, [.int i], μ, Q => Q (.int (if i < 0 then -i else i)) μ
  | .int, [.int i], μ, Q => Q (.int i) μ
  | .int, [.bl b], μ, Q => Q (.int (if b then 1 else 0)) μ
  | .isi, [x, t], μ, Q => match isiD μ x t with
    | some b => Q (.bl b) μ
    | none => False
  | .all, [d], μ, Q => match (asL μ d).bind blsD with
    | some bs => Q (.bl (bs.all id)) μ
    | none => False
  | .any, [d], μ, Q => match (asL μ d).bind blsD with
    | some bs => Q (.bl (bs.any id)) μ
    | none => False
  | .tuple, [d], μ, Q => match d with
    | .tup xs => Q (.tup xs) μ
    | d => match asR μ d with
      | some xs => Q (.tup xs) μ
      | none => False
  | .list, [d], μ, Q => match asSq μ d with
    | some xs => newL xs μ Q
    | none => False
  | .gcd, [.int i, .int j], μ, Q => Q (.int ((Nat.gcd i.natAbs j.natAbs : Nat) : Int)) μ
  | .max2, [.int i, .int j], μ, Q => Q (.int (if j > i then j else i)) μ
  | .min2, [.int i, .int j], μ, Q => Q (.int (if j < i then j else i)) μ
  | .str, [.int i], μ, Q => i.natAbs.log2 < 1920 ∧ Q (.str (toString i)) μ
  | .str, [.str a], μ, Q => Q (.str a) μ
  | .sorted, [d], μ, Q => match (asR μ d).bind intsD with
    | some ns => newL ((sortI ns).map .int) μ Q
    | none => False
  | .repr, [d], μ, Q => match toPm μ d with
    | some p => (p.showable && p.canLay0 && decide (p.depth ≤ 64) && refB d) = true ∧ p.shown.length ≤ sizeLine ∧ Q (.str p.shown) μ
    | none => False
  | _, _, _, _ => False
inductive MI where
  | append | extend | pop | join
  deriving DecidableEq
/-- a list that may be changed -/
def mOk (μ : M) : D → Bool
  | .cel n => match μ[n]? with
    | some (.lst _) => true
    | _ => false
  | _ => false
def mOkM (m : MI) (μ : M) (d : D) : Bool := match m with
  | .join => match d with
    | .str _ => true
    | _ => false
  | _ => mOk μ d
def opMth : MI → D → List D → M → WQ → Prop
  | .append, .cel n, [d], μ, Q => match μ[n]? with
    | some (.lst xs) => xs.length < sizeLine ∧ Q .non (μ.set n (.lst (xs ++ [d])))
    | _ => False
  | .pop, .cel n, [], μ, Q => match μ[n]? with
    | some (.lst xs) => match xs[xs.length - 1]? with
      | some d => Q d (μ.set n (.lst xs.dropLast))
      | none => False
    | _ => False
  | .extend, .cel n, [d], μ, Q => match μ[n]? with
    | some (.lst xs) => match d with
      | .cel _ => False
      | d => match asL μ d with
        | some ys => xs.length + ys.length ≤ sizeLine ∧ Q .non (μ.set n (.lst (xs ++ ys)))
        | none => False
    | _ => False
  | .join, .str a, [d], μ, Q => match (asSq μ d).bind strsD with
    | some ys => (ys.map (·.length)).sum + ys.length * a.length ≤ 16777216 ∧ Q (.str (Txt.join a ys)) μ
    | none => False
  | _, _, _, _, _ => False
/-- o[i] = v -/
def opPut (o i v : D) (μ : M) (Q : M → Prop) : Prop := match o with
  | .cel n => match μ[n]? with
    | some (.lst xs) => match i with
      | .int k => match ixN xs.length k with
        | some j => Q (μ.set n (.lst (xs.set j v)))
        | none => False
      | _ => False
    | some (.dK kvs) => match keyD i with
      | some k => kvs.length < sizeLine ∧ Q (μ.set n (.dK (dput kvs k v)))
      | none => False
    | none => False
  | _ => False

/-! ### the core language -/
inductive CT where
  | nm (i : Nat) | tp (is : List Nat)
mutual
inductive CE where
  | var (i : Nat)
  | cst (d : D)
  | typ (n : String)
  | bin (op : Operator) (a b : CE)
  | neg (a : CE)
  | not (a : CE)
  | cmp (op : CmpOp) (a b : CE)
  | chn (o p : CmpOp) (a b c : CE)
  | and (a b : CE)
  | or (a b : CE)
  | ife (c a b : CE)
  | tup (es : CEs)
  | lst (es : CEs)
  | dct (kvs : CPs)
  | idx (a b : CE)
  | slc (a : CE) (lo hi : CEs)
  | cal (f : Nat) (es : CEs)
  | cak (f : Nat) (es : CEs) (ks : List Str) (kes : CEs) (perm : List Nat) (n : Nat)
  | blt (b : BI) (es : CEs)
  | mth (m : MI) (o : CE) (es : CEs)
  | lc (tg : CT) (it : CI) (ifs : CEs) (elt : CE) (own : List Nat)
  | fmt (e : CE)
  | fst (es : CEs)
inductive CI where
  | sq (e : CE)
  | r1 (a : CE)
  | r2 (a b : CE)
  | zp (a b : CE)
inductive CEs where
  | nil
  | cons (e : CE) (r : CEs)
inductive CPs where
  | nil
  | cons (k v : CE) (r : CPs)
end
mutual
inductive CS where
  | set (i : Nat) (e : CE)
  | unp (is : List Nat) (e : CE)
  | par (i j : Nat) (a b : CE)
  | par3 (i j l : Nat) (a b c : CE)
  | put (o i e : CE)
  | augV (i : Nat) (op : Operator) (e : CE)
  | augI (o i : CE) (op : Operator) (e : CE)
  | drop (e : CE)
  | ret (e : CE)
  | retN
  | iff (c : CE) (a b : CSs)
  | whl (c : CE) (b : CSs)
  | for (tg : CT) (it : CI) (b : CSs)
  | brk | cnt | pass
  | dead
inductive CSs where
  | nil
  | cons (s : CS) (r : CSs)
end

/-! ### what is wanted -/
/-- positional values and keywords' values in the parameters' order -/
def permD (perm : List Nat) (n m : Nat) (ds zs : List D) : List D := if ds.length = n ∧ zs.length = m then perm.map fun i => (ds ++ zs).getD i .non else []
def getV (ρ : Rho) (i : Nat) : Option D := match ρ[i]? with
  | some (some d) => some d
  | _ => none
def wipeD (ρ : Rho) : List Nat → Rho
  | [] => ρ
  | j :: js => (wipeD ρ js).set j none
/-- names bound one after another -/
def setsD : List Nat → List D → Rho → Option Rho
  | [], [], ρ => some ρ
  | i :: is, d :: ds, ρ => setsD is ds (ρ.set i (some d))
  | _, _, _ => none
def bindT (μ : M) : CT → D → Rho → Option Rho
  | .nm i, d, ρ => some (ρ.set i (some d))
  | .tp is, .tup ds, ρ => setsD is ds ρ
  | .tp _, _, _ => none
def CT.slots : CT → List Nat
  | .nm i => [i]
  | .tp is => is
/-- what a loop walks: where it stands (a cell that must stay), the items -/
structure Src where
  at_ : Option Nat
  items : List D
def Src.ok (s : Src) (μ : M) : Prop := ∀ n, s.at_ = some n → μ[n]? = some (.lst s.items)
def rangeD (lo : Int) (n : Nat) : List D := (List.range n).map fun (i : Nat) => D.int (lo + (i : Int))
def bnd (i : Int) : Prop := -(2 ^ 62) ≤ i ∧ i < 2 ^ 62
def srcOf (μ : M) : D → Option Src
  | .cel n => match μ[n]? with
    | some (.lst xs) => some ⟨some n, xs⟩
    | _ => none
  | d => (asSq μ d).map fun xs => ⟨none, xs⟩
abbrev WE := Rho → M → WQ → Prop
abbrev WT := Rho → M → (Bool → M → Prop) → Prop
abbrev WA := Rho → M → (List D → M → Prop) → Prop
abbrev WI := Rho → M → (Src → M → Prop) → Prop
/-- a value as a test -/
def ofE (w : WE) : WT := fun ρ μ Q => w ρ μ fun d μ1 => match truD μ1 d with
  | some k => Q k μ1
  | none => False
def wLc (tg : CT) (ifs : WT) (elt : WE) (own : List Nat) (s : Src) (ρ : Rho) (μ : M) (Q : WQ) : Prop :=
  ∃ P : Nat → List D → M → Prop, P 0 [] μ ∧ (∀ i acc μ', P i acc μ' → i ≤ s.items.length → s.ok μ') ∧
    (∀ i x acc μ', s.items[i]? = some x → P i acc μ' → ∃ ρ2, bindT μ' tg x (wipeD ρ own) = some ρ2 ∧ ifs ρ2 μ' fun b μ2 =>
      if b = true then elt ρ2 μ2 fun y μ3 => acc.length < sizeLine ∧ P (i + 1) (acc ++ [y]) μ3 else P (i + 1) acc μ2) ∧
    ∀ acc μ', P s.items.length acc μ' → newL acc μ' Q
def wCmp (op : CmpOp) (x y : D) (μ : M) (Q : Bool → Prop) : Prop := match opCmp op μ x y with
  | some k => Q k
  | none => False
mutual
def wE (Γ : Tab) : CE → WE
  | .var i => fun ρ μ Q => match getV ρ i with
    | some d => Q d μ
    | none => False
  | .cst d => fun _ μ Q => Q d μ
  | .typ n => fun _ μ Q => Q (.ty n) μ
  | .bin op a b => fun ρ μ Q => wE Γ a ρ μ fun x μ1 => wE Γ b ρ μ1 fun y μ2 => opBin op x y μ2 Q
  | .neg a => fun ρ μ Q => wE Γ a ρ μ fun x μ1 => match x with
    | .int i => Q (.int (-i)) μ1
    | _ => False
  | .not a => fun ρ μ Q => wE Γ a ρ μ fun x μ1 => match x with
    | .bl b => Q (.bl (!b)) μ1
    | _ => False
  | .cmp op a b => fun ρ μ Q => wE Γ a ρ μ fun x μ1 => wE Γ b ρ μ1 fun y μ2 => wCmp op x y μ2 fun k => Q (.bl k) μ2
  | .chn o p a b c => fun ρ μ Q => wE Γ a ρ μ fun x μ1 => wE Γ b ρ μ1 fun y μ2 => wCmp o x y μ2 fun k =>
      if k = true then wE Γ c ρ μ2 fun z μ3 => wCmp p y z μ3 fun k2 => Q (.bl k2) μ3 else Q (.bl false) μ2
  | .and a b => fun ρ μ Q => wE Γ a ρ μ fun x μ1 => match x with
    | .bl k => if k = true then wE Γ b ρ μ1 Q else Q (.bl false) μ1
    | _ => False
  | .or a b => fun ρ μ Q => wE Γ a ρ μ fun x μ1 => match x with
    | .bl k => if k = true then Q (.bl true) μ1 else wE Γ b ρ μ1 Q
    | _ => False
  | .ife c a b => fun ρ μ Q => wT Γ c ρ μ fun k μ1 => if k = true then wE Γ a ρ μ1 Q else wE Γ b ρ μ1 Q
  | .tup es => fun ρ μ Q => wEs Γ es ρ μ fun ds μ1 => ds.length ≤ sizeLine ∧ Q (.tup ds) μ1
  | .lst es => fun ρ μ Q => wEs Γ es ρ μ fun ds μ1 => newL ds μ1 Q
  | .dct ps => fun ρ μ Q => wPr Γ ps ρ μ fun kvs μ1 => kvs.length ≤ 15 ∧ kvs ≠ [] ∧ Q (.cel μ1.length) (μ1 ++ [.dK (dmerge [] kvs)])
  | .idx a b => fun ρ μ Q => wE Γ a ρ μ fun x μ1 => wE Γ b ρ μ1 fun y μ2 => opIdx x y μ2 Q
  | .slc a lo hi => fun ρ μ Q => wE Γ a ρ μ fun x μ1 => wO Γ lo ρ μ1 fun l μ2 => wO Γ hi ρ μ2 fun h μ3 => opSlc x l h μ3 Q
  | .cal f es => fun ρ μ Q => wEs Γ es ρ μ fun ds μ1 => Γ f ds μ1 Q
  | .cak f es ks kes perm n => fun ρ μ Q => wEs Γ es ρ μ fun ds μ1 => wEs Γ kes ρ μ1 fun zs μ2 => Γ f (permD perm n ks.length ds zs) μ2 Q
  | .blt b es => fun ρ μ Q => wEs Γ es ρ μ fun ds μ1 => opBlt b ds μ1 Q
  | .mth m o es => fun ρ μ Q => wE Γ o ρ μ fun d μ1 => mOkM m μ1 d = true ∧ wEs Γ es ρ μ1 fun ds μ2 => opMth m d ds μ2 Q
  | .lc tg it ifs elt own => fun ρ μ Q => wI Γ it ρ μ fun s μ1 => wLc tg (wF Γ ifs) (wE Γ elt) own s ρ μ1 Q
  | .fmt e => fun ρ μ Q => wE Γ e ρ μ fun x μ1 => match x with
    | .int i => i.natAbs.log2 < 1920 ∧ Q (.str (toString i)) μ1
    | .str y => y.length ≤ sizeLine ∧ Q (.str y) μ1
    | _ => False
  | .fst es => fun ρ μ Q => wJ Γ es Str.empty ρ μ Q
def wT (Γ : Tab) : CE → WT
  | .not a => fun ρ μ Q => wT Γ a ρ μ fun k μ1 => Q (!k) μ1
  | .and a b => fun ρ μ Q => wT Γ a ρ μ fun k μ1 => if k = true then wT Γ b ρ μ1 Q else Q false μ1
  | .or a b => fun ρ μ Q => wT Γ a ρ μ fun k μ1 => if k = true then Q true μ1 else wT Γ b ρ μ1 Q
  | .var i => ofE fun ρ μ Q => match getV ρ i with
    | some d => Q d μ
    | none => False
  | .cst d => ofE fun _ μ Q => Q d μ
  | .cmp op a b => fun ρ μ Q => wE Γ a ρ μ fun x μ1 => wE Γ b ρ μ1 fun y μ2 => wCmp op x y μ2 fun k => Q k μ2
  | .chn o p a b c => fun ρ μ Q => wE Γ a ρ μ fun x μ1 => wE Γ b ρ μ1 fun y μ2 => wCmp o x y μ2 fun k =>
      if k = true then wE Γ c ρ μ2 fun z μ3 => wCmp p y z μ3 fun k2 => Q k2 μ3 else Q false μ2
  | .idx a b => ofE fun ρ μ Q => wE Γ a ρ μ fun x μ1 => wE Γ b ρ μ1 fun y μ2 => opIdx x y μ2 Q
  | .cal f es => ofE fun ρ μ Q => wEs Γ es ρ μ fun ds μ1 => Γ f ds μ1 Q
  | .cak f es ks kes perm n => ofE fun ρ μ Q => wEs Γ es ρ μ fun ds μ1 => wEs Γ kes ρ μ1 fun zs μ2 => Γ f (permD perm n ks.length ds zs) μ2 Q
  | .blt b es => ofE fun ρ μ Q => wEs Γ es ρ μ fun ds μ1 => opBlt b ds μ1 Q
  | _ => fun _ _ _ => False
/-- texts one behind the other -/
def wJ (Γ : Tab) : CEs → Str → WE
  | .nil, acc => fun _ μ Q => Q (.str acc) μ
  | .cons e r, acc => fun ρ μ Q => wE Γ e ρ μ fun d μ1 => match d with
    | .str y => (acc ++ y).length ≤ sizeLine ∧ wJ Γ r (acc ++ y) ρ μ1 Q
    | _ => False
def wEs (Γ : Tab) : CEs → WA
  | .nil => fun _ μ Q => Q [] μ
  | .cons e r => fun ρ μ Q => wE Γ e ρ μ fun d μ1 => wEs Γ r ρ μ1 fun ds μ2 => Q (d :: ds) μ2
def wPr (Γ : Tab) : CPs → Rho → M → (List (Key × D) → M → Prop) → Prop
  | .nil => fun _ μ Q => Q [] μ
  | .cons k v r => fun ρ μ Q => wE Γ k ρ μ fun x μ1 => wE Γ v ρ μ1 fun d μ2 => match keyD x with
    | some key => wPr Γ r ρ μ2 fun kvs μ3 => Q ((key, d) :: kvs) μ3
    | none => False
def wO (Γ : Tab) : CEs → Rho → M → (Option Int → M → Prop) → Prop
  | .nil => fun _ μ Q => Q none μ
  | .cons e .nil => fun ρ μ Q => wE Γ e ρ μ fun d μ1 => match d with
    | .int i => Q (some i) μ1
    | _ => False
  | .cons _ (.cons _ _) => fun _ _ _ => False
/-- a comprehension's tests: none, or one -/
def wF (Γ : Tab) : CEs → WT
  | .nil => fun _ μ Q => Q true μ
  | .cons c .nil => wT Γ c
  | .cons _ (.cons _ _) => fun _ _ _ => False
def wI (Γ : Tab) : CI → WI
  | .sq e => fun ρ μ Q => wE Γ e ρ μ fun d μ1 => match srcOf μ1 d with
    | some s => Q s μ1
    | none => False
  | .r1 a => fun ρ μ Q => wE Γ a ρ μ fun d μ1 => match d with
    | .int j => bnd j ∧ Q ⟨none, rangeD 0 j.toNat⟩ μ1
    | _ => False
  | .r2 a b => fun ρ μ Q => wE Γ a ρ μ fun d μ1 => wE Γ b ρ μ1 fun e μ2 => match d with
    | .int i => match e with
      | .int j => bnd i ∧ bnd j ∧ Q ⟨none, rangeD i (j - i).toNat⟩ μ2
      | _ => False
    | _ => False
  | .zp a b => fun ρ μ Q => wE Γ a ρ μ fun d μ1 => wE Γ b ρ μ1 fun e μ2 => match d, e with
    | .tup xs, .tup ys => Q ⟨none, List.zipWith (fun x y => .tup [x, y]) xs ys⟩ μ2
    | .lst xs, .lst ys => Q ⟨none, List.zipWith (fun x y => .tup [x, y]) xs ys⟩ μ2
    | _, _ => False
end

structure DEnds where
  nx : Rho → M → Prop
  rt : D → M → Prop
  bk : Rho → M → Prop := fun _ _ => False
  ct : Rho → M → Prop := fun _ _ => False
mutual
def wS (Γ : Tab) : CS → DEnds → Rho → M → Prop
  | .set i e => fun E ρ μ => wE Γ e ρ μ fun d μ1 => E.nx (ρ.set i (some d)) μ1
  | .unp is e => fun E ρ μ => wE Γ e ρ μ fun d μ1 => match d with
    | .tup ds => match setsD is ds ρ with
      | some ρ2 => E.nx ρ2 μ1
      | none => False
    | d => match asL μ1 d with
      | some ds => match setsD is ds ρ with
        | some ρ2 => E.nx ρ2 μ1
        | none => False
      | none => False
  | .par i j a b => fun E ρ μ => wE Γ a ρ μ fun x μ1 => wE Γ b ρ μ1 fun y μ2 => E.nx ((ρ.set i (some x)).set j (some y)) μ2
  | .par3 i j l a b c => fun E ρ μ => wE Γ a ρ μ fun x μ1 => wE Γ b ρ μ1 fun y μ2 => wE Γ c ρ μ2 fun z μ3 => E.nx (((ρ.set i (some x)).set j (some y)).set l (some z)) μ3
  | .put o i e => fun E ρ μ => wE Γ e ρ μ fun v μ1 => wE Γ o ρ μ1 fun x μ2 => wE Γ i ρ μ2 fun y μ3 => opPut x y v μ3 fun μ4 => E.nx ρ μ4
  | .augV i op e => fun E ρ μ => match getV ρ i with
    | some x => wE Γ e ρ μ fun y μ1 => match x, y with
      | .int a, .int b => opBin op (.int a) (.int b) μ1 fun z μ2 => E.nx (ρ.set i (some z)) μ2
      | _, _ => False
    | none => False
  | .augI o i op e => fun E ρ μ => wE Γ o ρ μ fun x μ1 => wE Γ i ρ μ1 fun y μ2 => opIdxC x y μ2 fun old μ3 => wE Γ e ρ μ3 fun z μ4 => match old, z with
      | .int a, .int b => opBin op (.int a) (.int b) μ4 fun r μ5 => opPut x y r μ5 fun μ6 => E.nx ρ μ6
      | _, _ => False
  | .drop e => fun E ρ μ => wE Γ e ρ μ fun _ μ1 => E.nx ρ μ1
  | .ret e => fun E ρ μ => wE Γ e ρ μ E.rt
  | .retN => fun E _ μ => E.rt .non μ
  | .iff c a b => fun E ρ μ => wT Γ c ρ μ fun k μ1 => if k = true then wSs Γ a E ρ μ1 else wSs Γ b E ρ μ1
  | .whl c b => fun E ρ μ => ∃ W : Nat → Rho → M → Prop, (∃ m, W m ρ μ) ∧ ∀ m ρ' μ', W m ρ' μ' → wT Γ c ρ' μ' fun k μ1 =>
      if k = true then wSs Γ b { E with nx := fun ρ2 μ2 => ∃ m', m' < m ∧ W m' ρ2 μ2, ct := fun ρ2 μ2 => ∃ m', m' < m ∧ W m' ρ2 μ2, bk := E.nx } ρ' μ1 else E.nx ρ' μ1
  | .for tg it b => fun E ρ μ => wI Γ it ρ μ fun s μ1 => ∃ P : Nat → Rho → M → Prop, P 0 ρ μ1 ∧ (∀ i ρ' μ', P i ρ' μ' → i ≤ s.items.length → s.ok μ') ∧
      (∀ i x ρ' μ', s.items[i]? = some x → P i ρ' μ' → ∃ ρ2, bindT μ' tg x ρ' = some ρ2 ∧ wSs Γ b { E with nx := P (i + 1), ct := P (i + 1), bk := E.nx } ρ2 μ') ∧
      ∀ ρ' μ', P s.items.length ρ' μ' → E.nx ρ' μ'
  | .brk => fun E ρ μ => E.bk ρ μ
  | .cnt => fun E ρ μ => E.ct ρ μ
  | .pass => fun E ρ μ => E.nx ρ μ
  | .dead => fun _ _ _ => False
def wSs (Γ : Tab) : CSs → DEnds → Rho → M → Prop
  | .nil => fun E ρ μ => E.nx ρ μ
  | .cons s r => fun E ρ μ => wS Γ s { E with nx := fun ρ1 μ1 => wSs Γ r E ρ1 μ1 } ρ μ
end
/-- what leaves a def: as it is, or with its own cells written out -/
def rtD (μ0 : M) (Q : WQ) : WQ := fun d μ => Q d μ ∨ ∃ d', d.frz μ0.length μ = some d' ∧ (∀ i c, i < μ0.length → μ[i]? = some c → (μ0[i]? = some c ∨ c.blw μ0.length = true)) ∧ Q d' (μ.take μ0.length)
def startD (n : Nat) (ds : List D) : Rho := ds.map some ++ List.replicate (n - ds.length) none
/-- a def of n names: its body reaches what is wanted -/
def wDef (Γ : Tab) (n : Nat) (body : CSs) (ds : List D) (μ : M) (Q : WQ) : Prop :=
  wSs Γ body { nx := fun _ μ' => rtD μ Q .non μ', rt := rtD μ Q } (startD n ds) μ
end Rf

set_option Elab.async false
set_option linter.all false
set_option maxRecDepth 100000
/-! Rf2: how plain data stands in the layer's abstract heap -/
namespace Rf
open PySem L2 PySem.Spec PyProof.Rows

/-- a tuple that stands: tracked and no cell, or the module's -/
def FzT (K : PySem.W.Frag) (H : Hp) (Z B : List Addr) (a : Addr) (vs : List V) : Prop :=
  (H a = some (.tup vs) ∧ a ∉ Z ∧ a ∉ B) ∨ ∃ (o : Obj) (its : Array Value) (n : Nat), K.lookup a = some o ∧ o.cls = .type "tuple" ∧ o.data = .seq its n ∧ its.size ≤ sizeLine ∧ Vals vs its.toList
/-- a list that is only read -/
def FzS (K : PySem.W.Frag) (H : Hp) (Z B : List Addr) (a : Addr) (vs : List V) : Prop :=
  (Rd H a (.lst vs) ∧ a ∉ Z ∧ a ∉ B) ∨ ∃ (o : Obj) (its : Array Value) (n : Nat), K.lookup a = some o ∧ o.cls = .type "list" ∧ o.dict = none ∧ o.data = .seq its n ∧ its.size ≤ sizeLine ∧ Vals vs its.toList

mutual
inductive RD (K : PySem.W.Frag) (H : Hp) (Z B : List Addr) : D → V → Prop
  | non : RD K H Z B .non .non
  | bl (b : Bool) : RD K H Z B (.bl b) (.bl b)
  | int (i : Int) : RD K H Z B (.int i) (.int i)
  | str (s : Str) : RD K H Z B (.str s) (.str s)
  | ty (n : String) : RD K H Z B (.ty n) (.ty n)
  | tup {a : Addr} {vs : List V} {ds : List D} : FzT K H Z B a vs → RDs K H Z B ds vs → RD K H Z B (.tup ds) (.ref a)
  | lst {a : Addr} {vs : List V} {ds : List D} : H a = some (.lst vs) → a ∉ Z → a ∉ B → RDs K H Z B ds vs → RD K H Z B (.lst ds) (.ref a)
  | scr {a : Addr} {vs : List V} {ds : List D} : FzS K H Z B a vs → RDs K H Z B ds vs → RD K H Z B (.scr ds) (.ref a)
  | cel {n : Nat} {a : Addr} : Z[n]? = some a → RD K H Z B (.cel n) (.ref a)
inductive RDs (K : PySem.W.Frag) (H : Hp) (Z B : List Addr) : List D → List V → Prop
  | nil : RDs K H Z B [] []
  | cons {d : D} {v : V} {ds : List D} {vs : List V} : RD K H Z B d v → RDs K H Z B ds vs → RDs K H Z B (d :: ds) (v :: vs)
end
abbrev RKs (K : PySem.W.Frag) (H : Hp) (Z B : List Addr) : List (Key × D) → List (Key × V) → Prop := Paired fun p q => p.1 = q.1 ∧ RD K H Z B p.2 q.2
def COk (K : PySem.W.Frag) (H : Hp) (Z B : List Addr) (a : Addr) : CO → Prop
  | .lst ds => ∃ vs, H a = some (.lst vs) ∧ RDs K H Z B ds vs
  | .dK kvs => ∃ kws, H a = some (.dK kws) ∧ RKs K H Z B kvs kws
structure HRel (K : PySem.W.Frag) (μ : M) (Z B : List Addr) (H : Hp) : Prop where
  len : Z.length = μ.length
  nd : Z.Nodup
  zb : ∀ a ∈ Z, a ∉ B
  hb : ∀ a ∈ B, H a ≠ none
  cel : ∀ (i : Nat) (c : CO), μ[i]? = some c → ∃ a, Z[i]? = some a ∧ COk K H Z B a c

/-- what may have changed: the cells; new ones are behind the old ones. W: what may have changed besides -/
structure LeW (W : List Addr) (H : Hp) (Z : List Addr) (H' : Hp) (Z' : List Addr) : Prop where
  keep : ∀ a o, H a = some o → a ∉ Z → a ∉ W → H' a = some o ∧ a ∉ Z'
  pre : ∃ Y, Z' = Z ++ Y
  there : ∀ a o, H a = some o → ∃ o', H' a = some o'
abbrev Le := LeW []
variable {K : PySem.W.Frag} {H H1 H2 H' : Hp} {Z Z1 Z2 Z' B W : List Addr} {μ μ' : M}
theorem LeW.refl : LeW W H Z H Z := ⟨fun _ _ e n _ => ⟨e, n⟩, ⟨[], by simp⟩, fun _ o e => ⟨o, e⟩⟩
theorem LeW.trans (a : LeW W H Z H1 Z1) (b : LeW W H1 Z1 H2 Z2) : LeW W H Z H2 Z2 := by
  refine ⟨fun x o e n w => ?_, ?_, fun x o e => ?_⟩
  · obtain ⟨e1, n1⟩ := a.keep x o e n w
    exact b.keep x o e1 n1 w
  · obtain ⟨Y, rfl⟩ := a.pre
    obtain ⟨Y', rfl⟩ := b.pre
    exact ⟨Y ++ Y', by simp⟩
  · obtain ⟨o1, e1⟩ := a.there x o e
    exact b.there x o1 e1
theorem LeW.weak (a : Le H Z H1 Z1) : LeW W H Z H1 Z1 := ⟨fun x o e n _ => a.keep x o e n (by simp), a.pre, a.there⟩
theorem LeW.mono {W' : List Addr} (a : LeW W H Z H1 Z1) (h : ∀ x ∈ W, x ∈ W') : LeW W' H Z H1 Z1 := ⟨fun x o e n w => a.keep x o e n fun z => w (h x z), a.pre, a.there⟩
theorem LeW.at_ (a : LeW W H Z H1 Z1) {n : Nat} {x : Addr} (h : Z[n]? = some x) : Z1[n]? = some x := by
  obtain ⟨Y, rfl⟩ := a.pre
  rw [List.getElem?_append_left (List.getElem?_eq_some_iff.mp h).1]
  exact h
/-- a new object that is no cell -/
theorem Le.new {p : Addr} {o : HO} (h : H p = none) : Le H Z (upd H p o) Z := ⟨fun a u e n _ => ⟨by rw [upd_ne (ne_of_none e h)]; exact e, n⟩, ⟨[], by simp⟩, fun a u e => ⟨u, by rw [upd_ne (ne_of_none e h)]; exact e⟩⟩
/-- .. that is one -/
theorem Le.newc {p : Addr} {o : HO} (h : H p = none) : Le H Z (upd H p o) (Z ++ [p]) := by
  refine ⟨fun a u e n _ => ⟨by rw [upd_ne (ne_of_none e h)]; exact e, fun z => ?_⟩, ⟨[p], rfl⟩, fun a u e => ⟨u, by rw [upd_ne (ne_of_none e h)]; exact e⟩⟩
  rcases List.mem_append.mp z with z | z
  · exact n z
  · exact ne_of_none e h (by simpa using z)
/-- a cell is written -/
theorem Le.wr {p : Addr} {o : HO} (h : p ∈ Z) : Le H Z (upd H p o) Z := by
  refine ⟨fun a u e n _ => ⟨?_, n⟩, ⟨[], by simp⟩, fun a u e => ?_⟩
  · have q : a ≠ p := fun z => n (by rw [z]; exact h)
    rw [upd_ne q]
    exact e
  · by_cases z : a = p
    · exact ⟨o, by rw [z, upd_same]⟩
    · exact ⟨u, by rw [upd_ne z]; exact e⟩
/-- a busy object is written -/
theorem LeW.wr {p : Addr} {o : HO} (h : p ∈ W) : LeW W H Z (upd H p o) Z := by
  refine ⟨fun a u e n w => ⟨?_, n⟩, ⟨[], by simp⟩, fun a u e => ?_⟩
  · have q : a ≠ p := fun z => w (by rw [z]; exact h)
    rw [upd_ne q]
    exact e
  · by_cases z : a = p
    · exact ⟨o, by rw [z, upd_same]⟩
    · exact ⟨u, by rw [upd_ne z]; exact e⟩
theorem LeW.rd (l : LeW B H Z H' Z') {a : Addr} {u : HO} (h : Rd H a u) (n : a ∉ Z) (b : a ∉ B) : Rd H' a u ∧ a ∉ Z' := by
  rcases h with h | ⟨o, h⟩
  · obtain ⟨e, z⟩ := l.keep a _ h n b
    exact ⟨.inl e, z⟩
  · obtain ⟨e, z⟩ := l.keep a _ h n b
    exact ⟨.inr ⟨o, e⟩, z⟩
theorem FzT.mono {a : Addr} {vs : List V} (l : LeW B H Z H' Z') (h : FzT K H Z B a vs) : FzT K H' Z' B a vs := by
  rcases h with ⟨h, n, b⟩ | h
  · obtain ⟨h', n'⟩ := l.keep _ _ h n b
    exact .inl ⟨h', n', b⟩
  · exact .inr h
theorem FzS.mono {a : Addr} {vs : List V} (l : LeW B H Z H' Z') (h : FzS K H Z B a vs) : FzS K H' Z' B a vs := by
  rcases h with ⟨h, n, b⟩ | h
  · obtain ⟨h', n'⟩ := l.rd h n b
    exact .inl ⟨h', n', b⟩
  · exact .inr h
mutual
theorem RD.mono (l : LeW B H Z H' Z') : ∀ {d : D} {v : V}, RD K H Z B d v → RD K H' Z' B d v
  | _, _, .non => .non
  | _, _, .bl b => .bl b
  | _, _, .int i => .int i
  | _, _, .str s => .str s
  | _, _, .ty n => .ty n
  | _, _, .tup f r => .tup (f.mono l) (RDs.mono l r)
  | _, _, .lst e n b r => .lst (l.keep _ _ e n b).1 (l.keep _ _ e n b).2 b (RDs.mono l r)
  | _, _, .scr f r => .scr (f.mono l) (RDs.mono l r)
  | _, _, .cel e => .cel (l.at_ e)
theorem RDs.mono (l : LeW B H Z H' Z') : ∀ {ds : List D} {vs : List V}, RDs K H Z B ds vs → RDs K H' Z' B ds vs
  | _, _, .nil => .nil
  | _, _, .cons h r => .cons (RD.mono l h) (RDs.mono l r)
end
theorem RKs.mono (l : LeW B H Z H' Z') : ∀ {ds : List (Key × D)} {vs : List (Key × V)}, RKs K H Z B ds vs → RKs K H' Z' B ds vs
  | _, _, .nil => .nil
  | _, _, .cons h r => .cons ⟨h.1, h.2.mono l⟩ (RKs.mono l r)
theorem RD.le (l : Le H Z H' Z') {d : D} {v : V} (h : RD K H Z B d v) : RD K H' Z' B d v := h.mono l.weak
theorem RDs.le (l : Le H Z H' Z') {d : List D} {v : List V} (h : RDs K H Z B d v) : RDs K H' Z' B d v := h.mono l.weak
theorem COk.mono {a : Addr} {c : CO} (l : LeW B H Z H' Z') (e : H' a = H a) (h : COk K H Z B a c) : COk K H' Z' B a c := by
  cases c with
  | lst ds =>
    obtain ⟨vs, h1, h2⟩ := h
    exact ⟨vs, e.trans h1, h2.mono l⟩
  | dK kvs =>
    obtain ⟨vs, h1, h2⟩ := h
    exact ⟨vs, e.trans h1, h2.mono l⟩
theorem COk.there {a : Addr} {c : CO} (h : COk K H Z B a c) : ∃ o, H a = some o := by
  cases c with
  | lst ds =>
    obtain ⟨vs, h1, h2⟩ := h
    exact ⟨_, h1⟩
  | dK kvs =>
    obtain ⟨vs, h1, h2⟩ := h
    exact ⟨_, h1⟩
theorem HRel.there (h : HRel K μ Z B H) {a : Addr} (z : a ∈ Z) : ∃ o, H a = some o := by
  obtain ⟨i, e⟩ := List.mem_iff_getElem?.mp z
  have hi : i < μ.length := by rw [← h.len]; exact (List.getElem?_eq_some_iff.mp e).1
  obtain ⟨a', e', c⟩ := h.cel i _ (List.getElem?_eq_getElem hi)
  rw [e] at e'
  cases e'
  exact c.there
theorem HRel.fresh (h : HRel K μ Z B H) {p : Addr} (n : H p = none) : p ∉ Z ∧ p ∉ B := by
  refine ⟨fun z => ?_, fun z => h.hb p z n⟩
  obtain ⟨o, e⟩ := h.there z
  rw [n] at e
  cases e
/-- all cells as they stood, the rest by LeW -/
theorem HRel.keep (h : HRel K μ Z B H) (l : LeW B H Z H' Z) (same : ∀ a ∈ Z, H' a = H a) : HRel K μ Z B H' := by
  refine ⟨h.len, h.nd, h.zb, fun a hb z => ?_, fun i c e => ?_⟩
  · have := h.hb a hb
    cases e : H a with
    | none => exact this e
    | some o =>
      obtain ⟨o', e'⟩ := l.there a o e
      rw [z] at e'
      cases e'
  · obtain ⟨a, ea, ok⟩ := h.cel i c e
    exact ⟨a, ea, ok.mono l (same a (List.mem_of_getElem? ea))⟩
theorem HRel.new (h : HRel K μ Z B H) {p : Addr} {o : HO} (n : H p = none) : HRel K μ Z B (upd H p o) :=
  h.keep (Le.new n).weak fun a z => upd_ne fun e => (h.fresh n).1 (e ▸ z)
theorem nodup_at {Z : List Addr} (n : Z.Nodup) {i j : Nat} {a : Addr} (h1 : Z[i]? = some a) (h2 : Z[j]? = some a) : i = j := by
  obtain ⟨l1, e1⟩ := List.getElem?_eq_some_iff.mp h1
  obtain ⟨l2, e2⟩ := List.getElem?_eq_some_iff.mp h2
  exact (List.getElem_inj n).mp (e1.trans e2.symm)
/-- a cell is written -/
theorem HRel.wr (h : HRel K μ Z B H) {i : Nat} {a : Addr} {c : CO} {o : HO} (ea : Z[i]? = some a) (ok : COk K (upd H a o) Z B a c) : HRel K (μ.set i c) Z B (upd H a o) := by
  have l : Le H Z (upd H a o) Z := Le.wr (List.mem_of_getElem? ea)
  have hi : i < μ.length := by rw [← h.len]; exact (List.getElem?_eq_some_iff.mp ea).1
  refine ⟨by rw [List.length_set]; exact h.len, h.nd, h.zb, fun b hb z => ?_, fun j c' e => ?_⟩
  · cases e : H b with
    | none => exact h.hb b hb e
    | some u =>
      obtain ⟨o', e'⟩ := l.there b u e
      rw [z] at e'
      cases e'
  · by_cases hj : i = j
    · subst hj
      rw [List.getElem?_set_self hi] at e
      cases e
      exact ⟨a, ea, ok⟩
    · rw [List.getElem?_set_ne hj] at e
      obtain ⟨b, eb, okb⟩ := h.cel j c' e
      refine ⟨b, eb, okb.mono l.weak (upd_ne fun z => hj ?_)⟩
      subst z
      exact nodup_at h.nd ea eb
/-- a new cell -/
theorem HRel.newc (h : HRel K μ Z B H) {p : Addr} {c : CO} {o : HO} (n : H p = none) (ok : COk K (upd H p o) (Z ++ [p]) B p c) : HRel K (μ ++ [c]) (Z ++ [p]) B (upd H p o) := by
  have l : Le H Z (upd H p o) (Z ++ [p]) := Le.newc n
  obtain ⟨nz, nb⟩ := h.fresh n
  refine ⟨by rw [List.length_append, List.length_append, h.len]; rfl, ?_, fun a z => ?_, fun b hb z => ?_, fun j c' e => ?_⟩
  · rw [List.nodup_append]
    refine ⟨h.nd, by simp, fun x hx y hy => ?_⟩
    have : y = p := by simpa using hy
    subst this
    intro e
    exact nz (e ▸ hx)
  · rcases List.mem_append.mp z with z | z
    · exact h.zb a z
    · have : a = p := by simpa using z
      subst this
      exact nb
  · cases e : H b with
    | none => exact h.hb b hb e
    | some u =>
      obtain ⟨o', e'⟩ := l.there b u e
      rw [z] at e'
      cases e'
  · by_cases hj : j < μ.length
    · rw [List.getElem?_append_left hj] at e
      obtain ⟨b, eb, okb⟩ := h.cel j c' e
      exact ⟨b, l.at_ eb, okb.mono l.weak (upd_ne fun z => nz (z ▸ List.mem_of_getElem? eb))⟩
    · rw [List.getElem?_append_right (by omega)] at e
      have hj' : j - μ.length = 0 := by
        by_cases z : j - μ.length = 0
        · exact z
        · rw [List.getElem?_eq_none (by simp; omega)] at e
          cases e
      rw [hj'] at e
      cases e
      have : j = Z.length := by rw [h.len]; omega
      subst this
      exact ⟨p, by simp, ok⟩
/-- more that is busy -/
theorem FzT.busy {p a : Addr} {vs : List V} (n : H p = none) (h : FzT K H Z B a vs) : FzT K H Z (p :: B) a vs := by
  rcases h with ⟨h, z, b⟩ | h
  · refine .inl ⟨h, z, fun e => ?_⟩
    rcases List.mem_cons.mp e with e | e
    · subst e
      rw [n] at h; cases h
    · exact b e
  · exact .inr h
theorem FzS.busy {p a : Addr} {vs : List V} (n : H p = none) (h : FzS K H Z B a vs) : FzS K H Z (p :: B) a vs := by
  rcases h with ⟨h, z, b⟩ | h
  · refine .inl ⟨h, z, fun e => ?_⟩
    rcases List.mem_cons.mp e with e | e
    · subst e
      rcases h with h | ⟨_, h⟩ <;> (rw [n] at h; cases h)
    · exact b e
  · exact .inr h
mutual
theorem RD.busy {p : Addr} (n : H p = none) : ∀ {d : D} {v : V}, RD K H Z B d v → RD K H Z (p :: B) d v
  | _, _, .non => .non
  | _, _, .bl b => .bl b
  | _, _, .int i => .int i
  | _, _, .str s => .str s
  | _, _, .ty m => .ty m
  | _, _, .tup f r => .tup (f.busy n) (RDs.busy n r)
  | _, _, .lst e z b r => .lst e z (fun q => by
      rcases List.mem_cons.mp q with q | q
      · exact ne_of_none e n q
      · exact b q) (RDs.busy n r)
  | _, _, .scr f r => .scr (f.busy n) (RDs.busy n r)
  | _, _, .cel e => .cel e
theorem RDs.busy {p : Addr} (n : H p = none) : ∀ {ds : List D} {vs : List V}, RDs K H Z B ds vs → RDs K H Z (p :: B) ds vs
  | _, _, .nil => .nil
  | _, _, .cons h r => .cons (RD.busy n h) (RDs.busy n r)
end
mutual
theorem RD.free {p : Addr} : ∀ {d : D} {v : V}, RD K H Z (p :: B) d v → RD K H Z B d v
  | _, _, .non => .non
  | _, _, .bl b => .bl b
  | _, _, .int i => .int i
  | _, _, .str s => .str s
  | _, _, .ty m => .ty m
  | _, _, .tup f r => .tup (by
      rcases f with ⟨h, z, b⟩ | h
      · exact .inl ⟨h, z, fun e => b (List.mem_cons_of_mem _ e)⟩
      · exact .inr h) (RDs.free r)
  | _, _, .lst e z b r => .lst e z (fun q => b (List.mem_cons_of_mem _ q)) (RDs.free r)
  | _, _, .scr f r => .scr (by
      rcases f with ⟨h, z, b⟩ | h
      · exact .inl ⟨h, z, fun e => b (List.mem_cons_of_mem _ e)⟩
      · exact .inr h) (RDs.free r)
  | _, _, .cel e => .cel e
theorem RDs.free {p : Addr} : ∀ {ds : List D} {vs : List V}, RDs K H Z (p :: B) ds vs → RDs K H Z B ds vs
  | _, _, .nil => .nil
  | _, _, .cons h r => .cons (RD.free h) (RDs.free r)
end
theorem RKs.free {p : Addr} : ∀ {ds : List (Key × D)} {vs : List (Key × V)}, RKs K H Z (p :: B) ds vs → RKs K H Z B ds vs
  | _, _, .nil => .nil
  | _, _, .cons h r => .cons ⟨h.1, h.2.free⟩ (RKs.free r)
theorem RKs.busy {p : Addr} (n : H p = none) : ∀ {ds : List (Key × D)} {vs : List (Key × V)}, RKs K H Z B ds vs → RKs K H Z (p :: B) ds vs
  | _, _, .nil => .nil
  | _, _, .cons h r => .cons ⟨h.1, h.2.busy n⟩ (RKs.busy n r)
theorem COk.busy {p a : Addr} {c : CO} (n : H p = none) (h : COk K H Z B a c) : COk K H Z (p :: B) a c := by
  cases c with
  | lst ds =>
    obtain ⟨vs, h1, h2⟩ := h
    exact ⟨vs, h1, h2.busy n⟩
  | dK kvs =>
    obtain ⟨vs, h1, h2⟩ := h
    exact ⟨vs, h1, RKs.busy n h2⟩
theorem COk.free {p a : Addr} {c : CO} (h : COk K H Z (p :: B) a c) : COk K H Z B a c := by
  cases c with
  | lst ds =>
    obtain ⟨vs, h1, h2⟩ := h
    exact ⟨vs, h1, h2.free⟩
  | dK kvs =>
    obtain ⟨vs, h1, h2⟩ := h
    exact ⟨vs, h1, RKs.free h2⟩
/-- a new object is laid and busy -/
theorem HRel.lay (h : HRel K μ Z B H) {p : Addr} {o : HO} (n : H p = none) : HRel K μ Z (p :: B) (upd H p o) := by
  obtain ⟨nz, nb⟩ := h.fresh n
  have l : Le H Z (upd H p o) Z := Le.new n
  refine ⟨h.len, h.nd, fun a z e => ?_, fun a e z => ?_, fun i c e => ?_⟩
  · rcases List.mem_cons.mp e with e | e
    · exact nz (e ▸ z)
    · exact h.zb a z e
  · rcases List.mem_cons.mp e with e | e
    · subst e
      rw [upd_same] at z
      cases z
    · have q : a ≠ p := fun q => nb (by rw [← q]; exact e)
      rw [upd_ne q] at z
      exact h.hb a e z
  · obtain ⟨a, ea, ok⟩ := h.cel i c e
    exact ⟨a, ea, (ok.busy n).mono l.weak (upd_ne fun q => nz (q ▸ List.mem_of_getElem? ea))⟩
theorem HRel.unlay {p : Addr} (h : HRel K μ Z (p :: B) H) : HRel K μ Z B H :=
  ⟨h.len, h.nd, fun a z e => h.zb a z (List.mem_cons_of_mem _ e), fun a e => h.hb a (List.mem_cons_of_mem _ e), fun i c e => by
    obtain ⟨a, ea, ok⟩ := h.cel i c e
    exact ⟨a, ea, ok.free⟩⟩
/-- a busy object becomes a cell -/
theorem LeW.cell {p : Addr} : LeW (p :: B) H Z H (Z ++ [p]) := by
  refine ⟨fun a o e n w => ⟨e, fun z => ?_⟩, ⟨[p], rfl⟩, fun a o e => ⟨o, e⟩⟩
  rcases List.mem_append.mp z with z | z
  · exact n z
  · exact w (by have : a = p := by simpa using z
                rw [this]; exact List.mem_cons_self)
theorem HRel.celled {p : Addr} (h : HRel K μ Z (p :: B) H) (hp : p ∉ B) {c : CO} (ok : COk K H (Z ++ [p]) B p c) : HRel K (μ ++ [c]) (Z ++ [p]) B H := by
  have nz : p ∉ Z := fun z => h.zb p z (List.mem_cons_self)
  refine ⟨by rw [List.length_append, List.length_append, h.len]; rfl, ?_, fun a z => ?_, fun b hb => h.hb b (List.mem_cons_of_mem _ hb), fun j c' e => ?_⟩
  · rw [List.nodup_append]
    refine ⟨h.nd, by simp, fun x hx y hy => ?_⟩
    have : y = p := by simpa using hy
    subst this
    intro e
    exact nz (e ▸ hx)
  · rcases List.mem_append.mp z with z | z
    · exact fun e => h.zb a z (List.mem_cons_of_mem _ e)
    · have : a = p := by simpa using z
      subst this
      exact hp
  · by_cases hj : j < μ.length
    · rw [List.getElem?_append_left hj] at e
      obtain ⟨b, eb, okb⟩ := h.cel j c' e
      exact ⟨b, (LeW.cell (B := B) (H := H) (p := p)).at_ eb, (okb.mono LeW.cell rfl).free⟩
    · rw [List.getElem?_append_right (by omega)] at e
      have hj' : j - μ.length = 0 := by
        by_cases z : j - μ.length = 0
        · exact z
        · rw [List.getElem?_eq_none (by simp; omega)] at e
          cases e
      rw [hj'] at e
      cases e
      have : j = Z.length := by rw [h.len]; omega
      subst this
      exact ⟨p, by simp, ok⟩
theorem RDs.length {ds : List D} {vs : List V} (h : RDs K H Z B ds vs) : ds.length = vs.length := by
  induction ds generalizing vs with
  | nil => cases h; rfl
  | cons d ds ih =>
    cases h with
    | cons _ r => simp [ih r]
theorem RDs.get {ds : List D} {vs : List V} (h : RDs K H Z B ds vs) {i : Nat} {d : D} (e : ds[i]? = some d) : ∃ v, vs[i]? = some v ∧ RD K H Z B d v := by
  induction ds generalizing vs i with
  | nil => simp at e
  | cons x ds ih =>
    cases h with
    | cons r rs =>
      cases i with
      | zero =>
        simp at e
        subst e
        exact ⟨_, rfl, r⟩
      | succ i => exact ih rs (by simpa using e)
theorem RDs.get' {ds : List D} {vs : List V} (h : RDs K H Z B ds vs) {i : Nat} {v : V} (e : vs[i]? = some v) : ∃ d, ds[i]? = some d ∧ RD K H Z B d v := by
  have hi : i < ds.length := by rw [h.length]; exact (List.getElem?_eq_some_iff.mp e).1
  obtain ⟨v', e', r⟩ := h.get (List.getElem?_eq_getElem hi)
  rw [e] at e'
  cases e'
  exact ⟨_, List.getElem?_eq_getElem hi, r⟩
theorem RDs.append {ds es : List D} {vs ws : List V} (h : RDs K H Z B ds vs) (g : RDs K H Z B es ws) : RDs K H Z B (ds ++ es) (vs ++ ws) := by
  induction ds generalizing vs with
  | nil => cases h; exact g
  | cons x ds ih =>
    cases h with
    | cons r rs => exact .cons r (ih rs)
theorem RDs.set {ds : List D} {vs : List V} (h : RDs K H Z B ds vs) {d : D} {v : V} (r : RD K H Z B d v) (i : Nat) : RDs K H Z B (ds.set i d) (vs.set i v) := by
  induction ds generalizing vs i with
  | nil => cases h; exact .nil
  | cons x ds ih =>
    cases h with
    | cons q rs =>
      cases i with
      | zero => exact .cons r rs
      | succ i => exact .cons q (ih rs i)
theorem RDs.take {ds : List D} {vs : List V} (h : RDs K H Z B ds vs) (n : Nat) : RDs K H Z B (ds.take n) (vs.take n) := by
  induction ds generalizing vs n with
  | nil => cases h; simp; exact .nil
  | cons x ds ih =>
    cases h with
    | cons q rs =>
      cases n with
      | zero => exact .nil
      | succ n => exact .cons q (ih rs n)
theorem RDs.drop {ds : List D} {vs : List V} (h : RDs K H Z B ds vs) (n : Nat) : RDs K H Z B (ds.drop n) (vs.drop n) := by
  induction ds generalizing vs n with
  | nil => cases h; simp; exact .nil
  | cons x ds ih =>
    cases h with
    | cons q rs =>
      cases n with
      | zero => exact .cons q rs
      | succ n => exact ih rs n
theorem RDs.dropLast {ds : List D} {vs : List V} (h : RDs K H Z B ds vs) : RDs K H Z B ds.dropLast vs.dropLast := by
  rw [List.dropLast_eq_take, List.dropLast_eq_take, h.length]
  exact h.take _
theorem RDs.isEmpty {ds : List D} {vs : List V} (h : RDs K H Z B ds vs) : ds.isEmpty = vs.isEmpty := by
  cases h <;> rfl
theorem RDs.atI {ds : List D} {vs : List V} (h : RDs K H Z B ds vs) {i : Int} {d : D} (e : L2.atI ds i = some d) : ∃ v, L2.atI vs i = some v ∧ RD K H Z B d v := by
  unfold L2.atI at e ⊢
  rw [← h.length]
  cases q : ixN ds.length i with
  | none => rw [q] at e; cases e
  | some j =>
    rw [q] at e
    exact h.get e
theorem RDs.cut {ds : List D} {vs : List V} (h : RDs K H Z B ds vs) (lo hi : Option Int) : RDs K H Z B (cutD ds lo hi) (cutV vs lo hi) := by
  unfold cutD cutV
  rw [h.length]
  exact (h.drop _).take _
theorem cutD_le (xs : List D) (lo hi : Option Int) : (cutD xs lo hi).length ≤ xs.length := by
  unfold cutD
  rw [List.length_take, List.length_drop]
  omega
/-! ### dicts -/
theorem RKs.get {ds : List (Key × D)} {vs : List (Key × V)} (h : RKs K H Z B ds vs) {k : Key} : (∀ d, dget ds k = some d → ∃ v, valV vs k = some v ∧ RD K H Z B d v) ∧ (dget ds k = none → valV vs k = none) := by
  induction h with
  | nil => exact ⟨fun d e => by simp [dget] at e, fun _ => rfl⟩
  | @cons p q ps qs r rs ih =>
    obtain ⟨k1, d1⟩ := p
    obtain ⟨k2, v2⟩ := q
    obtain ⟨e, r⟩ := r
    simp only at e r
    subst e
    by_cases z : k1 = k
    · refine ⟨fun d e => ?_, fun e => ?_⟩
      · simp [dget, z] at e
        subst e
        exact ⟨v2, valV_pos z, r⟩
      · simp [dget, z] at e
    · have e1 : dget ((k1, d1) :: ps) k = dget ps k := by simp [dget, z]
      have e2 : valV ((k1, v2) :: qs) k = valV qs k := valV_neg z
      rw [e1, e2]
      exact ih
theorem RKs.isSome {ds : List (Key × D)} {vs : List (Key × V)} (h : RKs K H Z B ds vs) {k : Key} : (dget ds k).isSome = (valV vs k).isSome := by
  cases e : dget ds k with
  | none => rw [h.get.2 e]; rfl
  | some d =>
    obtain ⟨v, e', _⟩ := h.get.1 d e
    rw [e']; rfl
theorem RKs.any {ds : List (Key × D)} {vs : List (Key × V)} (h : RKs K H Z B ds vs) {k : Key} : (ds.any fun kv => decide (kv.1 = k)) = (vs.any fun kv => decide (kv.1 = k)) := by
  induction h with
  | nil => rfl
  | @cons p q ps qs r rs ih =>
    simp only [List.any_cons, ih, r.1]
theorem RKs.put {ds : List (Key × D)} {vs : List (Key × V)} (h : RKs K H Z B ds vs) {k : Key} {d : D} {v : V} (r : RD K H Z B d v) : RKs K H Z B (dput ds k d) (putK vs k v) := by
  unfold dput putK
  rw [h.any]
  split
  · induction h with
    | nil => exact .nil
    | @cons p q ps qs s rs ih =>
      refine .cons ?_ ?_
      · obtain ⟨k1, d1⟩ := p
        obtain ⟨k2, v2⟩ := q
        obtain ⟨e, s⟩ := s
        simp only at e s ⊢
        subst e
        split
        · exact ⟨rfl, r⟩
        · exact ⟨rfl, s⟩
      · have go : ∀ {ds : List (Key × D)} {vs : List (Key × V)}, RKs K H Z B ds vs → RKs K H Z B (ds.map fun kv => if kv.1 = k then (kv.1, d) else kv) (vs.map fun kv => if kv.1 = k then (kv.1, v) else kv) := by
          intro ds vs h
          induction h with
          | nil => exact .nil
          | @cons p q ps qs s rs ih =>
            refine .cons ?_ ih
            obtain ⟨k1, d1⟩ := p
            obtain ⟨k2, v2⟩ := q
            obtain ⟨e, s⟩ := s
            simp only at e s ⊢
            subst e
            split
            · exact ⟨rfl, r⟩
            · exact ⟨rfl, s⟩
        exact go rs
  · have go : ∀ {ds : List (Key × D)} {vs : List (Key × V)}, RKs K H Z B ds vs → RKs K H Z B (ds ++ [(k, d)]) (vs ++ [(k, v)]) := by
      intro ds vs h
      induction h with
      | nil => exact .cons ⟨rfl, r⟩ .nil
      | @cons p q ps qs s rs ih => exact .cons s ih
    exact go h
theorem RKs.merge {more : List (Key × D)} {mv : List (Key × V)} (h : RKs K H Z B more mv) : ∀ {ds : List (Key × D)} {vs : List (Key × V)}, RKs K H Z B ds vs → RKs K H Z B (dmerge ds more) (mergeK vs mv) := by
  induction h with
  | nil => intro ds vs h; exact h
  | @cons p q ps qs s rs ih =>
    intro ds vs h
    obtain ⟨k1, d1⟩ := p
    obtain ⟨k2, v2⟩ := q
    obtain ⟨e, s⟩ := s
    simp only at e s
    subst e
    exact ih (h.put s)
theorem RKs.length {ds : List (Key × D)} {vs : List (Key × V)} (h : RKs K H Z B ds vs) : ds.length = vs.length := by
  induction h with
  | nil => rfl
  | cons _ _ ih => simp [ih]
theorem keyD_rel {d : D} {k : Key} (e : keyD d = some k) {v : V} (r : RD K H Z B d v) : v = kV k := by
  cases r <;> simp [keyD] at e <;> subst e <;> rfl
end Rf

set_option Elab.async false
set_option linter.all false
set_option maxRecDepth 100000
/-! Rf3: the operations on plain data are what the layer's operations do -/
namespace Rf
open PySem L2 PySem.Spec PyProof.Rows

/-- what is wanted of a plain end, of the layer's end -/
def Fin (K : PySem.W.Frag) (H : Hp) (Z B : List Addr) (Q : WQ) (Q' : VK) : Prop :=
  ∀ (d : D) (μ' : M) (w : V) (H' : Hp) (Z' : List Addr), Le H Z H' Z' → HRel K μ' Z' B H' → RD K H' Z' B d w → Q d μ' → Q' w H'
variable {K : PySem.W.Frag} {H H1 H2 H' : Hp} {Z Z1 Z' B : List Addr} {μ μ' : M}
theorem Fin.here {Q : WQ} {Q' : VK} (f : Fin K H Z B Q Q') (hr : HRel K μ Z B H) {d : D} {w : V} (r : RD K H Z B d w) (q : Q d μ) : Q' w H := f d μ w H Z LeW.refl hr r q
theorem Fin.later {Q : WQ} {Q' : VK} (f : Fin K H Z B Q Q') (l : Le H Z H1 Z1) : Fin K H1 Z1 B Q Q' := fun d μ' w H' Z' l' hr r q => f d μ' w H' Z' (l.trans l') hr r q
theorem FzT.sq {a : Addr} {vs : List V} (h : FzT K H Z B a vs) : SqT K H a vs := by
  rcases h with ⟨h, _, _⟩ | h
  · exact .inl (.inl h)
  · exact .inr h
theorem FzS.sq {a : Addr} {vs : List V} (h : FzS K H Z B a vs) : SqL K H a vs := by
  rcases h with ⟨h, _, _⟩ | h
  · exact .inl h
  · exact .inr h
/-- a new tuple -/
theorem newT_ok {Q : WQ} {Q' : VK} (f : Fin K H Z B Q Q') (hr : HRel K μ Z B H) {ds : List D} {vs : List V} (r : RDs K H Z B ds vs) (q : Q (.tup ds) μ) {p : Addr} (n : H p = none) : Q' (.ref p) (upd H p (.tup vs)) := by
  have l : Le H Z (upd H p (.tup vs)) Z := Le.new n
  obtain ⟨n1, n2⟩ := hr.fresh n
  exact f _ _ _ _ _ l (hr.new n) (.tup (.inl ⟨upd_same, n1, n2⟩) (r.le l)) q
/-- a new list, by either way -/
theorem newL_ok {Q : WQ} {Q' : VK} (f : Fin K H Z B Q Q') (hr : HRel K μ Z B H) {ds : List D} {vs : List V} (r : RDs K H Z B ds vs) (q : newL ds μ Q) : vs.length ≤ sizeLine ∧ ∀ p, H p = none → Q' (.ref p) (upd H p (.lst vs)) := by
  obtain ⟨hl, q⟩ := q
  refine ⟨by rw [← r.length]; exact hl, fun p n => ?_⟩
  obtain ⟨n1, n2⟩ := hr.fresh n
  rcases q with q | q
  · have l : Le H Z (upd H p (.lst vs)) Z := Le.new n
    exact f _ _ _ _ _ l (hr.new n) (.lst upd_same n1 n2 (r.le l)) q
  · have l : Le H Z (upd H p (.lst vs)) (Z ++ [p]) := Le.newc n
    exact f _ _ _ _ _ l (hr.newc (c := .lst ds) n ⟨vs, upd_same, r.le l⟩) (.cel (by rw [← hr.len]; simp)) q
theorem HRel.at_ (hr : HRel K μ Z B H) {n : Nat} {c : CO} (e : μ[n]? = some c) {v : V} (r : RD K H Z B (.cel n) v) : ∃ a, v = .ref a ∧ Z[n]? = some a ∧ COk K H Z B a c := by
  obtain ⟨a, ea, ok⟩ := hr.cel n c e
  cases r with
  | cel e' => rw [ea] at e'; cases e'; exact ⟨_, rfl, ea, ok⟩
theorem asL_ok (hr : HRel K μ Z B H) {x : D} {xs : List D} (e : asL μ x = some xs) {v : V} (r : RD K H Z B x v) : ∃ a vs, v = .ref a ∧ H a = some (.lst vs) ∧ RDs K H Z B xs vs := by
  cases x with
  | lst ys =>
    cases e
    cases r with
    | lst e _ _ rs => exact ⟨_, _, rfl, e, rs⟩
  | cel n =>
    simp only [asL] at e
    split at e
    · rename_i ys eq
      cases e
      obtain ⟨a, rfl, _, vs, h1, h2⟩ := hr.at_ eq r
      exact ⟨a, vs, rfl, h1, h2⟩
    · cases e
  | _ => simp [asL] at e
theorem asR_eq : ∀ x : D, (∀ ys, x ≠ .scr ys) → asR μ x = asL μ x := fun x h => by
  cases x <;> first
    | rfl
    | exact absurd rfl (h _)
theorem asSq_eq : ∀ x : D, (∀ ys, x ≠ .tup ys) → asSq μ x = asR μ x := fun x h => by
  cases x <;> first
    | rfl
    | exact absurd rfl (h _)
theorem toPm_eq : ∀ x : D, (∀ ys, x ≠ .cel ys) → toPm μ x = toP x := fun x h => by
  cases x <;> first
    | rfl
    | exact absurd rfl (h _)
theorem asR_ok (hr : HRel K μ Z B H) {x : D} {xs : List D} (e : asR μ x = some xs) {v : V} (r : RD K H Z B x v) : ∃ a vs, v = .ref a ∧ SqL K H a vs ∧ RDs K H Z B xs vs := by
  cases x with
  | scr ys =>
    cases e
    cases r with
    | scr f rs => exact ⟨_, _, rfl, f.sq, rs⟩
  | _ =>
    rw [asR_eq _ (by intro ys q; cases q)] at e
    obtain ⟨a, vs, e1, e2, e3⟩ := asL_ok hr e r
    exact ⟨a, vs, e1, .of e2, e3⟩
theorem asSq_ok (hr : HRel K μ Z B H) {x : D} {xs : List D} (e : asSq μ x = some xs) {v : V} (r : RD K H Z B x v) : ∃ a vs, v = .ref a ∧ (SqL K H a vs ∨ SqT K H a vs) ∧ RDs K H Z B xs vs := by
  cases x with
  | tup ys =>
    cases e
    cases r with
    | tup f rs => exact ⟨_, _, rfl, .inr f.sq, rs⟩
  | _ =>
    rw [asSq_eq _ (by intro ys q; cases q)] at e
    obtain ⟨a, vs, e1, e2, e3⟩ := asR_ok hr e r
    exact ⟨a, vs, e1, .inl e2, e3⟩

/-! ### two-place operations -/
def upO (K : PySem.W.Frag) (o : D → D → M → WQ → Prop) : R2 := fun v u H Q' => ∃ (x y : D) (μ : M) (Z B : List Addr) (Q : WQ), HRel K μ Z B H ∧ RD K H Z B x v ∧ RD K H Z B y u ∧ o x y μ Q ∧ Fin K H Z B Q Q'
section
variable {X : Cx}
theorem opI_ok {f : Value → Value → Sem Value} {C : Int → Int → Prop} {g : Int → Int → Int} (h : OpR X f (rI C fun i j => .int (g i j))) : OpR X f (upO X.K (opI C g)) := by
  intro pins s σ H x y v u Q I rx ry hw
  obtain ⟨dx, dy, μ, Z, B, Q0, hr, r1, r2, ho, fin⟩ := hw
  cases dx with
  | int i =>
    cases dy with
    | int j =>
      cases r1
      cases r2
      exact h pins s σ H _ _ v u Q I rx ry ⟨i, j, rfl, rfl, ho.1, fin.here hr (.int _) ho.2⟩
    | _ => exact False.elim ho
  | _ => exact False.elim ho
theorem add_lists {x y : D} {μ : M} {Q0 : WQ} {pins : List (Addr × Obj)} {s : Shared} {σ : L2.St} {H : Hp} {vx vy : V} {v u : Value} {Q : VK} {Z B : List Addr} (I : Inv X pins σ H s) (rx : RelV vx v) (ry : RelV vy u)
    (hr : HRel X.K μ Z B H) (r1 : RD X.K H Z B x vx) (r2 : RD X.K H Z B y vy) (h : ∃ xs ys, asL μ x = some xs ∧ asL μ y = some ys ∧ newL (xs ++ ys) μ Q0) (fin : Fin X.K H Z B Q0 Q) :
    wpAny (model X.prog X.w) X.A (binaryOp .Add v u) (EP X pins σ Q) X.xe s := by
  obtain ⟨xs, ys, e1, e2, q⟩ := h
  obtain ⟨a, vs, rfl, h1, s1⟩ := asL_ok hr e1 r1
  obtain ⟨b, ws, rfl, h2, s2⟩ := asL_ok hr e2 r2
  obtain ⟨hl, k⟩ := newL_ok fin hr (s1.append s2) q
  exact op_cat pins s σ H _ _ v u Q I rx ry ⟨a, b, vs, ws, rfl, rfl, h1, h2, by rw [List.length_append] at hl; exact hl, k⟩
theorem add_ok : OpR X (binaryOp .Add) (upO X.K opAdd) := by
  intro pins s σ H x y v u Q I rx ry hw
  obtain ⟨dx, dy, μ, Z, B, Q0, hr, r1, r2, ho, fin⟩ := hw
  cases dx with
  | int i =>
    cases dy with
    | int j =>
      cases r1
      cases r2
      exact op_add pins s σ H _ _ v u Q I rx ry ⟨i, j, rfl, rfl, fin.here hr (.int _) ho⟩
    | _ => exact False.elim ho
  | str a =>
    cases dy with
    | str b =>
      cases r1
      cases r2
      exact op_add_str pins s σ H _ _ v u Q I rx ry ⟨a, b, rfl, rfl, ho.1, fin.here hr (.str _) ho.2⟩
    | _ => exact False.elim ho
  | tup xs =>
    cases dy with
    | tup ys =>
      cases r1 with
      | tup f1 s1 =>
        cases r2 with
        | tup f2 s2 =>
          obtain ⟨h0, hl, q⟩ := ho
          refine op_catT pins s σ H _ _ v u Q I rx ry ⟨_, _, _, _, rfl, rfl, f1.sq, f2.sq, ?_, ?_, fun e => ?_, fun e p n => ?_⟩
          · intro z
            apply h0
            have := s1.length
            rw [z] at this
            exact List.length_eq_zero_iff.mp this
          · rw [← s1.length, ← s2.length]; exact hl
          · have e2 : ys = [] := by
              have := s2.length
              rw [e] at this
              exact List.length_eq_zero_iff.mp this
            subst e2
            rw [List.append_nil] at q
            exact fin.here hr (.tup f1 s1) q
          · exact newT_ok fin hr (s1.append s2) q n
    | _ => exact False.elim ho
  | lst xs => exact add_lists I rx ry hr r1 r2 ho fin
  | cel n => exact add_lists I rx ry hr r1 r2 ho fin
  | non => exact add_lists I rx ry hr r1 r2 ho fin
  | bl b => exact add_lists I rx ry hr r1 r2 ho fin
  | ty n => exact add_lists I rx ry hr r1 r2 ho fin
  | scr xs => exact add_lists I rx ry hr r1 r2 ho fin
theorem OpR.falls {f : Value → Value → Sem Value} : OpR X f (upO X.K fun _ _ _ _ => False) := by
  intro pins s σ H x y v u Q I rx ry hw
  obtain ⟨dx, dy, μ, Z, B, Q0, hr, r1, r2, ho, fin⟩ := hw
  exact False.elim ho
theorem sub_ok : OpR X (binaryOp .Sub) (upO X.K (opI (fun _ _ => True) fun i j => i - j)) := by
  refine opI_ok fun pins s σ H x y v u Q I rx ry hw => ?_
  obtain ⟨i, j, e1, e2, _, q⟩ := hw
  exact op_sub pins s σ H x y v u Q I rx ry ⟨i, j, e1, e2, q⟩
theorem mul_ok : OpR X (binaryOp .Mult) (upO X.K (opI (fun i j => CMul i j ∨ CMulW i j) fun i j => i * j)) := by
  refine opI_ok fun pins s σ H x y v u Q I rx ry hw => ?_
  obtain ⟨i, j, e1, e2, hc, q⟩ := hw
  rcases hc with hc | hc
  · exact op_mul pins s σ H x y v u Q I rx ry ⟨i, j, e1, e2, hc, q⟩
  · exact op_mulW pins s σ H x y v u Q I rx ry ⟨i, j, e1, e2, hc, q⟩
theorem pow_ok : OpR X (binaryOp .Pow) (upO X.K (opI (fun i j => CPow i j ∨ CPowW i j) fun i j => i ^ j.toNat)) := by
  refine opI_ok fun pins s σ H x y v u Q I rx ry hw => ?_
  obtain ⟨i, j, e1, e2, hc, q⟩ := hw
  rcases hc with hc | hc
  · exact op_pow pins s σ H x y v u Q I rx ry ⟨i, j, e1, e2, hc, q⟩
  · subst e1 e2
    obtain ⟨t1, rfl⟩ := rx
    obtain ⟨t2, rfl⟩ := ry
    exact pow_int hc.1 hc.2 ⟨.int _, H, I.tok _, ⟨_, rfl⟩, q⟩
theorem bin_ok (op : Operator) : OpR X (binaryOp op) (upO X.K (opBin op)) := by
  cases op with
  | Add => exact add_ok
  | Sub => exact sub_ok
  | Mult => exact mul_ok
  | FloorDiv => exact opI_ok op_fdivW
  | Mod => exact opI_ok op_mod
  | Pow => exact pow_ok
  | LShift => exact opI_ok op_shl
  | RShift => exact opI_ok op_shr
  | _ => exact OpR.falls

/-! ### comparisons -/
mutual
theorem toP_ok : ∀ {d : D} {p : PyData} {v : V}, toP d = some p → RD K H Z B d v → Dp K H v p
  | .non, p, v, e, r => by cases e; cases r; exact .non
  | .bl b, p, v, e, r => by cases e; cases r; exact .bl b
  | .int i, p, v, e, r => by cases e; cases r; exact .int i
  | .str x, p, v, e, r => by cases e; cases r; exact .str x
  | .tup xs, p, v, e, r => by
    cases h : toPs xs with
    | none => rw [toP, h] at e; cases e
    | some ps =>
      rw [toP, h] at e
      cases e
      cases r with
      | tup f rs => exact .tup f.sq (toPs_ok h rs)
  | .lst xs, p, v, e, r => by
    cases h : toPs xs with
    | none => rw [toP, h] at e; cases e
    | some ps =>
      rw [toP, h] at e
      cases e
      cases r with
      | lst f _ _ rs => exact .lst (.of f) (toPs_ok h rs)
  | .scr _, p, v, e, r => by simp [toP] at e
  | .ty _, p, v, e, r => by simp [toP] at e
  | .cel _, p, v, e, r => by simp [toP] at e
theorem toPs_ok : ∀ {ds : List D} {ps : List PyData} {vs : List V}, toPs ds = some ps → RDs K H Z B ds vs → DpAll K H vs ps
  | [], ps, vs, e, r => by cases e; cases r; exact .nil
  | d :: ds, ps, vs, e, r => by
    cases r with
    | cons r1 r2 =>
      cases h1 : toP d with
      | none => simp [toPs, h1] at e
      | some p =>
        cases h2 : toPs ds with
        | none => simp [toPs, h1, h2] at e
        | some qs =>
          simp [toPs, h1, h2] at e
          subst e
          exact .cons (toP_ok h1 r1) (toPs_ok h2 r2)
end
theorem toPm_ok (hr : HRel K μ Z B H) {d : D} {p : PyData} {v : V} (e : toPm μ d = some p) (r : RD K H Z B d v) : Dp K H v p := by
  cases d with
  | cel n =>
    simp only [toPm] at e
    split at e
    · rename_i xs q
      obtain ⟨a, rfl, _, vs, h1, h2⟩ := hr.at_ q r
      cases h : toPs xs with
      | none => rw [h] at e; cases e
      | some ps =>
        rw [h] at e
        cases e
        exact .lst (.of h1) (toPs_ok h h2)
    · cases e
  | _ =>
    rw [toPm_eq _ (by intro ys q; cases q)] at e
    exact toP_ok e r
theorem flat_ok {d : D} {w v : V} (e : flat d = some w) (r : RD K H Z B d v) : v = w := by
  cases r <;> simp [flat] at e <;> exact e
theorem flats_ok {ds : List D} {ws vs : List V} (e : flats ds = some ws) (r : RDs K H Z B ds vs) : vs = ws := by
  induction ds generalizing ws vs with
  | nil => cases e; cases r; rfl
  | cons d ds ih =>
    cases r with
    | cons r1 r2 =>
      cases h1 : flat d with
      | none => simp [flats, h1] at e
      | some p =>
        cases h2 : flats ds with
        | none => simp [flats, h1, h2] at e
        | some qs =>
          simp [flats, h1, h2] at e
          subst e
          rw [flat_ok h1 r1, ih h2 r2]
def upC (K : PySem.W.Frag) (op : CmpOp) : R2 := fun v u H Q' => ∃ (x y : D) (μ : M) (Z B : List Addr) (k : Bool), HRel K μ Z B H ∧ RD K H Z B x v ∧ RD K H Z B y u ∧ opCmp op μ x y = some k ∧ Q' (.bl k) H
theorem cmpI_ok {f : Value → Value → Sem Value} {op : CmpOp} {g : Int → Int → Bool} (e : opCmp op = fun _ => cmpI g) (h : OpR X f (rI0 fun i j => .bl (g i j))) : OpR X f (upC X.K op) := by
  intro pins s σ H x y v u Q I rx ry hw
  obtain ⟨dx, dy, μ, Z, B, k, hr, r1, r2, ho, q⟩ := hw
  rw [e] at ho
  cases dx with
  | int i =>
    cases dy with
    | int j =>
      cases r1
      cases r2
      cases ho
      exact h pins s σ H _ _ v u Q I rx ry ⟨i, j, rfl, rfl, q⟩
    | _ => simp [cmpI] at ho
  | _ => simp [cmpI] at ho
theorem eqD_ok (hr : HRel K μ Z B H) {x y : D} {v u : V} {k : Bool} (r1 : RD K H Z B x v) (r2 : RD K H Z B y u) (h : eqP μ x y = some k) : ∃ d e, Dp K H v d ∧ Dp K H u e ∧ SeqAt.shaped d = true ∧ SeqAt.shaped e = true ∧ PyData.eqv d e = k := by
  unfold eqP at h
  split at h
  · rename_i a b h1 h2
    split at h
    · rename_i hs
      rw [Bool.and_eq_true] at hs
      exact ⟨a, b, toPm_ok hr h1 r1, toPm_ok hr h2 r2, hs.1, hs.2, Option.some.inj h⟩
    · cases h
  · cases h
theorem eq_cases {x y : D} {k : Bool} (h : eqD μ x y = some k) : (∃ a b, x = .str a ∧ y = .str b ∧ k = decide (a = b)) ∨ eqP μ x y = some k := by
  cases x with
  | str a =>
    cases y with
    | str b => cases h; exact .inl ⟨a, b, rfl, rfl, rfl⟩
    | _ => exact .inr h
  | _ => exact .inr h
theorem dec_v {a b : Str} : decide (V.str a = V.str b) = decide (a = b) := by
  rw [Bool.eq_iff_iff]
  simp
theorem eq_ok (hu : X.A.units + 64 < cLine) : OpR X (compareOp .Eq) (upC X.K .Eq) := by
  intro pins s σ H x y v u Q I rx ry hw
  obtain ⟨dx, dy, μ, Z, B, k, hr, r1, r2, ho, q⟩ := hw
  rcases eq_cases ho with ⟨a, b, rfl, rfl, rfl⟩ | ho
  · cases r1
    cases r2
    exact op_eq pins s σ H _ _ v u Q I rx ry ⟨rfl, by rw [dec_v]; exact q⟩
  obtain ⟨d, e, h1, h2, h3, h4, h5⟩ := eqD_ok hr r1 r2 ho
  exact op_eqD hu pins s σ H x y v u Q I rx ry ⟨d, e, h1, h2, h3, h4, by rw [h5]; exact q⟩
theorem ne_ok (hu : X.A.units + 64 < cLine) : OpR X (compareOp .NotEq) (upC X.K .NotEq) := by
  intro pins s σ H x y v u Q I rx ry hw
  obtain ⟨dx, dy, μ, Z, B, k, hr, r1, r2, ho, q⟩ := hw
  have ho : (eqD μ dx dy).map (!·) = some k := ho
  cases e : eqD μ dx dy with
  | none => rw [e] at ho; cases ho
  | some j =>
    rw [e] at ho
    cases ho
    rcases eq_cases e with ⟨a, b, rfl, rfl, rfl⟩ | e
    · cases r1
      cases r2
      exact op_ne pins s σ H _ _ v u Q I rx ry ⟨rfl, by rw [dec_v]; exact q⟩
    obtain ⟨d, e, h1, h2, h3, h4, h5⟩ := eqD_ok hr r1 r2 e
    exact op_neD hu pins s σ H x y v u Q I rx ry ⟨d, e, h1, h2, h3, h4, by rw [h5]; exact q⟩
theorem is_ok : OpR X (compareOp .Is) (upC X.K .Is) := by
  intro pins s σ H x y v u Q I rx ry hw
  obtain ⟨dx, dy, μ, Z, B, k, hr, r1, r2, ho, q⟩ := hw
  have ho : isD dx dy = some k := ho
  cases dy with
  | non =>
    cases r2
    refine op_isN pins s σ H x _ v u Q I rx ry ⟨rfl, ?_⟩
    cases r1 <;> (simp [isD] at ho; subst ho; simpa using q)
  | bl b =>
    cases dx with
    | bl a =>
      cases r1
      cases r2
      cases ho
      exact op_isBl pins s σ H _ _ v u Q I rx ry ⟨a, b, rfl, rfl, q⟩
    | _ => simp [isD] at ho
  | _ => simp [isD] at ho
theorem isnot_ok : OpR X (compareOp .IsNot) (upC X.K .IsNot) := by
  intro pins s σ H x y v u Q I rx ry hw
  obtain ⟨dx, dy, μ, Z, B, k, hr, r1, r2, ho, q⟩ := hw
  have ho : (isD dx dy).map (!·) = some k := ho
  cases dy with
  | non =>
    cases r2
    refine op_notN pins s σ H x _ v u Q I rx ry ⟨rfl, ?_⟩
    cases r1 <;> (simp [isD] at ho; subst ho; simpa using q)
  | bl b =>
    cases dx with
    | bl a =>
      cases r1
      cases r2
      cases ho
      exact op_notBl pins s σ H _ _ v u Q I rx ry ⟨a, b, rfl, rfl, q⟩
    | _ => simp [isD] at ho
  | _ => simp [isD] at ho
theorem inD_ok (hr : HRel K μ Z B H) {x y : D} {v u : V} {k : Bool} (r1 : RD K H Z B x v) (r2 : RD K H Z B y u) (h : inD μ x y = some k) :
    (∃ p ws, u = .ref p ∧ (SqL K H p ws ∨ SqT K H p ws) ∧ flatV v = true ∧ ws.all flatV = true ∧ inV v ws = k) ∨ ∃ p o, u = .ref p ∧ DGet H p v o ∧ o.isSome = k := by
  have seqs : ∀ {xs : List D} {p : Addr} {ws : List V}, u = .ref p → (SqL K H p ws ∨ SqT K H p ws) → RDs K H Z B xs ws →
      (match flat x, flats xs with | some v, some vs => if flatV v && vs.all flatV then some (inV v vs) else none | _, _ => none) = some k →
      ∃ p ws, u = .ref p ∧ (SqL K H p ws ∨ SqT K H p ws) ∧ flatV v = true ∧ ws.all flatV = true ∧ inV v ws = k := by
    intro xs p ws eu sq rs h
    split at h
    · rename_i a b e1 e2
      have := flat_ok e1 r1
      subst this
      have := flats_ok e2 rs
      subst this
      split at h
      · rename_i hc
        rw [Bool.and_eq_true] at hc
        exact ⟨p, _, eu, sq, hc.1, hc.2, Option.some.inj h⟩
      · cases h
    · cases h
  cases y with
  | cel n =>
    unfold inD at h
    simp only at h
    split at h
    · rename_i xs q
      obtain ⟨a, rfl, _, vs, h1, h2⟩ := hr.at_ q r2
      exact .inl (seqs rfl (.inl (.of h1)) h2 h)
    · rename_i kvs q
      obtain ⟨a, rfl, _, kws, h1, h2⟩ := hr.at_ q r2
      cases e : keyD x with
      | none => rw [e] at h; cases h
      | some key =>
        rw [e] at h
        have h : (dget kvs key).isSome = k := Option.some.inj h
        have ev := keyD_rel e r1
        subst ev
        exact .inr ⟨a, _, rfl, DGet.k h1, by rw [← h2.isSome]; exact h⟩
    · cases h
  | _ =>
    unfold inD at h
    simp only at h
    split at h
    · rename_i xs q
      obtain ⟨a, vs, eu, sq, rs⟩ := asSq_ok hr q r2
      exact .inl (seqs eu sq rs h)
    · cases h
theorem in_ok (hu : X.A.units + 64 < cLine) : OpR X (compareOp .In) (upC X.K .In) := by
  intro pins s σ H x y v u Q I rx ry hw
  obtain ⟨dx, dy, μ, Z, B, k, hr, r1, r2, ho, q⟩ := hw
  rcases inD_ok hr r1 r2 ho with ⟨p, ws, rfl, sq, f1, f2, e⟩ | ⟨p, o, rfl, g, e⟩
  · exact op_in_seq pins s σ H x _ v u Q I rx ry ⟨p, ws, rfl, sq, f1, f2, by simp only [e]; exact q⟩
  · cases (show u = Value.ref p from ry)
    exact d_in (by omega) I g rx fun s3 I3 => ⟨.bl _, H, I3, rfl, by rw [e]; exact q⟩
theorem notin_ok (hu : X.A.units + 64 < cLine) : OpR X (compareOp .NotIn) (upC X.K .NotIn) := by
  intro pins s σ H x y v u Q I rx ry hw
  obtain ⟨dx, dy, μ, Z, B, k, hr, r1, r2, ho, q⟩ := hw
  have ho : (inD μ dx dy).map (!·) = some k := ho
  cases e0 : inD μ dx dy with
  | none => rw [e0] at ho; cases ho
  | some j =>
    rw [e0] at ho
    cases ho
    rcases inD_ok hr r1 r2 e0 with ⟨p, ws, rfl, sq, f1, f2, e⟩ | ⟨p, o, rfl, g, e⟩
    · exact op_notIn_seq pins s σ H x _ v u Q I rx ry ⟨p, ws, rfl, sq, f1, f2, by simp only [e]; exact q⟩
    · cases (show u = Value.ref p from ry)
      exact d_notIn (by omega) I g rx fun s3 I3 => ⟨.bl _, H, I3, rfl, by rw [e]; exact q⟩
theorem cmp_ok (hu : X.A.units + 64 < cLine) (op : CmpOp) : OpR X (compareOp op) (upC X.K op) := by
  cases op with
  | Eq => exact eq_ok hu
  | NotEq => exact ne_ok hu
  | Lt => exact cmpI_ok rfl op_lt
  | LtE => exact cmpI_ok rfl op_le
  | Gt => exact cmpI_ok rfl op_gt
  | GtE => exact cmpI_ok rfl op_ge
  | Is => exact is_ok
  | IsNot => exact isnot_ok
  | In => exact in_ok hu
  | NotIn => exact notin_ok hu

/-! ### subscripts -/
theorem ix_dict (hu : X.A.units + 64 < cLine) : IxR X (fun x y H Q => ∃ a v, x = .ref a ∧ DGet H a y (some v) ∧ Q v H) := by
  intro value slice pins s σ H x y v u Q I rx ry h hs
  obtain ⟨a, w, rfl, g, q⟩ := h
  cases (show v = Value.ref a from rx)
  have hT := dict_typeIs I g
  unfold subscriptTail
  refine wpAny_bind ?_
  rw [getitemInPython_of_ne hT.not_modules]
  refine wpAny_bind (wpAny_specialOf hT PySem.F.slot_dict_getitem.lookup ?_)
  have fin : wpAny (model X.prog X.w) X.A (subscripted slice false (.ref a) u) (fun r s₃ => wpAny (model X.prog X.w) X.A (letTemporaryGo value (.ref a) r >>= fun _ => pure r) (EP X pins σ Q) X.xe s₃) X.xe s := by
    rw [hs]
    exact wpAny_operating (d_getItem (by omega) I g ry fun w' s3 I3 rw' => wpAny_bind (wpAny_letTemporaryGo (wpAny_pure ⟨w, H, I3, rw', q⟩)))
  first
    | exact wpAny_pure (wpAny_bind fin)
    | exact wpAny_bind (wpAny_pure (wpAny_bind fin))
    | exact wpAny_bind fin
theorem idx_ok (hu : X.A.units + 64 < cLine) : IxR X (upO X.K opIdx) := by
  intro value slice pins s σ H x y v u Q I rx ry hw hs
  obtain ⟨dx, dy, μ, Z, B, Q0, hr, r1, r2, ho, fin⟩ := hw
  have seqs : opIxSq dx dy μ Q0 → wpAny (model X.prog X.w) X.A (subscriptTail value slice v u) (EP X pins σ Q) X.xe s := by
    intro ho
    unfold opIxSq at ho
    cases e1 : asSq μ dx with
    | none => rw [e1] at ho; exact ho.elim
    | some xs =>
    rw [e1] at ho
    cases dy with
    | int i =>
      simp only at ho
      split at ho
      · rename_i d e2
        obtain ⟨a, vs, rfl, sq, rs⟩ := asSq_ok hr e1 r1
        obtain ⟨w, e3, rw'⟩ := rs.atI e2
        cases r2
        have q := fin.here hr rw' ho
        exact ix_seq value slice pins s σ H _ _ v u Q I rx ry (by
          rcases sq with sq | sq
          · exact .inl ⟨a, vs, i, w, rfl, rfl, sq, e3, q⟩
          · exact .inr (.inl ⟨a, vs, i, w, rfl, rfl, sq, e3, q⟩)) hs
      · exact ho.elim
    | _ => exact ho.elim
  cases dx with
  | str z =>
    cases r1
    cases dy with
    | int i =>
      cases r2
      unfold opIdx at ho
      simp only at ho
      split at ho
      · rename_i c e
        exact ix_str value slice pins s σ H _ _ v u Q I rx ry ⟨z, i, c, rfl, rfl, ho.1, e, fin.here hr (.str _) ho.2⟩ hs
      · exact ho.elim
    | _ => exact False.elim ho
  | cel n =>
    unfold opIdx at ho
    simp only at ho
    split at ho
    · rename_i xs e
      cases dy with
      | int i =>
        simp only at ho
        split at ho
        · rename_i d e2
          obtain ⟨a, rfl, _, vs, h1, rs⟩ := hr.at_ e r1
          obtain ⟨w, e3, rw'⟩ := rs.atI e2
          cases r2
          exact ix_list value slice pins s σ H _ _ v u Q I rx ry ⟨a, vs, i, w, rfl, rfl, .of h1, e3, fin.here hr rw' ho⟩ hs
        · exact ho.elim
      | _ => exact False.elim ho
    · rename_i kvs e
      split at ho
      · rename_i k ek
        split at ho
        · rename_i d e2
          obtain ⟨a, rfl, _, kws, h1, rs⟩ := hr.at_ e r1
          obtain ⟨w, e3, rw'⟩ := rs.get.1 d e2
          have ev := keyD_rel ek r2
          subst ev
          exact ix_dict hu value slice pins s σ H _ _ v u Q I rx ry ⟨a, w, rfl, by rw [← e3]; exact DGet.k h1, fin.here hr rw' ho⟩ hs
        · exact ho.elim
      · exact ho.elim
    · exact ho.elim
  | tup xs => exact seqs ho
  | lst xs => exact seqs ho
  | scr xs => exact seqs ho
  | non => exact seqs ho
  | bl b => exact seqs ho
  | int b => exact seqs ho
  | ty b => exact seqs ho

/-! ### slices -/
def upS (K : PySem.W.Frag) : V → Option Int → Option Int → Hp → VK → Prop := fun v lo hi H Q' => ∃ (x : D) (μ : M) (Z B : List Addr) (Q : WQ), HRel K μ Z B H ∧ RD K H Z B x v ∧ opSlc x lo hi μ Q ∧ Fin K H Z B Q Q'
theorem slc_ok : SlR X (upS X.K) := by
  have go : SlR X (fun x lo hi H Q => rSlT X.K x lo hi H Q ∨ rSlL X.K x lo hi H Q) := sl_tup.or sl_list
  intro a b c d e f g h lo hi k l m n o p p' ho
  refine go a b c d e f g h lo hi k l m n o p p' ?_
  clear go
  obtain ⟨x, μ, Z, B, Q0, hr, r1, ho, fin⟩ := ho
  have lists : (match asR μ x with | some xs => newL (cutD xs lo hi) μ Q0 | none => False) → rSlL X.K e lo hi d l := by
    intro ho
    split at ho
    · rename_i xs q
      obtain ⟨a, vs, rfl, sq, rs⟩ := asR_ok hr q r1
      exact ⟨a, vs, rfl, sq, (newL_ok fin hr (rs.cut lo hi) ho).2⟩
    · exact ho.elim
  cases x with
  | tup xs =>
    obtain ⟨h1, q⟩ := ho
    cases r1 with
    | tup ft rs => exact .inl ⟨_, _, rfl, ft.sq, by rw [← rs.length]; exact h1, fun p n => newT_ok fin hr (rs.cut lo hi) q n⟩
  | lst xs => exact .inr (lists ho)
  | scr xs => exact .inr (lists ho)
  | cel n => exact .inr (lists ho)
  | non => exact .inr (lists ho)
  | bl b => exact .inr (lists ho)
  | int b => exact .inr (lists ho)
  | str b => exact .inr (lists ho)
  | ty b => exact .inr (lists ho)
end
end Rf

set_option Elab.async false
set_option linter.all false
set_option maxRecDepth 100000
/-! Rf4: truth, built-ins, methods, stores; expressions by parts -/
namespace Rf
open PySem L2 PySem.Spec PyProof.Rows
variable {K : PySem.W.Frag} {H H1 H2 H' : Hp} {Z Z1 Z' B : List Addr} {μ μ' : M}

theorem tru_rel (hr : HRel K μ Z B H) {d : D} {k : Bool} (e : truD μ d = some k) {v : V} (r : RD K H Z B d v) : TruV K v H k := by
  cases d with
  | non => cases r; simp [truD] at e; subst e; rfl
  | bl b => cases r; simp [truD] at e; subst e; rfl
  | int i => cases r; simp only [truD] at e; cases e; rfl
  | str s =>
    cases r
    simp only [truD] at e
    split at e
    · rename_i h
      cases e
      exact ⟨h, rfl⟩
    · cases e
  | ty n => simp [truD] at e
  | tup xs =>
    cases r with
    | tup f rs =>
      simp only [truD] at e
      cases e
      exact .inr (.inl ⟨_, f.sq, by rw [rs.isEmpty]⟩)
  | lst xs =>
    cases r with
    | lst f _ _ rs =>
      simp only [truD] at e
      cases e
      exact .inl ⟨_, .of f, by rw [rs.isEmpty]⟩
  | scr xs =>
    cases r with
    | scr f rs =>
      simp only [truD] at e
      cases e
      exact .inl ⟨_, f.sq, by rw [rs.isEmpty]⟩
  | cel n =>
    simp only [truD] at e
    split at e
    · rename_i xs q
      cases e
      obtain ⟨a, rfl, _, vs, h1, rs⟩ := hr.at_ q r
      exact .inl ⟨_, .of h1, by rw [rs.isEmpty]⟩
    · rename_i kvs q
      cases e
      obtain ⟨a, rfl, _, vs, h1, rs⟩ := hr.at_ q r
      refine .inr (.inr ⟨_, h1, ?_⟩)
      cases rs <;> rfl
    · cases e

/-! ### types -/
theorem ty_rel (hr : HRel K μ Z B H) {d : D} {t : String} (e : tyD μ d = some t) {v : V} (r : RD K H Z B d v) : TyX K H v (.type t) := by
  cases d with
  | non => cases r; cases e; exact .base .non
  | bl b => cases r; cases e; exact .base (.bl _)
  | int i => cases r; cases e; exact .base (.int _)
  | str s => cases r; cases e; exact .base (.str _)
  | ty n => cases e
  | tup xs =>
    cases e
    cases r with
    | tup f rs =>
      rcases f with ⟨f, _, _⟩ | ⟨o, its, n, k, c, _⟩
      · exact .base (.tup f)
      · exact .kTuple k c
  | lst xs =>
    cases e
    cases r with
    | lst f _ _ rs => exact .base (.lst f)
  | scr xs => cases e
  | cel n =>
    simp only [tyD] at e
    split at e
    · rename_i xs q
      cases e
      obtain ⟨a, rfl, _, vs, h1, rs⟩ := hr.at_ q r
      exact .base (.lst h1)
    · rename_i kvs q
      cases e
      obtain ⟨a, rfl, _, vs, h1, rs⟩ := hr.at_ q r
      exact .base (.dK h1)
    · cases e
theorem kits_ok {a : String} : ∀ {cs : List D} {k : Bool} {vs : List V}, kitsB a cs = some k → RDs K H Z B cs vs → ∃ us, Paired ClsV vs us ∧ PySem.W.kitAny K (.type a) us = some k
  | [], k, vs, e, r => by
    cases r
    cases e
    exact ⟨[], .nil, rfl⟩
  | d :: cs, k, vs, e, r => by
    cases r with
    | cons r1 r2 =>
      cases d with
      | ty b =>
        cases r1
        simp only [kitsB] at e
        cases h1 : kitB a b with
        | none => rw [h1] at e; simp at e
        | some j =>
          cases h2 : kitsB a cs with
          | none =>
            rw [h1, h2] at e
            cases j <;> simp at e
          | some l =>
            obtain ⟨us, p, q⟩ := kits_ok h2 r2
            rw [h1, h2] at e
            refine ⟨.type b :: us, .cons (.ty b) p, ?_⟩
            cases j with
            | true =>
              simp at e
              subst e
              exact kitAny_cons (kit_ty h1) (fun z => by cases z) fun _ => rfl
            | false =>
              simp at e
              subst e
              exact kitAny_cons (kit_ty h1) (fun _ => q) fun z => by cases z
      | _ => simp [kitsB] at e

/-! ### built-in functions -/
def upL (K : PySem.W.Frag) (o : List D → M → WQ → Prop) : List V → Hp → VK → Prop := fun vs H Q' => ∃ (ds : List D) (μ : M) (Z B : List Addr) (Q : WQ), HRel K μ Z B H ∧ RDs K H Z B ds vs ∧ o ds μ Q ∧ Fin K H Z B Q Q'
theorem rds1 {d : D} {vs : List V} (r : RDs K H Z B [d] vs) : ∃ v, vs = [v] ∧ RD K H Z B d v := by
  cases r with
  | cons r1 r2 => cases r2; exact ⟨_, rfl, r1⟩
theorem rds2 {d e : D} {vs : List V} (r : RDs K H Z B [d, e] vs) : ∃ v w, vs = [v, w] ∧ RD K H Z B d v ∧ RD K H Z B e w := by
  cases r with
  | cons r1 r2 =>
    obtain ⟨w, rfl, r3⟩ := rds1 r2
    exact ⟨_, w, rfl, r1, r3⟩
theorem bls_ok : ∀ {ds : List D} {bs : List Bool} {vs : List V}, blsD ds = some bs → RDs K H Z B ds vs → vs = bs.map V.bl
  | [], bs, vs, e, r => by cases r; cases e; rfl
  | d :: ds, bs, vs, e, r => by
    cases r with
    | cons r1 r2 =>
      cases d with
      | bl b =>
        cases r1
        cases h : blsD ds with
        | none => simp [blsD, h] at e
        | some cs =>
          simp [blsD, h] at e
          subst e
          rw [bls_ok h r2]
          rfl
      | _ => simp [blsD] at e
section
variable {X : Cx}
theorem CallR.falls {f : Value} : CallR X f (upL X.K fun _ _ _ => False) := by
  intro pins s σ H xs us Q I r hw
  obtain ⟨ds, μ, Z, B, Q0, hr, rs, ho, fin⟩ := hw
  exact ho.elim
/-- the shape of an argument list that a built-in serves -/
theorem len_ok : CallR X (.builtin "len") (upL X.K (opBlt .len)) := by
  intro pins s σ H xs us Q I r hw
  obtain ⟨ds, μ, Z, B, Q0, hr, rs, ho, fin⟩ := hw
  match ds, rs, ho with
  | [], rs, ho => exact ho.elim
  | _ :: _ :: _, rs, ho => exact ho.elim
  | [d], rs, ho =>
    obtain ⟨v, rfl, rv⟩ := rds1 rs
    simp only [opBlt] at ho
    cases e : lenD μ d with
    | none => rw [e] at ho; exact ho.elim
    | some n =>
      rw [e] at ho
      have q := fin.here hr (.int n) ho
      cases d with
      | str z =>
        cases rv
        simp only [lenD] at e
        split at e
        · rename_i hz
          cases e
          exact call_len pins s σ H _ us Q I r ⟨_, _, rfl, ⟨hz, rfl⟩, q⟩
        · cases e
      | cel m =>
        simp only [lenD] at e
        split at e
        · rename_i ys h
          cases e
          obtain ⟨a, rfl, _, vs, h1, rs'⟩ := hr.at_ h rv
          exact call_len pins s σ H _ us Q I r ⟨_, _, rfl, .inl ⟨_, .of h1, by rw [rs'.length]⟩, q⟩
        · rename_i kvs h
          cases e
          obtain ⟨a, rfl, _, vs, h1, rs'⟩ := hr.at_ h rv
          exact call_lenD pins s σ H _ us Q I r ⟨a, vs, rfl, h1, by rw [← rs'.length]; exact q⟩
        · cases e
      | _ =>
        simp only [lenD, Option.map_eq_some_iff] at e
        obtain ⟨ys, e1, e2⟩ := e
        obtain ⟨a, vs, rfl, sq, rs'⟩ := asSq_ok hr e1 rv
        subst e2
        rw [rs'.length] at q
        refine call_len pins s σ H _ us Q I r ⟨_, _, rfl, ?_, q⟩
        rcases sq with sq | sq
        · exact .inl ⟨_, sq, rfl⟩
        · exact .inr ⟨_, sq, rfl⟩
theorem abs_ok : CallR X (.builtin "abs") (upL X.K (opBlt .abs)) := by
  intro pins s σ H xs us Q I r hw
  obtain ⟨ds, μ, Z, B, Q0, hr, rs, ho, fin⟩ := hw
  match ds, rs, ho with
  | [], rs, ho => exact ho.elim
  | _ :: _ :: _, rs, ho => simp [opBlt] at ho
  | [d], rs, ho =>
    obtain ⟨v, rfl, rv⟩ := rds1 rs
    cases d with
    | int i => cases rv; exact call_abs pins s σ H _ us Q I r ⟨i, rfl, fin.here hr (.int _) ho⟩
    | _ => simp [opBlt] at ho
theorem int_ok : CallR X (.type "int") (upL X.K (opBlt .int)) := by
  intro pins s σ H xs us Q I r hw
  obtain ⟨ds, μ, Z, B, Q0, hr, rs, ho, fin⟩ := hw
  match ds, rs, ho with
  | [], rs, ho => exact ho.elim
  | _ :: _ :: _, rs, ho => simp [opBlt] at ho
  | [d], rs, ho =>
    obtain ⟨v, rfl, rv⟩ := rds1 rs
    cases d with
    | int i => cases rv; exact call_int1 pins s σ H _ us Q I r (.inl ⟨i, rfl, fin.here hr (.int _) ho⟩)
    | bl i => cases rv; exact call_int1 pins s σ H _ us Q I r (.inr ⟨i, rfl, fin.here hr (.int _) ho⟩)
    | _ => simp [opBlt] at ho
theorem str_ok : CallR X (.type "str") (upL X.K (opBlt .str)) := by
  intro pins s σ H xs us Q I r hw
  obtain ⟨ds, μ, Z, B, Q0, hr, rs, ho, fin⟩ := hw
  match ds, rs, ho with
  | [], rs, ho => exact ho.elim
  | _ :: _ :: _, rs, ho => simp [opBlt] at ho
  | [d], rs, ho =>
    obtain ⟨v, rfl, rv⟩ := rds1 rs
    cases d with
    | int i => cases rv; exact call_str_int pins s σ H _ us Q I r ⟨i, rfl, ho.1, fin.here hr (.str _) ho.2⟩
    | str i => cases rv; exact SkE.call_str_str pins s σ H _ us Q I r ⟨i, rfl, fin.here hr (.str _) ho⟩
    | _ => simp [opBlt] at ho
theorem intsD_ok : ∀ {ds : List D} {ns : List Int} {vs : List V}, intsD ds = some ns → RDs K H Z B ds vs → vs = ns.map V.int
  | [], ns, vs, e, r => by cases r; cases e; rfl
  | d :: ds, ns, vs, e, r => by
    cases r with
    | cons r1 r2 =>
      cases d with
      | int i =>
        simp only [intsD] at e
        cases e2 : intsD ds with
        | none => rw [e2] at e; cases e
        | some ms =>
          rw [e2] at e
          cases e
          cases r1
          rw [intsD_ok e2 r2]; rfl
      | _ => simp [intsD] at e
theorem strsD_ok : ∀ {ds : List D} {ns : List Str} {vs : List V}, strsD ds = some ns → RDs K H Z B ds vs → vs = ns.map V.str
  | [], ns, vs, e, r => by cases r; cases e; rfl
  | d :: ds, ns, vs, e, r => by
    cases r with
    | cons r1 r2 =>
      cases d with
      | str i =>
        simp only [strsD] at e
        cases e2 : strsD ds with
        | none => rw [e2] at e; cases e
        | some ms =>
          rw [e2] at e
          cases e
          cases r1
          rw [strsD_ok e2 r2]; rfl
      | _ => simp [strsD] at e
theorem ints_rd : ∀ {ns : List Int}, RDs K H Z B (ns.map .int) (ns.map V.int)
  | [] => .nil
  | n :: ns => .cons (.int n) ints_rd
theorem sortI_eq {ns ms : List Int} (h : ms.Perm ns) (hs : ms.Pairwise (· ≤ ·)) : ms = sortI ns := by
  have h2 : (sortI ns).Perm ns := List.mergeSort_perm _ _
  have h3 : (sortI ns).Pairwise (· ≤ ·) := by
    have := List.pairwise_mergeSort (le := fun i j : Int => decide (i ≤ j)) (fun a b c h1 h2 => by simp at *; omega) (fun a b => by simp; omega) ns
    exact this.imp fun h => by simpa using h
  exact (h.trans h2.symm).eq_of_pairwise (fun a b _ _ h1 h2 => by omega) hs h3
theorem sorted_ok : CallR X (.builtin "sorted") (upL X.K (opBlt .sorted)) := by
  intro pins s σ H xs us Q I r hw
  obtain ⟨ds, μ, Z, B, Q0, hr, rs, ho, fin⟩ := hw
  match ds, rs, ho with
  | [], rs, ho => exact ho.elim
  | _ :: _ :: _, rs, ho => simp [opBlt] at ho
  | [d], rs, ho =>
    obtain ⟨v, rfl, rv⟩ := rds1 rs
    simp only [opBlt] at ho
    cases e : asR μ d with
    | none => rw [e] at ho; exact ho.elim
    | some ys =>
      rw [e] at ho
      cases e2 : intsD ys with
      | none => simp [e2] at ho
      | some ns =>
        simp only [Option.bind_some, e2] at ho
        obtain ⟨a, vs, rfl, sq, rs'⟩ := asR_ok hr e rv
        have := intsD_ok e2 rs'
        subst this
        refine cr_sortedI pins s σ H _ us Q I r ⟨a, ns, rfl, sq, fun ms p h1 h2 h3 => ?_⟩
        rw [sortI_eq h1 h2]
        exact (newL_ok fin hr ints_rd ho).2 p h3
theorem repr_ok (hG : X.A.guards = some []) (hu : X.A.units + 80 < cLine) : CallR X (.builtin "repr") (upL X.K (opBlt .repr)) := by
  intro pins s σ H xs us Q I r hw
  obtain ⟨ds, μ, Z, B, Q0, hr, rs, ho, fin⟩ := hw
  match ds, rs, ho with
  | [], rs, ho => exact ho.elim
  | _ :: _ :: _, rs, ho => simp [opBlt] at ho
  | [d], rs, ho =>
    obtain ⟨v, rfl, rv⟩ := rds1 rs
    simp only [opBlt] at ho
    cases e : toPm μ d with
    | none => rw [e] at ho; exact ho.elim
    | some p =>
      rw [e] at ho
      simp only [Bool.and_eq_true, decide_eq_true_eq] at ho
      obtain ⟨⟨⟨⟨s1, s2⟩, s3⟩, sr⟩, s4, q⟩ := ho
      have dp := toPm_ok hr e rv
      obtain ⟨a, rfl⟩ : ∃ a, v = .ref a := by
        cases d <;> first
          | (cases rv; exact ⟨_, rfl⟩)
          | (simp [refB] at sr)
      obtain ⟨u, rfl, ru⟩ : ∃ u, us = [u] ∧ RelV (.ref a) u := by
        cases r with
        | cons p q => cases q; exact ⟨_, rfl, p⟩
      obtain ⟨as, rd⟩ := Dp.reads I p _ u dp ru
      have nd : p.hasDict = true → sysModules ∉ as := PyData.noDict_hsm (PyData.hasDict_of_canLay p s2)
      cases ru
      exact repr_of_reads' rd s1 nd hG (by omega) (fun _ _ h => h) (fun h' u tk hk => ⟨.str _, H, I.kept (h' := h') (t' := tk) hk, ⟨_, rfl⟩, fin.here hr (.str _) q⟩) s4
theorem isi_ok : CallR X (.builtin "isinstance") (upL X.K (opBlt .isi)) := by
  intro pins s σ H xs us Q I r hw
  obtain ⟨ds, μ, Z, B, Q0, hr, rs, ho, fin⟩ := hw
  match ds, rs, ho with
  | [], rs, ho => exact ho.elim
  | [_], rs, ho => simp [opBlt] at ho
  | _ :: _ :: _ :: _, rs, ho => simp [opBlt] at ho
  | [d, t], rs, ho =>
    obtain ⟨v, w, rfl, rv, rw'⟩ := rds2 rs
    simp only [opBlt] at ho
    cases e : isiD μ d t with
    | none => rw [e] at ho; exact ho.elim
    | some k =>
      rw [e] at ho
      have q := fin.here hr (.bl k) ho
      cases t with
      | ty b =>
        cases rw'
        simp only [isiD] at e
        split at e
        · rename_i a h
          exact call_isi pins s σ H _ us Q I r ⟨v, .ty b, .type a, .type b, k, rfl, .ty b, ty_rel hr h rv, kit_ty e, q⟩
        · cases e
      | tup cs =>
        simp only [isiD] at e
        split at e
        · rename_i a h
          cases rw' with
          | tup f rs' =>
            obtain ⟨us', p, q'⟩ := kits_ok e rs'
            rcases f with ⟨f, _, _⟩ | ⟨o, its, n, k', c, d', e', f'⟩
            · exact call_isiT pins s σ H _ us Q I r ⟨v, _, _, .type a, us', k, rfl, f, p, ty_rel hr h rv, q', q⟩
            · have e2 := ClsV.all p f'
              obtain ⟨oc, od, dt, sl⟩ := o
              simp only at c d'
              subst c d'
              exact call_isiK pins s σ H _ us Q I r ⟨v, _, od, its.toList, n, sl, .type a, k, rfl, by simpa using k', ty_rel hr h rv, by rw [e2]; exact q', q⟩
        · cases e
      | _ => simp [isiD] at e
theorem all_ok (hc : X.calm = true) : CallR X (.builtin "all") (upL X.K (opBlt .all)) := by
  intro pins s σ H xs us Q I r hw
  obtain ⟨ds, μ, Z, B, Q0, hr, rs, ho, fin⟩ := hw
  match ds, rs, ho with
  | [], rs, ho => exact ho.elim
  | _ :: _ :: _, rs, ho => simp [opBlt] at ho
  | [d], rs, ho =>
    obtain ⟨v, rfl, rv⟩ := rds1 rs
    simp only [opBlt] at ho
    cases e : asL μ d with
    | none => rw [e] at ho; exact ho.elim
    | some ys =>
      rw [e] at ho
      cases e2 : blsD ys with
      | none => simp [e2] at ho
      | some bs =>
        simp only [Option.bind_some, e2] at ho
        obtain ⟨a, vs, rfl, h1, rs'⟩ := asL_ok hr e rv
        have := bls_ok e2 rs'
        subst this
        exact cr_all hc pins s σ H _ us Q I r ⟨a, bs, rfl, .of h1, fin.here hr (.bl _) ho⟩
theorem any_ok (hc : X.calm = true) : CallR X (.builtin "any") (upL X.K (opBlt .any)) := by
  intro pins s σ H xs us Q I r hw
  obtain ⟨ds, μ, Z, B, Q0, hr, rs, ho, fin⟩ := hw
  match ds, rs, ho with
  | [], rs, ho => exact ho.elim
  | _ :: _ :: _, rs, ho => simp [opBlt] at ho
  | [d], rs, ho =>
    obtain ⟨v, rfl, rv⟩ := rds1 rs
    simp only [opBlt] at ho
    cases e : asL μ d with
    | none => rw [e] at ho; exact ho.elim
    | some ys =>
      rw [e] at ho
      cases e2 : blsD ys with
      | none => simp [e2] at ho
      | some bs =>
        simp only [Option.bind_some, e2] at ho
        obtain ⟨a, vs, rfl, h1, rs'⟩ := asL_ok hr e rv
        have := bls_ok e2 rs'
        subst this
        exact cr_any hc pins s σ H _ us Q I r ⟨a, bs, rfl, .of h1, fin.here hr (.bl _) ho⟩
theorem tuple_ok : CallR X (.type "tuple") (upL X.K (opBlt .tuple)) := by
  intro pins s σ H xs us Q I r hw
  obtain ⟨ds, μ, Z, B, Q0, hr, rs, ho, fin⟩ := hw
  match ds, rs, ho with
  | [], rs, ho => exact ho.elim
  | _ :: _ :: _, rs, ho => simp [opBlt] at ho
  | [d], rs, ho =>
    obtain ⟨v, rfl, rv⟩ := rds1 rs
    have lists : (match asR μ d with | some xs => Q0 (.tup xs) μ | none => False) → wpAny (model X.prog X.w) X.A (call (.type "tuple") us) (EP X pins σ Q) X.xe s := by
      intro ho
      cases e : asR μ d with
      | none => rw [e] at ho; exact ho.elim
      | some ys =>
        rw [e] at ho
        obtain ⟨a, vs, rfl, sq, rs'⟩ := asR_ok hr e rv
        exact call_tuple_of pins s σ H _ us Q I r ⟨a, vs, rfl, .inl ⟨sq, fun l n => newT_ok fin hr rs' ho n⟩⟩
    cases d with
    | tup ys =>
      cases rv with
      | tup f rs' => exact call_tuple_of pins s σ H _ us Q I r ⟨_, _, rfl, .inr ⟨f.sq, fin.here hr (.tup f rs') ho⟩⟩
    | lst ys => exact lists ho
    | scr ys => exact lists ho
    | cel ys => exact lists ho
    | non => exact lists ho
    | bl ys => exact lists ho
    | int ys => exact lists ho
    | str ys => exact lists ho
    | ty ys => exact lists ho
theorem list_ok : CallR X (.type "list") (upL X.K (opBlt .list)) := by
  intro pins s σ H xs us Q I r hw
  obtain ⟨ds, μ, Z, B, Q0, hr, rs, ho, fin⟩ := hw
  match ds, rs, ho with
  | [], rs, ho => exact ho.elim
  | _ :: _ :: _, rs, ho => simp [opBlt] at ho
  | [d], rs, ho =>
    obtain ⟨v, rfl, rv⟩ := rds1 rs
    simp only [opBlt] at ho
    cases e : asSq μ d with
    | none => rw [e] at ho; exact ho.elim
    | some ys =>
      rw [e] at ho
      obtain ⟨a, vs, rfl, sq, rs'⟩ := asSq_ok hr e rv
      exact call_list_of pins s σ H _ us Q I r ⟨a, vs, rfl, sq, (newL_ok fin hr rs' ho).2⟩
theorem two_ints {f : Value} {b : BI} {g : Int → Int → Int} (e : ∀ ds μ Q, opBlt b ds μ Q → ∃ i j, ds = [.int i, .int j] ∧ Q (.int (g i j)) μ)
    (h : CallR X f (fun xs H Q => ∃ i j, xs = [.int i, .int j] ∧ Q (.int (g i j)) H)) : CallR X f (upL X.K (opBlt b)) := by
  intro pins s σ H xs us Q I r hw
  obtain ⟨ds, μ, Z, B, Q0, hr, rs, ho, fin⟩ := hw
  obtain ⟨i, j, rfl, q⟩ := e _ _ _ ho
  obtain ⟨v, w, rfl, r1, r2⟩ := rds2 rs
  cases r1
  cases r2
  exact h pins s σ H _ us Q I r ⟨i, j, rfl, fin.here hr (.int _) q⟩
theorem op_two {b : BI} {g : Int → Int → Int} {ds : List D} {μ : M} {Q : WQ} (hb : b = .gcd ∨ b = .max2 ∨ b = .min2) (h : opBlt b ds μ Q) : ∃ i j, ds = [.int i, .int j] := by
  match ds, h with
  | [], h => rcases hb with rfl | rfl | rfl <;> exact h.elim
  | [d], h => rcases hb with rfl | rfl | rfl <;> cases d <;> simp [opBlt] at h
  | [d, e], h => rcases hb with rfl | rfl | rfl <;> cases d <;> cases e <;> simp [opBlt] at h <;> exact ⟨_, _, rfl⟩
  | _ :: _ :: _ :: _, h => rcases hb with rfl | rfl | rfl <;> simp [opBlt] at h
theorem gcd_ok : CallR X (.builtin "math.gcd") (upL X.K (opBlt .gcd)) := two_ints (g := fun i j => ((Nat.gcd i.natAbs j.natAbs : Nat) : Int)) (fun ds μ Q h => by
  obtain ⟨i, j, rfl⟩ := op_two (g := fun i _ => i) (.inl rfl) h
  exact ⟨i, j, rfl, h⟩) cr_gcd
theorem max_ok (hc : X.calm = true) : CallR X (.builtin "max") (upL X.K (opBlt .max2)) := two_ints (g := fun i j => if j > i then j else i) (fun ds μ Q h => by
  obtain ⟨i, j, rfl⟩ := op_two (g := fun i _ => i) (.inr (.inl rfl)) h
  exact ⟨i, j, rfl, h⟩) (call_max2 hc)
theorem min_ok (hc : X.calm = true) : CallR X (.builtin "min") (upL X.K (opBlt .min2)) := two_ints (g := fun i j => if j < i then j else i) (fun ds μ Q h => by
  obtain ⟨i, j, rfl⟩ := op_two (g := fun i _ => i) (.inr (.inr rfl)) h
  exact ⟨i, j, rfl, h⟩) (call_min2 hc)

/-! ### methods -/
def upM (K : PySem.W.Frag) (m : MI) : V → List V → Hp → VK → Prop := fun x vs H Q' => ∃ (d : D) (ds : List D) (μ : M) (Z B : List Addr) (Q : WQ), HRel K μ Z B H ∧ RD K H Z B d x ∧ RDs K H Z B ds vs ∧ opMth m d ds μ Q ∧ Fin K H Z B Q Q'
/-- a list that is a cell is written -/
theorem wrL_ok {Q : WQ} {Q' : VK} {n : Nat} {a : Addr} {vs : List V} {ds : List D} {d : D} {w : V} (hr : HRel K μ Z B H) (ea : Z[n]? = some a) (rs : RDs K H Z B ds vs) (rd : RD K H Z B d w) (fin : Fin K H Z B Q Q')
    (q : Q d (μ.set n (.lst ds))) : Q' w (upd H a (.lst vs)) := by
  have l : Le H Z (upd H a (.lst vs)) Z := Le.wr (List.mem_of_getElem? ea)
  exact fin _ _ _ _ _ l (hr.wr (c := .lst ds) ea ⟨vs, upd_same, rs.le l⟩) (rd.le l) q
theorem join_ok : MtR X "str.join" (upM X.K .join) := by
  intro pins s σ H x xs v us Q I rx r hw
  obtain ⟨d, ds, μ, Z, B, Q0, hr, rd, rs, ho, fin⟩ := hw
  match d, ds, rd, rs, ho with
  | .str a, [e], rd, rs, ho =>
    obtain ⟨w, rfl, rw'⟩ := rds1 rs
    simp only [opMth] at ho
    cases e1 : asSq μ e with
    | none => rw [e1] at ho; exact ho.elim
    | some zs =>
      rw [e1] at ho
      cases e2 : strsD zs with
      | none => simp [e2] at ho
      | some ys =>
        simp only [Option.bind_some, e2] at ho
        cases rd
        obtain ⟨p, vs, rfl, sq, rs'⟩ := asSq_ok hr e1 rw'
        have := strsD_ok e2 rs'
        subst this
        exact mt_join pins s σ H _ _ v us Q I rx r ⟨a, p, ys, rfl, rfl, sq, ho.1, fin.here hr (.str _) ho.2⟩
  | .str _, [], rd, rs, ho => simp [opMth] at ho
  | .str _, _ :: _ :: _, rd, rs, ho => simp [opMth] at ho
  | .non, _, rd, rs, ho => simp [opMth] at ho
  | .bl _, _, rd, rs, ho => simp [opMth] at ho
  | .int _, _, rd, rs, ho => simp [opMth] at ho
  | .ty _, _, rd, rs, ho => simp [opMth] at ho
  | .tup _, _, rd, rs, ho => simp [opMth] at ho
  | .lst _, _, rd, rs, ho => simp [opMth] at ho
  | .scr _, _, rd, rs, ho => simp [opMth] at ho
  | .cel _, _, rd, rs, ho => simp [opMth] at ho
theorem append_ok : MtR X "list.append" (upM X.K .append) := by
  intro pins s σ H x xs v us Q I rx r hw
  obtain ⟨d, ds, μ, Z, B, Q0, hr, rd, rs, ho, fin⟩ := hw
  match d, ds, rd, rs, ho with
  | .cel n, [e], rd, rs, ho =>
    obtain ⟨w, rfl, rw'⟩ := rds1 rs
    simp only [opMth] at ho
    split at ho
    · rename_i ys q
      obtain ⟨a, rfl, ea, vs, h1, rs'⟩ := hr.at_ q rd
      refine mt_append pins s σ H _ _ v us Q I rx r ⟨a, vs, w, rfl, rfl, h1, by rw [← rs'.length]; exact ho.1, ?_⟩
      exact wrL_ok hr ea (rs'.append (.cons rw' .nil)) .non fin ho.2
    · exact ho.elim
  | .cel n, [], rd, rs, ho => simp [opMth] at ho
  | .cel n, _ :: _ :: _, rd, rs, ho => simp [opMth] at ho
  | .non, _, rd, rs, ho => simp [opMth] at ho
  | .bl _, _, rd, rs, ho => simp [opMth] at ho
  | .int _, _, rd, rs, ho => simp [opMth] at ho
  | .str _, _, rd, rs, ho => simp [opMth] at ho
  | .ty _, _, rd, rs, ho => simp [opMth] at ho
  | .tup _, _, rd, rs, ho => simp [opMth] at ho
  | .lst _, _, rd, rs, ho => simp [opMth] at ho
  | .scr _, _, rd, rs, ho => simp [opMth] at ho

theorem pop_ok : MtR X "list.pop" (upM X.K .pop) := by
  intro pins s σ H x xs v us Q I rx r hw
  obtain ⟨d, ds, μ, Z, B, Q0, hr, rd, rs, ho, fin⟩ := hw
  match d, ds, rd, rs, ho with
  | .cel n, [], rd, rs, ho =>
    simp only [opMth] at ho
    split at ho
    · rename_i ys q
      split at ho
      · rename_i e he
        obtain ⟨a, rfl, ea, vs, h1, rs'⟩ := hr.at_ q rd
        obtain ⟨w, hw, rw'⟩ := rs'.get he
        cases rs
        refine mt_pop pins s σ H _ _ v us Q I rx r ⟨a, vs, w, rfl, rfl, h1, by rw [← rs'.length]; exact hw, ?_⟩
        exact wrL_ok hr ea rs'.dropLast rw' fin ho
      · exact ho.elim
    · exact ho.elim
  | .cel n, _ :: _, rd, rs, ho => simp [opMth] at ho
  | .non, _, rd, rs, ho => simp [opMth] at ho
  | .bl _, _, rd, rs, ho => simp [opMth] at ho
  | .int _, _, rd, rs, ho => simp [opMth] at ho
  | .str _, _, rd, rs, ho => simp [opMth] at ho
  | .ty _, _, rd, rs, ho => simp [opMth] at ho
  | .tup _, _, rd, rs, ho => simp [opMth] at ho
  | .lst _, _, rd, rs, ho => simp [opMth] at ho
  | .scr _, _, rd, rs, ho => simp [opMth] at ho
theorem extend_ok : MtR X "list.extend" (upM X.K .extend) := by
  intro pins s σ H x xs v us Q I rx r hw
  obtain ⟨d, ds, μ, Z, B, Q0, hr, rd, rs, ho, fin⟩ := hw
  match d, ds, rd, rs, ho with
  | .cel n, [e], rd, rs, ho =>
    obtain ⟨w, rfl, rw'⟩ := rds1 rs
    simp only [opMth] at ho
    split at ho
    · rename_i ys q
      have go : (match asL μ e with | some zs => ys.length + zs.length ≤ sizeLine ∧ Q0 .non (μ.set n (.lst (ys ++ zs))) | none => False) → wpAny (model X.prog X.w) X.A (call (.builtin "list.extend") (v :: us)) (EP X pins σ Q) X.xe s := by
        intro ho
        cases he : asL μ e with
        | none => rw [he] at ho; exact ho.elim
        | some zs =>
          rw [he] at ho
          obtain ⟨a, rfl, ea, vs, h1, rs'⟩ := hr.at_ q rd
          obtain ⟨b, ws, rfl, h2, rs2⟩ := asL_ok hr he rw'
          refine mt_extend pins s σ H _ _ v us Q I rx r ⟨a, b, vs, ws, rfl, rfl, h1, h2, by rw [← rs'.length, ← rs2.length]; exact ho.1, ?_⟩
          exact wrL_ok hr ea (rs'.append rs2) .non fin ho.2
      cases e with
      | cel _ => exact ho.elim
      | _ => exact go ho
    · exact ho.elim
  | .cel n, [], rd, rs, ho => simp [opMth] at ho
  | .cel n, _ :: _ :: _, rd, rs, ho => simp [opMth] at ho
  | .non, _, rd, rs, ho => simp [opMth] at ho
  | .bl _, _, rd, rs, ho => simp [opMth] at ho
  | .int _, _, rd, rs, ho => simp [opMth] at ho
  | .str _, _, rd, rs, ho => simp [opMth] at ho
  | .ty _, _, rd, rs, ho => simp [opMth] at ho
  | .tup _, _, rd, rs, ho => simp [opMth] at ho
  | .lst _, _, rd, rs, ho => simp [opMth] at ho
  | .scr _, _, rd, rs, ho => simp [opMth] at ho

/-! ### stores -/
def upP (K : PySem.W.Frag) : V → V → V → Hp → (Hp → Prop) → Prop := fun o i v H Q' => ∃ (x y z : D) (μ : M) (Z B : List Addr) (Q : M → Prop), HRel K μ Z B H ∧ RD K H Z B x o ∧ RD K H Z B y i ∧ RD K H Z B z v ∧ opPut x y z μ Q ∧
  ∀ μ' H', Le H Z H' Z → HRel K μ' Z B H' → Q μ' → Q' H'
theorem put_ok (hu : X.A.units + 64 < cLine) : PSet X (upP X.K) := by
  intro pins s σ H o i v ov iv u Q I r1 r2 r3 hw
  obtain ⟨x, y, z, μ, Z, B, Q0, hr, rx, ry, rz, ho, fin⟩ := hw
  cases x with
  | cel n =>
    simp only [opPut] at ho
    split at ho
    · rename_i xs q
      obtain ⟨a, rfl, ea, vs, h1, rs⟩ := hr.at_ q rx
      cases y with
      | int k =>
        simp only at ho
        split at ho
        · rename_i j ej
          cases ry
          refine set_list pins s σ H _ _ _ ov iv u Q I r1 r2 r3 ⟨a, vs, k, j, rfl, rfl, h1, by rw [← rs.length]; exact ej, ?_⟩
          have l : Le H Z (upd H a (.lst (vs.set j v))) Z := Le.wr (List.mem_of_getElem? ea)
          exact fin _ _ l (hr.wr (c := .lst (xs.set j z)) ea ⟨_, upd_same, (rs.set rz j).le l⟩) ho
        · exact ho.elim
      | _ => exact ho.elim
    · rename_i kvs q
      obtain ⟨a, rfl, ea, kws, h1, rs⟩ := hr.at_ q rx
      split at ho
      · rename_i k ek
        have ev := keyD_rel ek ry
        subst ev
        cases (show ov = Value.ref a from r1)
        have l : Le H Z (upd H a (.dK (putK kws k v))) Z := Le.wr (List.mem_of_getElem? ea)
        refine d_setItem (by omega) I (DPut.k h1 (by rw [← rs.length]; exact ho.1)) r2 r3 fun s' I' => ⟨_, I', fin _ _ l (hr.wr (c := .dK (dput kvs k z)) ea ⟨_, upd_same, (rs.put rz).mono l.weak⟩) ho.2⟩
      · exact ho.elim
    · exact ho.elim
  | _ => exact ho.elim
end
end Rf

set_option Elab.async false
set_option linter.all false
set_option maxRecDepth 100000
/-! Rf5: expressions: what the core language says of them is so -/
namespace Rf
open PySem L2 PySem.Spec PyProof.Rows
variable {K : PySem.W.Frag} {H H1 H2 H' : Hp} {Z Z1 Z' B : List Addr} {μ μ' : M} {ρ ρ' : Rho} {σ : L2.St}

/-! ### names -/
def RR (K : PySem.W.Frag) (H : Hp) (Z B : List Addr) (ρ : Rho) (σ : L2.St) : Prop := σ.length = ρ.length ∧ ∀ (i : Nat) (d : D), ρ[i]? = some (some d) → ∃ v, σ[i]? = some (some v) ∧ RD K H Z B d v
theorem RR.mono (l : LeW B H Z H' Z') (r : RR K H Z B ρ σ) : RR K H' Z' B ρ σ := ⟨r.1, fun i d e => by
  obtain ⟨v, h1, h2⟩ := r.2 i d e
  exact ⟨v, h1, h2.mono l⟩⟩
theorem RR.set (r : RR K H Z B ρ σ) {d : D} {v : V} (h : RD K H Z B d v) (i : Nat) : RR K H Z B (ρ.set i (some d)) (σ.set i (some v)) := ⟨by rw [List.length_set, List.length_set, r.1], fun j e q => by
  by_cases hj : i = j
  · subst hj
    by_cases hi : i < ρ.length
    · rw [List.getElem?_set_self hi] at q
      cases q
      exact ⟨v, by rw [List.getElem?_set_self (by rw [r.1]; exact hi)], h⟩
    · rw [List.getElem?_eq_none (by rw [List.length_set]; omega)] at q
      cases q
  · rw [List.getElem?_set_ne hj] at q ⊢
    exact r.2 j e q⟩
theorem RR.none (r : RR K H Z B ρ σ) (i : Nat) : RR K H Z B (ρ.set i none) (σ.set i none) := ⟨by rw [List.length_set, List.length_set, r.1], fun j e q => by
  by_cases hj : i = j
  · subst hj
    by_cases hi : i < ρ.length
    · rw [List.getElem?_set_self hi] at q
      cases q
    · rw [List.getElem?_eq_none (by rw [List.length_set]; omega)] at q
      cases q
  · rw [List.getElem?_set_ne hj] at q ⊢
    exact r.2 j e q⟩
theorem RR.wipe (r : RR K H Z B ρ σ) : ∀ js : List Nat, RR K H Z B (wipeD ρ js) (L2.wipe σ js)
  | [] => r
  | j :: js => (r.wipe js).none j
theorem RR.busy {p : Addr} (n : H p = Option.none) (r : RR K H Z B ρ σ) : RR K H Z (p :: B) ρ σ := ⟨r.1, fun i d e => by
  obtain ⟨v, h1, h2⟩ := r.2 i d e
  exact ⟨v, h1, h2.busy n⟩⟩
def Sta (K : PySem.W.Frag) (ρ : Rho) (μ : M) (Z B : List Addr) (σ : L2.St) (H : Hp) : Prop := HRel K μ Z B H ∧ RR K H Z B ρ σ
/-! ### what is read off the core language -/
def upE (K : PySem.W.Frag) (w : WE) : TE := fun σ H Q' => ∃ (ρ : Rho) (μ : M) (Z B : List Addr) (Q : WQ), Sta K ρ μ Z B σ H ∧ w ρ μ Q ∧ Fin K H Z B Q Q'
def upT (K : PySem.W.Frag) (w : WT) : TT := fun σ H Q' => ∃ (ρ : Rho) (μ : M) (Z B : List Addr) (Q : Bool → M → Prop), Sta K ρ μ Z B σ H ∧ w ρ μ Q ∧ ∀ k μ' H' Z', Le H Z H' Z' → HRel K μ' Z' B H' → Q k μ' → Q' k H'
def upA (K : PySem.W.Frag) (w : WA) : TA := fun σ H Q' => ∃ (ρ : Rho) (μ : M) (Z B : List Addr) (Q : List D → M → Prop), Sta K ρ μ Z B σ H ∧ w ρ μ Q ∧ ∀ ds μ' vs H' Z', Le H Z H' Z' → HRel K μ' Z' B H' → RDs K H' Z' B ds vs → Q ds μ' → Q' vs H'
theorem Sta.le (s : Sta K ρ μ Z B σ H) (l : Le H Z H' Z') (hr : HRel K μ' Z' B H') : Sta K ρ μ' Z' B σ H' := ⟨hr, s.2.mono l.weak⟩
theorem upE_i {w : WE} {Q : WQ} {R : VK} (hs : Sta K ρ μ Z B σ H) (hw : w ρ μ Q) (k : ∀ d μ' v H' Z', Le H Z H' Z' → Sta K ρ μ' Z' B σ H' → RD K H' Z' B d v → Q d μ' → R v H') : upE K w σ H R :=
  ⟨ρ, μ, Z, B, Q, hs, hw, fun d μ' v H' Z' l hr r q => k d μ' v H' Z' l (hs.le l hr) r q⟩
theorem upT_i {w : WT} {Q : Bool → M → Prop} {R : Bool → Hp → Prop} (hs : Sta K ρ μ Z B σ H) (hw : w ρ μ Q) (k : ∀ b μ' H' Z', Le H Z H' Z' → Sta K ρ μ' Z' B σ H' → Q b μ' → R b H') : upT K w σ H R :=
  ⟨ρ, μ, Z, B, Q, hs, hw, fun b μ' H' Z' l hr q => k b μ' H' Z' l (hs.le l hr) q⟩
theorem upA_i {w : WA} {Q : List D → M → Prop} {R : List V → Hp → Prop} (hs : Sta K ρ μ Z B σ H) (hw : w ρ μ Q) (k : ∀ ds μ' vs H' Z', Le H Z H' Z' → Sta K ρ μ' Z' B σ H' → RDs K H' Z' B ds vs → Q ds μ' → R vs H') : upA K w σ H R :=
  ⟨ρ, μ, Z, B, Q, hs, hw, fun d μ' v H' Z' l hr r q => k d μ' v H' Z' l (hs.le l hr) r q⟩
section
variable {X : Cx} {a b c : Expr} {pos : Pos} {wa wb wc : WE} {t u : TE}
theorem _root_.L2.PE.imp (h : PE X a t) (f : ∀ σ H Q, u σ H Q → t σ H Q) : PE X a u := ⟨fun pins s σ H Q I q => h.run pins s σ H Q I (f σ H Q q)⟩
theorem _root_.L2.PT.imp {t u : TT} (h : PT X a t) (f : ∀ σ H Q, u σ H Q → t σ H Q) : PT X a u := ⟨fun pins s σ H Q I q => h.run pins s σ H Q I (f σ H Q q)⟩
theorem _root_.L2.PA.imp {es : List Expr} {t u : TA} (h : PA X es t) (f : ∀ σ H Q, u σ H Q → t σ H Q) : PA X es u := ⟨fun pos pins s σ H Q I q => h.run pos pins s σ H Q I (f σ H Q q)⟩
theorem _root_.L2.PI.imp {tg it : Expr} {t u : TI} (h : PI X tg it t) (f : ∀ σ H Q, u σ H Q → t σ H Q) : PI X tg it u := ⟨fun pins s σ H Q I q => h.run pins s σ H Q I (f σ H Q q)⟩
theorem _root_.L2.PS.imp {st : Stmt} {t u : TS} (h : PS X st t) (f : ∀ D σ H, u D σ H → t D σ H) : PS X st u := ⟨fun pins s σ H D I q => h.run pins s σ H D I (f D σ H q)⟩
theorem _root_.L2.PSs.imp {st : List Stmt} {t u : TS} (h : PSs X st t) (f : ∀ D σ H, u D σ H → t D σ H) : PSs X st u := ⟨fun pins s σ H D I q => h.run pins s σ H D I (f D σ H q)⟩
theorem PE.falls : PE X a (upE X.K fun _ _ _ => False) := ⟨fun pins s σ H Q I q => by
  obtain ⟨ρ, μ, Z, B, Q, hs, hw, fin⟩ := q
  exact hw.elim⟩
theorem PT.falls : PT X a (upT X.K fun _ _ _ => False) := ⟨fun pins s σ H Q I q => by
  obtain ⟨ρ, μ, Z, B, Q, hs, hw, fin⟩ := q
  exact hw.elim⟩
theorem e_var {i : Nat} {x : Str} (hN : X.N[i]? = some x) (hv : Vis X.env.scope x) (hd : (x == ("__debug__" : Str)) = false) (hcd : (x == ("__classdict__" : Str)) = false) :
    PE X (.Name x pos) (upE X.K fun ρ μ Q => match getV ρ i with | some d => Q d μ | none => False) := by
  refine (pe_var hN hv hd hcd).imp fun σ H Q' ⟨ρ, μ, Z, B, Q, hs, hw, fin⟩ => ?_
  cases e : getV ρ i with
  | none => simp only [e] at hw
  | some d =>
    simp only [e] at hw
    unfold getV at e
    split at e
    · rename_i d' e'
      cases e
      obtain ⟨v, h1, h2⟩ := hs.2.2 i d e'
      exact ⟨v, h1, fin.here hs.1 h2 hw⟩
    · cases e
theorem e_con {d : D} {v : V} (h : PE X a (tC v)) (r : ∀ H Z B, RD X.K H Z B d v) : PE X a (upE X.K fun _ μ Q => Q d μ) :=
  h.imp fun σ H Q' ⟨ρ, μ, Z, B, Q, hs, hw, fin⟩ => fin.here hs.1 (r _ _ _) hw
theorem e_bin (op : Operator) (ha : PE X a (upE X.K wa)) (hb : PE X b (upE X.K wb)) : PE X (.BinOp a op b pos) (upE X.K fun ρ μ Q => wa ρ μ fun x μ1 => wb ρ μ1 fun y μ2 => opBin op x y μ2 Q) :=
  (pe_op (bin_ok op) ha hb).imp fun σ H Q' ⟨ρ, μ, Z, B, Q, hs, hw, fin⟩ => upE_i hs hw fun x μ1 v H1 Z1 l1 hs1 r1 hw1 => upE_i hs1 hw1 fun y μ2 u H2 Z2 l2 hs2 r2 ho =>
    ⟨x, y, μ2, Z2, B, Q, hs2.1, r1.le l2, r2, ho, fin.later (l1.trans l2)⟩
theorem e_neg (ha : PE X a (upE X.K wa)) : PE X (.UnaryOp .USub a pos) (upE X.K fun ρ μ Q => wa ρ μ fun x μ1 => match x with | .int i => Q (.int (-i)) μ1 | _ => False) :=
  (pe_un un_neg ha).imp fun σ H Q' ⟨ρ, μ, Z, B, Q, hs, hw, fin⟩ => upE_i hs hw fun x μ1 v H1 Z1 l1 hs1 r1 hw1 => by
    cases x with
    | int i => cases r1; exact ⟨i, rfl, (fin.later l1).here hs1.1 (.int _) hw1⟩
    | _ => exact hw1.elim
theorem e_not (ha : PE X a (upE X.K wa)) : PE X (.UnaryOp .Not a pos) (upE X.K fun ρ μ Q => wa ρ μ fun x μ1 => match x with | .bl i => Q (.bl (!i)) μ1 | _ => False) :=
  (pe_not ha).imp fun σ H Q' ⟨ρ, μ, Z, B, Q, hs, hw, fin⟩ => upE_i hs hw fun x μ1 v H1 Z1 l1 hs1 r1 hw1 => by
    cases x with
    | bl i => cases r1; exact ⟨i, rfl, (fin.later l1).here hs1.1 (.bl _) hw1⟩
    | _ => exact hw1.elim
theorem wCmp_some {op : CmpOp} {x y : D} {Q : Bool → Prop} (h : wCmp op x y μ Q) : ∃ k, opCmp op μ x y = some k ∧ Q k := by
  unfold wCmp at h
  cases e : opCmp op μ x y with
  | none => rw [e] at h; exact h.elim
  | some k => rw [e] at h; exact ⟨k, rfl, h⟩
theorem e_cmp (hu : X.A.units + 64 < cLine) (op : CmpOp) (hm : behindInMarks op b = false) (ha : PE X a (upE X.K wa)) (hb : PE X b (upE X.K wb)) :
    PE X (.Compare a [op] [b] pos) (upE X.K fun ρ μ Q => wa ρ μ fun x μ1 => wb ρ μ1 fun y μ2 => wCmp op x y μ2 fun k => Q (.bl k) μ2) :=
  (pe_cmpR (cmp_ok hu op) ha hb hm).imp fun σ H Q' ⟨ρ, μ, Z, B, Q, hs, hw, fin⟩ => upE_i hs hw fun x μ1 v H1 Z1 l1 hs1 r1 hw1 => upE_i hs1 hw1 fun y μ2 u H2 Z2 l2 hs2 r2 ho => by
    obtain ⟨k, e, q⟩ := wCmp_some ho
    exact ⟨x, y, μ2, Z2, B, k, hs2.1, r1.le l2, r2, e, (fin.later (l1.trans l2)).here hs2.1 (.bl _) q⟩
theorem t_cmp (hu : X.A.units + 64 < cLine) (op : CmpOp) (hm : behindInMarks op b = false) (ha : PE X a (upE X.K wa)) (hb : PE X b (upE X.K wb)) :
    PT X (.Compare a [op] [b] pos) (upT X.K fun ρ μ Q => wa ρ μ fun x μ1 => wb ρ μ1 fun y μ2 => wCmp op x y μ2 fun k => Q k μ2) :=
  (pt_cmpR (cmp_ok hu op) ha hb hm).imp fun σ H Q' ⟨ρ, μ, Z, B, Q, hs, hw, fin⟩ => upE_i hs hw fun x μ1 v H1 Z1 l1 hs1 r1 hw1 => upE_i hs1 hw1 fun y μ2 u H2 Z2 l2 hs2 r2 ho => by
    obtain ⟨k, e, q⟩ := wCmp_some ho
    exact ⟨x, y, μ2, Z2, B, k, hs2.1, r1.le l2, r2, e, k, rfl, fin _ _ _ _ (l1.trans l2) hs2.1 q⟩
theorem e_chn (hu : X.A.units + 64 < cLine) (o p : CmpOp) (hm : lastMarks [o, p] [b, c] = false) (ha : PE X a (upE X.K wa)) (hb : PE X b (upE X.K wb)) (hc : PE X c (upE X.K wc)) :
    PE X (.Compare a [o, p] [b, c] pos) (upE X.K fun ρ μ Q => wa ρ μ fun x μ1 => wb ρ μ1 fun y μ2 => wCmp o x y μ2 fun k =>
      if k = true then wc ρ μ2 fun z μ3 => wCmp p y z μ3 fun k2 => Q (.bl k2) μ3 else Q (.bl false) μ2) :=
  (pe_chain (cmp_ok hu o) (cmp_ok hu p) ha hb hc hm).imp fun σ H Q' ⟨ρ, μ, Z, B, Q, hs, hw, fin⟩ => upE_i hs hw fun x μ1 v H1 Z1 l1 hs1 r1 hw1 => upE_i hs1 hw1 fun y μ2 u H2 Z2 l2 hs2 r2 ho => by
    obtain ⟨k, e, q⟩ := wCmp_some ho
    refine ⟨x, y, μ2, Z2, B, k, hs2.1, r1.le l2, r2, e, k, rfl, ?_⟩
    cases k with
    | true =>
      rw [if_pos rfl] at q ⊢
      refine upE_i hs2 q fun z μ3 w H3 Z3 l3 hs3 r3 q3 => ?_
      obtain ⟨k2, e2, q2⟩ := wCmp_some q3
      exact ⟨y, z, μ3, Z3, B, k2, hs3.1, r2.le l3, r3, e2, (fin.later ((l1.trans l2).trans l3)).here hs3.1 (.bl _) q2⟩
    | false =>
      rw [if_neg Bool.false_ne_true] at q ⊢
      exact (fin.later (l1.trans l2)).here hs2.1 (.bl _) q
theorem t_chn (hu : X.A.units + 64 < cLine) (o p : CmpOp) (hm : lastMarks [o, p] [b, c] = false) (ha : PE X a (upE X.K wa)) (hb : PE X b (upE X.K wb)) (hc : PE X c (upE X.K wc)) :
    PT X (.Compare a [o, p] [b, c] pos) (upT X.K fun ρ μ Q => wa ρ μ fun x μ1 => wb ρ μ1 fun y μ2 => wCmp o x y μ2 fun k =>
      if k = true then wc ρ μ2 fun z μ3 => wCmp p y z μ3 fun k2 => Q k2 μ3 else Q false μ2) :=
  (pt_chain (cmp_ok hu o) (cmp_ok hu p) ha hb hc hm).imp fun σ H Q' ⟨ρ, μ, Z, B, Q, hs, hw, fin⟩ => upE_i hs hw fun x μ1 v H1 Z1 l1 hs1 r1 hw1 => upE_i hs1 hw1 fun y μ2 u H2 Z2 l2 hs2 r2 ho => by
    obtain ⟨k, e, q⟩ := wCmp_some ho
    refine ⟨x, y, μ2, Z2, B, k, hs2.1, r1.le l2, r2, e, k, rfl, ?_⟩
    cases k with
    | true =>
      rw [if_pos rfl] at q ⊢
      refine upE_i hs2 q fun z μ3 w H3 Z3 l3 hs3 r3 q3 => ?_
      obtain ⟨k2, e2, q2⟩ := wCmp_some q3
      exact ⟨y, z, μ3, Z3, B, k2, hs3.1, r2.le l3, r3, e2, k2, rfl, fin _ _ _ _ ((l1.trans l2).trans l3) hs3.1 q2⟩
    | false =>
      rw [if_neg Bool.false_ne_true] at q ⊢
      exact ⟨false, rfl, fin _ _ _ _ (l1.trans l2) hs2.1 q⟩
theorem e_and {r : List Expr} (ha : PE X a (upE X.K wa)) (hb : PE X (.BoolOp .And (b :: r) pos) (upE X.K wb)) :
    PE X (.BoolOp .And (a :: b :: r) pos) (upE X.K fun ρ μ Q => wa ρ μ fun x μ1 => match x with | .bl k => if k = true then wb ρ μ1 Q else Q (.bl false) μ1 | _ => False) :=
  (pe_and ha hb).imp fun σ H Q' ⟨ρ, μ, Z, B, Q, hs, hw, fin⟩ => upE_i hs hw fun x μ1 v H1 Z1 l1 hs1 r1 hw1 => by
    cases x with
    | bl k =>
      cases r1
      refine ⟨k, rfl, ?_⟩
      cases k with
      | true =>
        simp only [if_true] at hw1
        rw [if_pos rfl]
        exact upE_i hs1 hw1 fun y μ2 u H2 Z2 l2 hs2 r2 q => fin _ _ _ _ _ (l1.trans l2) hs2.1 r2 q
      | false =>
        simp only [Bool.false_eq_true, if_false] at hw1
        rw [if_neg Bool.false_ne_true]
        exact fin _ _ _ _ _ l1 hs1.1 (.bl _) hw1
    | _ => exact hw1.elim
theorem e_or {r : List Expr} (ha : PE X a (upE X.K wa)) (hb : PE X (.BoolOp .Or (b :: r) pos) (upE X.K wb)) :
    PE X (.BoolOp .Or (a :: b :: r) pos) (upE X.K fun ρ μ Q => wa ρ μ fun x μ1 => match x with | .bl k => if k = true then Q (.bl true) μ1 else wb ρ μ1 Q | _ => False) :=
  (pe_or ha hb).imp fun σ H Q' ⟨ρ, μ, Z, B, Q, hs, hw, fin⟩ => upE_i hs hw fun x μ1 v H1 Z1 l1 hs1 r1 hw1 => by
    cases x with
    | bl k =>
      cases r1
      refine ⟨k, rfl, ?_⟩
      cases k with
      | false =>
        simp only [Bool.false_eq_true, if_false] at hw1
        rw [if_neg Bool.false_ne_true]
        exact upE_i hs1 hw1 fun y μ2 u H2 Z2 l2 hs2 r2 q => fin _ _ _ _ _ (l1.trans l2) hs2.1 r2 q
      | true =>
        simp only [if_true] at hw1
        rw [if_pos rfl]
        exact fin _ _ _ _ _ l1 hs1.1 (.bl _) hw1
    | _ => exact hw1.elim
variable {ta tb tc : WT}
theorem PT.pw {op : BoolOp} {vs : List Expr} {t : TT} (h : PT X (.BoolOp op vs pos) t) : PW X (.BoolOp op vs pos) t := ⟨fun _ pins s σ H Q I q => h.run pins s σ H Q I q⟩
theorem t_and {r : List Expr} (ha : PT X a (upT X.K ta)) (hb : PT X (.BoolOp .And (b :: r) pos) (upT X.K tb)) :
    PT X (.BoolOp .And (a :: b :: r) pos) (upT X.K fun ρ μ Q => ta ρ μ fun k μ1 => if k = true then tb ρ μ1 Q else Q false μ1) :=
  (PW.pt (pw_and ha (PT.pw hb))).imp fun σ H Q' ⟨ρ, μ, Z, B, Q, hs, hw, fin⟩ => upT_i hs hw fun k μ1 H1 Z1 l1 hs1 hw1 => by
    cases k with
    | true =>
      rw [if_pos rfl] at hw1 ⊢
      exact upT_i hs1 hw1 fun y μ2 H2 Z2 l2 hs2 q => fin _ _ _ _ (l1.trans l2) hs2.1 q
    | false =>
      rw [if_neg Bool.false_ne_true] at hw1 ⊢
      exact fin _ _ _ _ l1 hs1.1 hw1
theorem t_or {r : List Expr} (ha : PT X a (upT X.K ta)) (hb : PT X (.BoolOp .Or (b :: r) pos) (upT X.K tb)) :
    PT X (.BoolOp .Or (a :: b :: r) pos) (upT X.K fun ρ μ Q => ta ρ μ fun k μ1 => if k = true then Q true μ1 else tb ρ μ1 Q) :=
  (PW.pt (pw_or ha (PT.pw hb))).imp fun σ H Q' ⟨ρ, μ, Z, B, Q, hs, hw, fin⟩ => upT_i hs hw fun k μ1 H1 Z1 l1 hs1 hw1 => by
    cases k with
    | false =>
      rw [if_neg Bool.false_ne_true] at hw1 ⊢
      exact upT_i hs1 hw1 fun y μ2 H2 Z2 l2 hs2 q => fin _ _ _ _ (l1.trans l2) hs2.1 q
    | true =>
      rw [if_pos rfl] at hw1 ⊢
      exact fin _ _ _ _ l1 hs1.1 hw1
theorem t_not (ha : PT X a (upT X.K ta)) : PT X (.UnaryOp .Not a pos) (upT X.K fun ρ μ Q => ta ρ μ fun k μ1 => Q (!k) μ1) :=
  (pt_not ha).imp fun σ H Q' ⟨ρ, μ, Z, B, Q, hs, hw, fin⟩ => upT_i hs hw fun k μ1 H1 Z1 l1 hs1 hw1 => fin _ _ _ _ l1 hs1.1 hw1
theorem e_ife (hc : PT X c (upT X.K tc)) (ha : PE X a (upE X.K wa)) (hb : PE X b (upE X.K wb)) : PE X (.IfExp c a b pos) (upE X.K fun ρ μ Q => tc ρ μ fun k μ1 => if k = true then wa ρ μ1 Q else wb ρ μ1 Q) :=
  (pe_ifExp hc ha hb).imp fun σ H Q' ⟨ρ, μ, Z, B, Q, hs, hw, fin⟩ => upT_i hs hw fun k μ1 H1 Z1 l1 hs1 hw1 => by
    cases k with
    | true =>
      rw [if_pos rfl] at hw1 ⊢
      exact upE_i hs1 hw1 fun y μ2 u H2 Z2 l2 hs2 r q => fin _ _ _ _ _ (l1.trans l2) hs2.1 r q
    | false =>
      rw [if_neg Bool.false_ne_true] at hw1 ⊢
      exact upE_i hs1 hw1 fun y μ2 u H2 Z2 l2 hs2 r q => fin _ _ _ _ _ (l1.trans l2) hs2.1 r q
/-- a value as a test -/
theorem t_tru (ha : PE X a (upE X.K wa)) (he : ∀ whole, isTrue a X.env whole = (do let v ← whole; standAt a.pos; holding [v] (truthy v))) : PT X a (upT X.K (ofE wa)) :=
  (pt_truth ha he).imp fun σ H Q' ⟨ρ, μ, Z, B, Q, hs, hw, fin⟩ => upE_i hs hw fun x μ1 v H1 Z1 l1 hs1 r1 hw1 => by
    cases e : truD μ1 x with
    | none => rw [e] at hw1; exact hw1.elim
    | some k =>
      rw [e] at hw1
      exact ⟨k, tru_rel hs1.1 e r1, fin _ _ _ _ l1 hs1.1 hw1⟩

/-! ### lists of expressions -/
variable {es : List Expr} {was wbs : WA}
theorem a_nil : PA X [] (upA X.K fun _ μ Q => Q [] μ) :=
  pa_nil.imp fun σ H Q' ⟨ρ, μ, Z, B, Q, hs, hw, fin⟩ => fin _ _ _ _ _ LeW.refl hs.1 .nil hw
def notSt : Expr → Bool
  | .Starred .. => false
  | _ => true
theorem star_one {e : Expr} {es : List Expr} {env : Env} (h : notSt e = true) : starEach (e :: es) env = (false, eval e env) :: starEach es env := by
  cases e <;> first
    | rfl
    | cases h
theorem star_any {env : Env} {pos : Pos} : ∀ {es : List Expr}, es.all notSt = true → (backTo pos (starEach es env)).any (·.1) = false
  | [], _ => rfl
  | e :: es, h => by
    simp only [List.all_cons, Bool.and_eq_true] at h
    rw [star_one h.1]
    show (false || (backTo pos (starEach es env)).any (·.1)) = false
    rw [star_any h.2]; rfl
theorem a_cons (hst : notSt a = true) (ha : PE X a (upE X.K wa)) (hr : PA X es (upA X.K was)) : PA X (a :: es) (upA X.K fun ρ μ Q => wa ρ μ fun d μ1 => was ρ μ1 fun ds μ2 => Q (d :: ds) μ2) :=
  (pa_cons ha hr (star_one hst)).imp fun σ H Q' ⟨ρ, μ, Z, B, Q, hs, hw, fin⟩ => upE_i hs hw fun x μ1 v H1 Z1 l1 hs1 r1 hw1 => upA_i hs1 hw1 fun ds μ2 vs H2 Z2 l2 hs2 r2 q =>
    fin _ _ _ _ _ (l1.trans l2) hs2.1 (.cons (r1.le l2) r2) q
theorem e_tup {k : Nat} (h : PA X es (upA X.K was)) : PE X (.Tuple es k pos) (upE X.K fun ρ μ Q => was ρ μ fun ds μ1 => ds.length ≤ sizeLine ∧ Q (.tup ds) μ1) :=
  (pe_tup h).imp fun σ H Q' ⟨ρ, μ, Z, B, Q, hs, hw, fin⟩ => upA_i hs hw fun ds μ1 vs H1 Z1 l1 hs1 r1 hw1 => ⟨by rw [← r1.length]; exact hw1.1, fun p n => newT_ok (fin.later l1) hs1.1 r1 hw1.2 n⟩
theorem e_lst (h : PA X es (upA X.K was)) : PE X (.List es pos) (upE X.K fun ρ μ Q => was ρ μ fun ds μ1 => newL ds μ1 Q) :=
  (pe_lst h).imp fun σ H Q' ⟨ρ, μ, Z, B, Q, hs, hw, fin⟩ => upA_i hs hw fun ds μ1 vs H1 Z1 l1 hs1 r1 hw1 => newL_ok (fin.later l1) hs1.1 r1 hw1
theorem e_idx (hu : X.A.units + 64 < cLine) (hs : PlainIx b) (ha : PE X a (upE X.K wa)) (hb : PE X b (upE X.K wb)) : PE X (.Subscript a b pos) (upE X.K fun ρ μ Q => wa ρ μ fun x μ1 => wb ρ μ1 fun y μ2 => opIdx x y μ2 Q) :=
  (pe_ix (idx_ok hu) ha hb hs).imp fun σ H Q' ⟨ρ, μ, Z, B, Q, hs, hw, fin⟩ => upE_i hs hw fun x μ1 v H1 Z1 l1 hs1 r1 hw1 => upE_i hs1 hw1 fun y μ2 u H2 Z2 l2 hs2 r2 ho =>
    ⟨x, y, μ2, Z2, B, Q, hs2.1, r1.le l2, r2, ho, fin.later (l1.trans l2)⟩
def upO' (K : PySem.W.Frag) (w : Rho → M → (Option Int → M → Prop) → Prop) : TO := fun σ H Q' => ∃ (ρ : Rho) (μ : M) (Z B : List Addr) (Q : Option Int → M → Prop), Sta K ρ μ Z B σ H ∧ w ρ μ Q ∧ ∀ o μ' H' Z', Le H Z H' Z' → HRel K μ' Z' B H' → Q o μ' → Q' o H'
theorem upO_i {w : Rho → M → (Option Int → M → Prop) → Prop} {Q : Option Int → M → Prop} {R : Option Int → Hp → Prop} (hs : Sta K ρ μ Z B σ H) (hw : w ρ μ Q) (k : ∀ b μ' H' Z', Le H Z H' Z' → Sta K ρ μ' Z' B σ H' → Q b μ' → R b H') : upO' K w σ H R :=
  ⟨ρ, μ, Z, B, Q, hs, hw, fun b μ' H' Z' l hr q => k b μ' H' Z' l (hs.le l hr) q⟩
theorem o_none : PO X none (upO' X.K fun _ μ Q => Q none μ) := ⟨fun pins s σ H Q I ⟨ρ, μ, Z, B, Q0, hs, hw, fin⟩ => po_none.run pins s σ H Q I (fin _ _ _ _ LeW.refl hs.1 hw)⟩
theorem o_some (ha : PE X a (upE X.K wa)) : PO X (some a) (upO' X.K fun ρ μ Q => wa ρ μ fun d μ1 => match d with | .int i => Q (some i) μ1 | _ => False) :=
  ⟨fun pins s σ H Q I ⟨ρ, μ, Z, B, Q0, hs, hw, fin⟩ => (po_some ha).run pins s σ H Q I (upE_i hs hw fun x μ1 v H1 Z1 l1 hs1 r1 hw1 => by
    cases x with
    | int i => cases r1; exact ⟨i, rfl, fin _ _ _ _ l1 hs1.1 hw1⟩
    | _ => exact hw1.elim)⟩
theorem e_slc {lo hi : Option Expr} {p2 : Pos} {wl wh : Rho → M → (Option Int → M → Prop) → Prop} (ha : PE X a (upE X.K wa)) (hl : PO X lo (upO' X.K wl)) (hh : PO X hi (upO' X.K wh)) :
    PE X (.Subscript a (.Slice lo hi none p2) pos) (upE X.K fun ρ μ Q => wa ρ μ fun x μ1 => wl ρ μ1 fun l μ2 => wh ρ μ2 fun h μ3 => opSlc x l h μ3 Q) :=
  (pe_slice slc_ok ha hl hh).imp fun σ H Q' ⟨ρ, μ, Z, B, Q, hs, hw, fin⟩ => upE_i hs hw fun x μ1 v H1 Z1 l1 hs1 r1 hw1 => upO_i hs1 hw1 fun l μ2 H2 Z2 l2 hs2 hw2 => upO_i hs2 hw2 fun h μ3 H3 Z3 l3 hs3 q =>
    ⟨x, μ3, Z3, B, Q, hs3.1, (r1.le l2).le l3, q, fin.later ((l1.trans l2).trans l3)⟩

/-! ### calls -/
theorem up_cb {o : List D → M → WQ → Prop} (ha : PA X es (upA X.K was)) (h : PE X a (tCB (upL X.K o) (upA X.K was))) : PE X a (upE X.K fun ρ μ Q => was ρ μ fun ds μ1 => o ds μ1 Q) :=
  h.imp fun σ H Q' ⟨ρ, μ, Z, B, Q, hs, hw, fin⟩ => upA_i hs hw fun ds μ1 vs H1 Z1 l1 hs1 r1 hw1 => ⟨ds, μ1, Z1, B, Q, hs1.1, r1, hw1, fin.later l1⟩
/-- what a def promises over plain data is a promise over the heap -/
def lift (K : PySem.W.Frag) (S : DSpec) : Sp := fun vs H Q' _ => ∃ (ds : List D) (μ : M) (Z B : List Addr) (Q : WQ), HRel K μ Z B H ∧ RDs K H Z B ds vs ∧ S ds μ Q ∧ Fin K H Z B Q Q'
section
variable {k : Nat} {x : Str} {p : Pos} {f : Addr} {fd : FuncData} {ps : List Str} {S : DSpec} {e : Expr}
theorem e_cal (F : FnOk X.prog X.w X.K X.mg X.base CX0 k f fd ps (lift X.K S)) (hr : Room k X.A) (hg : Gl X x) (hm : X.mg x = some (.ref f)) (hk : PySem.W.keepIn X.K (.ref f) = true)
    (hb : Binds X.K fd ps []) (hst : (e :: es).all notSt = true) (hdb : (x == ("__debug__" : Str)) = false) (ha : PA X (e :: es) (upA X.K was)) :
    PE X (.Call (.Name x p) (e :: es) [] pos) (upE X.K fun ρ μ Q => was ρ μ fun ds μ1 => S ds μ1 Q) := by
  simp only [List.all_cons, Bool.and_eq_true] at hst
  refine (pe_call F hr hg hm hk hb .nil pass0 ha hdb (star_one hst.1) (star_any hst.2)).imp fun σ H Q' ⟨ρ, μ, Z, B, Q, hs, h, fin⟩ => upA_i hs h fun ds μ1 vs H1 Z1 l1 hs1 r1 q => ?_
  show lift X.K S (vs ++ []) H1 Q' E0
  rw [List.append_nil]
  exact ⟨ds, μ1, Z1, B, Q, hs1.1, r1, q, fin.later l1⟩
theorem e_cal0 (F : FnOk X.prog X.w X.K X.mg X.base CX0 k f fd ps (lift X.K S)) (hr : Room k X.A) (hg : Gl X x) (hm : X.mg x = some (.ref f)) (hk : PySem.W.keepIn X.K (.ref f) = true)
    (hb : Binds X.K fd ps []) (hdb : (x == ("__debug__" : Str)) = false) :
    PE X (.Call (.Name x p) [] [] pos) (upE X.K fun ρ μ Q => S [] μ Q) := by
  refine (pe_call0 F hr hg hm hk hb .nil pass0 hdb).imp fun σ H Q' ⟨ρ, μ, Z, B, Q, hs, h, fin⟩ => ?_
  exact ⟨[], μ, Z, B, Q, hs.1, .nil, h, fin⟩
/-! ### calls with keywords -/
def permV (perm : List Nat) (n m : Nat) (ds zs : List V) : List V := if ds.length = n ∧ zs.length = m then perm.map fun i => (ds ++ zs).getD i .non else []
def permU (perm : List Nat) (n m : Nat) (ds zs : List Value) : List Value := if ds.length = n ∧ zs.length = m then perm.map fun i => (ds ++ zs).getD i .none else []
theorem RDs.getD {ds : List D} {vs : List V} (r : RDs K H Z B ds vs) (i : Nat) : RD K H Z B (ds.getD i .non) (vs.getD i .non) := by
  rw [List.getD_eq_getElem?_getD, List.getD_eq_getElem?_getD]
  cases e : ds[i]? with
  | none =>
    have : vs[i]? = none := by
      rw [List.getElem?_eq_none_iff] at e ⊢
      rw [← r.length]
      exact e
    rw [this]
    exact .non
  | some d =>
    obtain ⟨v, e2, r2⟩ := r.get e
    rw [e2]
    exact r2
theorem perm_rd {perm : List Nat} {n m : Nat} {ds zs : List D} {vs ws : List V} (r : RDs K H Z B ds vs) (q : RDs K H Z B zs ws) : RDs K H Z B (permD perm n m ds zs) (permV perm n m vs ws) := by
  unfold permD permV
  rw [r.length, q.length]
  split
  · induction perm with
    | nil => exact .nil
    | cons i perm ih => exact .cons ((r.append q).getD i) ih
  · exact .nil
theorem vals_getD {vs : List V} {us : List Value} (r : Vals vs us) (i : Nat) : RelV (vs.getD i .non) (us.getD i .none) := by
  rw [List.getD_eq_getElem?_getD, List.getD_eq_getElem?_getD]
  cases e : vs[i]? with
  | none => rw [Vals.none_of r e]; exact rfl
  | some d =>
    obtain ⟨v, e2, r2⟩ := r.get e
    rw [e2]
    exact r2
theorem perm_rel {perm : List Nat} {n m : Nat} {vs zs : List V} {us ws : List Value} (r : Vals vs us) (q : Vals zs ws) : Vals (permV perm n m vs zs) (permU perm n m us ws) := by
  unfold permV permU
  rw [r.length, q.length]
  split
  · induction perm with
    | nil => exact .nil
    | cons i perm ih => exact .cons (vals_getD (r.append q) i) ih
  · exact .nil
def wKs (was wbs : WA) (n m : Nat) (perm : List Nat) (S : DSpec) : WE := fun ρ μ Q => was ρ μ fun ds μ1 => wbs ρ μ1 fun zs μ2 => S (permD perm n m ds zs) μ2 Q
def upK (K : PySem.W.Frag) (w : WA) : TA := upA K w
theorem kw_all {env : Env} {pos : Pos} : ∀ {kws : List Keyword}, kws.all (fun k => k.arg.isSome) = true → (backToKw pos (keywordEach kws env)).all (·.1.isSome) = true ∧ (backToKw pos (keywordEach kws env)).any (·.1.isNone) = false ∧
    (backToKw pos (keywordEach kws env)).filterMap (·.1) = kws.filterMap (·.arg)
  | [], _ => ⟨rfl, rfl, rfl⟩
  | ⟨nm, e, p⟩ :: r, h => by
    simp only [List.all_cons, Bool.and_eq_true] at h
    obtain ⟨h1, h2, h3⟩ := kw_all (env := env) (pos := pos) h.2
    cases nm with
    | none => exact absurd h.1 (by simp)
    | some y =>
      refine ⟨?_, ?_, ?_⟩
      · show (true && (backToKw pos (keywordEach r env)).all (·.1.isSome)) = true
        rw [h1]; rfl
      · show (false || (backToKw pos (keywordEach r env)).any (·.1.isNone)) = false
        rw [h2]; rfl
      · show y :: (backToKw pos (keywordEach r env)).filterMap (·.1) = y :: r.filterMap (·.arg)
        rw [h3]
theorem k_nil : PK X [] (upA X.K fun _ μ Q => Q [] μ) :=
  ⟨fun pos pins s σ H Q I ⟨ρ, μ, Z, B, Q0, hs, hw, fin⟩ => pk_nil.run pos pins s σ H Q I (fin _ _ _ _ _ LeW.refl hs.1 .nil hw)⟩
theorem k_cons {nm : Option Str} {kpos : Pos} {kws : List Keyword} (ha : PE X a (upE X.K wa)) (hr : PK X kws (upA X.K was)) : PK X (⟨nm, a, kpos⟩ :: kws) (upA X.K fun ρ μ Q => wa ρ μ fun d μ1 => was ρ μ1 fun ds μ2 => Q (d :: ds) μ2) :=
  ⟨fun pos pins s σ H Q' I ⟨ρ, μ, Z, B, Q, hs, hw, fin⟩ => (pk_cons ha hr).run pos pins s σ H Q' I (upE_i hs hw fun x μ1 v H1 Z1 l1 hs1 r1 hw1 => upA_i hs1 hw1 fun ds μ2 vs H2 Z2 l2 hs2 r2 q =>
    fin _ _ _ _ _ (l1.trans l2) hs2.1 (.cons (r1.le l2) r2) q)⟩
variable {ks : List Str} {kws : List Keyword} {n m : Nat} {perm : List Nat}
theorem e_cak (F : FnOk X.prog X.w X.K X.mg X.base CX0 k f fd ps (lift X.K S)) (hr : Room k X.A) (hg : Gl X x) (hm : X.mg x = some (.ref f)) (hk : PySem.W.keepIn X.K (.ref f) = true)
    (hb : KBinds X.K fd ps ks (permU perm n m) (permV perm n m)) (hst : (e :: es).all notSt = true) (hdb : (x == ("__debug__" : Str)) = false) (ha : PA X (e :: es) (upA X.K was)) (hkw : PK X kws (upA X.K wbs))
    (hall : kws.all (fun k => k.arg.isSome) = true) (hks : kws.filterMap (·.arg) = ks) :
    PE X (.Call (.Name x p) (e :: es) kws pos) (upE X.K (wKs was wbs n m perm S)) := by
  simp only [List.all_cons, Bool.and_eq_true] at hst
  obtain ⟨h1, h2, h3⟩ := kw_all (env := X.env) (pos := pos) hall
  refine (pe_callK F hr hg hm hk hb pass0 ha hkw h1 (h3.trans hks) hdb (star_one hst.1) ?_).imp fun σ H Q' ⟨ρ, μ, Z, B, Q, hs, h, fin⟩ => upA_i hs h fun ds μ1 vs H1 Z1 l1 hs1 r1 q1 => upA_i hs1 q1 fun zs μ2 ws H2 Z2 l2 hs2 r2 q2 => ?_
  · rw [h2, Bool.or_false]
    exact star_any (es := e :: es) (by simp only [List.all_cons, Bool.and_eq_true]; exact hst)
  · exact ⟨_, μ2, Z2, B, Q, hs2.1, perm_rd (r1.le l2) r2, q2, fin.later (l1.trans l2)⟩
theorem e_cak0 (F : FnOk X.prog X.w X.K X.mg X.base CX0 k f fd ps (lift X.K S)) (hr : Room k X.A) (hg : Gl X x) (hm : X.mg x = some (.ref f)) (hk : PySem.W.keepIn X.K (.ref f) = true)
    (hb : KBinds X.K fd ps ks (permU perm n m) (permV perm n m)) (hdb : (x == ("__debug__" : Str)) = false) (hkw : PK X kws (upA X.K wbs))
    (hall : kws.all (fun k => k.arg.isSome) = true) (hks : kws.filterMap (·.arg) = ks) :
    PE X (.Call (.Name x p) [] kws pos) (upE X.K (wKs (fun _ μ Q => Q [] μ) wbs n m perm S)) := by
  obtain ⟨h1, h2, h3⟩ := kw_all (env := X.env) (pos := pos) hall
  refine ⟨fun pins s σ H Q' I ⟨ρ, μ, Z, B, Q, hs, h, fin⟩ => ?_⟩
  refine wpAny_Call_Name_kw (ld_glob I hg hm ?_ hdb)
  refine PySem.W.callWith_KW0 (h₀ := X.base) I.ok.mod.kin hk h1 (thn (hkw.run pos pins s σ H _ I (upA_i (R := fun zs H2 => lift X.K S (permV perm n m [] zs) H2 Q' E0) hs h fun zs μ2 ws H2 Z2 l2 hs2 r2 q2 => ?_)) fun ws s2 ⟨zs, H2, I2, rz, q2⟩ => ?_) ?_
  · exact ⟨_, μ2, Z2, B, Q, hs2.1, perm_rd .nil r2, q2, fin.later l2⟩
  · rw [h3, hks]
    exact ⟨I2.kIn, run_fnk F hr hb pass0 I2 .nil rz q2⟩
  · rw [h2]; rfl
end

/-! ### methods of built-in types -/
def notCall : Expr → Bool
  | .Call .. => false
  | _ => true
theorem base_of {o : Expr} {name : Str} {env : Env} {w : Sem Value} (h : notCall o = true) : attributeBase o name env w = w := by
  cases o <;> first
    | rfl
    | cases h
theorem few_of {e : Expr} {es : List Expr} {pos : Pos} {env : Env} (hst : (e :: es).all notSt = true) (hl : (e :: es).length < 30) :
    ((backTo pos (starEach (e :: es) env)).all (fun x => !x.1) && (backToKw pos (keywordEach [] env)).all (fun x => x.1.isSome)
      && decide ((e :: es).length + ([] : List Keyword).length + (if ([] : List Keyword).isEmpty then 0 else 1) < 30)) = true := by
  have h1 := star_any (env := env) (pos := pos) hst
  have h2 : (backTo pos (starEach (e :: es) env)).all (fun x => !x.1) = true := by
    rw [List.all_eq_true]
    intro y hy
    rw [List.any_eq_false] at h1
    have := h1 y hy
    simpa using this
  rw [h2]
  simp only [List.length_nil, List.isEmpty_nil, if_true, Nat.add_zero, Bool.true_and]
  show (true && _) = true
  simpa using hl
theorem mok_str {d : D} {v : V} (h : mOkM .join μ d = true) (r : RD K H Z B d v) : tyV K "str" v H := by
  cases d with
  | str a => cases r; exact (rfl : "str" = "str")
  | _ => cases h
theorem mok_ty {d : D} {v : V} (hr : HRel K μ Z B H) (h : mOk μ d = true) (r : RD K H Z B d v) : tyV K "list" v H := by
  cases d with
  | cel n =>
    simp only [mOk] at h
    split at h
    · rename_i xs q
      obtain ⟨a, rfl, _, vs, h1, _⟩ := hr.at_ q r
      exact .inl ⟨rfl, _, .of h1⟩
    · cases h
  | _ => cases h
theorem e_mth {m : MI} (hmm : ∀ (μ : M) d, mOkM m μ d = mOk μ d) {o e : Expr} {es : List Expr} {wo : WE} {name : Str} {apos cpos : Pos} {id : String} (slot : Slot "list" name id) (hty : typeOf (.builtin id) = pure (.type "method_descriptor")) (hm : MtR X id (upM X.K m))
    (ho : PE X o (upE X.K wo)) (ha : PA X (e :: es) (upA X.K was)) (hb : notCall o = true) (hl : (e :: es).length < 30) (hst : (e :: es).all notSt = true) (hline : (apos.endLine == cpos.line) = true) :
    PE X (.Call (.Attribute o name apos) (e :: es) [] cpos) (upE X.K fun ρ μ Q => wo ρ μ fun d μ1 => mOkM m μ1 d = true ∧ was ρ μ1 fun ds μ2 => opMth m d ds μ2 Q) := by
  have hst' := hst
  simp only [List.all_cons, Bool.and_eq_true] at hst'
  refine (pe_bm PySem.F.plainAttrs_list slot hty hm ho ha (base_of hb) (few_of hst hl) hline (star_one hst'.1) (star_any hst'.2)).imp fun σ H Q' ⟨ρ, μ, Z, B, Q, hs, h, fin⟩ => upE_i hs h fun d μ1 v H1 Z1 l1 hs1 r1 q1 => ⟨mok_ty hs1.1 (hmm _ _ ▸ q1.1) r1, upA_i hs1 q1.2 fun ds μ2 vs H2 Z2 l2 hs2 r2 q2 => ?_⟩
  exact ⟨d, ds, μ2, Z2, B, Q, hs2.1, r1.le l2, r2, q2, fin.later (l1.trans l2)⟩
theorem e_mth0 {m : MI} (hmm : ∀ (μ : M) d, mOkM m μ d = mOk μ d) {o : Expr} {wo : WE} {name : Str} {apos cpos : Pos} {id : String} (slot : Slot "list" name id) (hty : typeOf (.builtin id) = pure (.type "method_descriptor")) (hm : MtR X id (upM X.K m))
    (ho : PE X o (upE X.K wo)) (hb : notCall o = true) (hline : (apos.endLine == cpos.line) = true) :
    PE X (.Call (.Attribute o name apos) [] [] cpos) (upE X.K fun ρ μ Q => wo ρ μ fun d μ1 => mOkM m μ1 d = true ∧ opMth m d [] μ1 Q) :=
  (pe_bm0 PySem.F.plainAttrs_list slot hty hm ho (base_of hb) hline).imp fun σ H Q' ⟨ρ, μ, Z, B, Q, hs, h, fin⟩ => upE_i hs h fun d μ1 v H1 Z1 l1 hs1 r1 q1 => ⟨mok_ty hs1.1 (hmm _ _ ▸ q1.1) r1,
    d, [], μ1, Z1, B, Q, hs1.1, r1, .nil, q1.2, fin.later l1⟩
theorem e_join {o e : Expr} {es : List Expr} {wo : WE} {name : Str} {apos cpos : Pos} {id : String} (slot : Slot "str" name id) (hty : typeOf (.builtin id) = pure (.type "method_descriptor")) (hm : MtR X id (upM X.K .join))
    (ho : PE X o (upE X.K wo)) (ha : PA X (e :: es) (upA X.K was)) (hb : notCall o = true) (hl : (e :: es).length < 30) (hst : (e :: es).all notSt = true) (hline : (apos.endLine == cpos.line) = true) :
    PE X (.Call (.Attribute o name apos) (e :: es) [] cpos) (upE X.K fun ρ μ Q => wo ρ μ fun d μ1 => mOkM .join μ1 d = true ∧ was ρ μ1 fun ds μ2 => opMth .join d ds μ2 Q) := by
  have hst' := hst
  simp only [List.all_cons, Bool.and_eq_true] at hst'
  refine (pe_bm PySem.F.plainAttrs_str slot hty hm ho ha (base_of hb) (few_of hst hl) hline (star_one hst'.1) (star_any hst'.2)).imp fun σ H Q' ⟨ρ, μ, Z, B, Q, hs, h, fin⟩ => upE_i hs h fun d μ1 v H1 Z1 l1 hs1 r1 q1 => ⟨mok_str q1.1 r1, upA_i hs1 q1.2 fun ds μ2 vs H2 Z2 l2 hs2 r2 q2 => ?_⟩
  exact ⟨d, ds, μ2, Z2, B, Q, hs2.1, r1.le l2, r2, q2, fin.later (l1.trans l2)⟩
/-! ### texts with values in them -/
theorem e_fmt (ha : PE X a (upE X.K wa)) : PE X (.FormattedValue a (-1) none pos) (upE X.K fun ρ μ Q => wa ρ μ fun x μ1 => match x with
    | .int i => i.natAbs.log2 < 1920 ∧ Q (.str (toString i)) μ1
    | .str y => y.length ≤ sizeLine ∧ Q (.str y) μ1
    | _ => False) :=
  (pe_fmt ha).imp fun σ H Q' ⟨ρ, μ, Z, B, Q, hs, hw, fin⟩ => upE_i hs hw fun x μ1 v H1 Z1 l1 hs1 r1 hw1 => by
    cases x with
    | int i => cases r1; exact .inr ⟨i, rfl, hw1.1, (fin.later l1).here hs1.1 (.str _) hw1.2⟩
    | str y => cases r1; exact .inl ⟨y, rfl, hw1.1, (fin.later l1).here hs1.1 (.str _) hw1.2⟩
    | _ => exact hw1.elim
inductive UJ (K : PySem.W.Frag) : List WE → List TE → Prop where
  | nil : UJ K [] []
  | cons {w : WE} {t : TE} {ws : List WE} {ts : List TE} (h : t = upE K w) (r : UJ K ws ts) : UJ K (w :: ws) (t :: ts)
def wJs : List WE → Str → WE
  | [], acc => fun _ μ Q => Q (.str acc) μ
  | w :: ws, acc => fun ρ μ Q => w ρ μ fun d μ1 => match d with
    | .str y => (acc ++ y).length ≤ sizeLine ∧ wJs ws (acc ++ y) ρ μ1 Q
    | _ => False
theorem uj_up : ∀ {ws : List WE} {ts : List TE}, UJ K ws ts → ∀ {acc : Str} {σ : L2.St} {H : Hp} {ρ : Rho} {μ : M} {Z B : List Addr} {Q : WQ} {R : Str → Hp → Prop}, Sta K ρ μ Z B σ H → wJs ws acc ρ μ Q →
    (∀ out μ' H' Z', Le H Z H' Z' → HRel K μ' Z' B H' → Q (.str out) μ' → R out H') → tJs ts acc σ H R
  | _, _, .nil, acc, σ, H, ρ, μ, Z, B, Q, R, hs, hw, k => k _ _ _ _ LeW.refl hs.1 hw
  | _, _, .cons rfl r, acc, σ, H, ρ, μ, Z, B, Q, R, hs, hw, k => upE_i hs hw fun x μ1 v H1 Z1 l1 hs1 r1 hw1 => by
    cases x with
    | str y =>
      cases r1
      exact ⟨y, rfl, hw1.1, uj_up r hs1 hw1.2 fun out μ' H' Z' l hr q => k _ _ _ _ (l1.trans l) hr q⟩
    | _ => exact hw1.elim
theorem e_fst {v1 v2 : Expr} {rest : List Expr} {ws : List WE} {ts : List TE} (hp : PJ X (v1 :: v2 :: rest) ts) (hu : UJ X.K ws ts) : PE X (.JoinedStr (v1 :: v2 :: rest) pos) (upE X.K (wJs ws Str.empty)) :=
  (pe_joined hp).imp fun σ H Q' ⟨ρ, μ, Z, B, Q, hs, hw, fin⟩ => uj_up hu hs hw fun out μ' H' Z' l hr q => fin _ _ _ _ _ l hr (.str _) q
end
end Rf

set_option Elab.async false
set_option linter.all false
set_option maxRecDepth 100000
/-! Rf6: displays of dicts, what is walked, comprehensions -/
namespace Rf
open PySem L2 PySem.Spec PyProof.Rows
variable {K : PySem.W.Frag} {H H1 H2 H' : Hp} {Z Z1 Z' B : List Addr} {μ μ' : M} {ρ ρ' : Rho} {σ : L2.St}

/-! ### dicts -/
/-- pairs evaluated from the left -/
def upPr (K : PySem.W.Frag) (w : Rho → M → (List (Key × D) → M → Prop) → Prop) (trs : List (TE × TE)) : Prop :=
  ∀ (σ : L2.St) (H : Hp) (Q' : List (V × V) → Hp → Prop) (ρ : Rho) (μ : M) (Z B : List Addr) (Q : List (Key × D) → M → Prop), Sta K ρ μ Z B σ H → w ρ μ Q →
    (∀ kvs μ' kws H' Z', Le H Z H' Z' → HRel K μ' Z' B H' → RKs K H' Z' B kvs kws → Q kvs μ' → Q' (kws.map fun kv => (kV kv.1, kv.2)) H') → tPairs trs σ H Q'
theorem pr_nil : upPr K (fun _ μ Q => Q [] μ) [] := fun σ H Q' ρ μ Z B Q hs hw fin => fin [] μ [] H Z LeW.refl hs.1 .nil hw
theorem pr_cons {wk wv : WE} {w : Rho → M → (List (Key × D) → M → Prop) → Prop} {trs : List (TE × TE)} (h : upPr K w trs) :
    upPr K (fun ρ μ Q => wk ρ μ fun x μ1 => wv ρ μ1 fun d μ2 => match keyD x with | some key => w ρ μ2 fun kvs μ3 => Q ((key, d) :: kvs) μ3 | none => False) ((upE K wk, upE K wv) :: trs) := by
  intro σ H Q' ρ μ Z B Q hs hw fin
  refine upE_i hs hw fun x μ1 v H1 Z1 l1 hs1 r1 hw1 => upE_i hs1 hw1 fun d μ2 u H2 Z2 l2 hs2 r2 hw2 => ?_
  cases e : keyD x with
  | none => rw [e] at hw2; exact hw2.elim
  | some key =>
    rw [e] at hw2
    have ev := keyD_rel e r1
    subst ev
    refine h σ H2 _ ρ μ2 Z2 B _ hs2 hw2 fun kvs μ3 kws H3 Z3 l3 hr3 r3 q => ?_
    exact fin ((key, d) :: kvs) μ3 ((key, u) :: kws) H3 Z3 ((l1.trans l2).trans l3) hr3 (.cons ⟨rfl, r2.le l3⟩ r3) q
theorem Le.celled {p : Addr} {o o' : HO} (n : H p = none) (l : Le (upd H p o) Z H1 Z1) (e : H1 p = some o) : Le H Z (upd H1 p o') (Z1 ++ [p]) := by
  refine ⟨fun a u ea nz _ => ?_, ?_, fun a u ea => ?_⟩
  · have hne : a ≠ p := ne_of_none ea n
    obtain ⟨h1, h2⟩ := l.keep a u (by rw [upd_ne hne]; exact ea) nz (by simp)
    refine ⟨by rw [upd_ne hne]; exact h1, fun z => ?_⟩
    rcases List.mem_append.mp z with z | z
    · exact h2 z
    · exact hne (by simpa using z)
  · obtain ⟨Y, rfl⟩ := l.pre
    exact ⟨Y ++ [p], by simp⟩
  · have hne : a ≠ p := ne_of_none ea n
    obtain ⟨u', h1⟩ := l.there a u (by rw [upd_ne hne]; exact ea)
    exact ⟨u', by rw [upd_ne hne]; exact h1⟩
theorem Le.frozen {p : Addr} {o o' : HO} (n : H p = none) (l : Le (upd H p o) Z H1 Z1) : Le H Z (upd H1 p o') Z1 := by
  refine ⟨fun a u ea nz _ => ?_, l.pre, fun a u ea => ?_⟩
  · have hne : a ≠ p := ne_of_none ea n
    obtain ⟨h1, h2⟩ := l.keep a u (by rw [upd_ne hne]; exact ea) nz (by simp)
    exact ⟨by rw [upd_ne hne]; exact h1, h2⟩
  · have hne : a ≠ p := ne_of_none ea n
    obtain ⟨u', h1⟩ := l.there a u (by rw [upd_ne hne]; exact ea)
    exact ⟨u', by rw [upd_ne hne]; exact h1⟩
section
variable {X : Cx} {pos : Pos}
theorem e_dct {w : Rho → M → (List (Key × D) → M → Prop) → Prop} {keys : List (Option Expr)} {values : List Expr} {trs : List (TE × TE)} (h : PPs X pos keys values trs) (hu : upPr X.K w trs) (hall : keys.all (·.isSome) = true)
    (hl : keys.length = values.length) (h0 : keys ≠ []) (hle : keys.length ≤ 15) : PE X (.Dict keys values pos) (upE X.K fun ρ μ Q => w ρ μ fun kvs μ1 => kvs.length ≤ 15 ∧ kvs ≠ [] ∧ Q (.cel μ1.length) (μ1 ++ [.dK (dmerge [] kvs)])) := by
  refine (pe_disp h hall hl h0 (by omega)).imp fun σ H Q' ⟨ρ, μ, Z, B, Q, hs, hw, fin⟩ => fun p n => ?_
  have hr1 := hs.1.lay (o := .dK []) n
  have l0 : Le H Z (upd H p (.dK [])) Z := Le.new n
  have hs1 : Sta X.K ρ μ Z (p :: B) σ (upd H p (.dK [])) := ⟨hr1, (hs.2.busy n).mono l0.weak⟩
  refine hu σ _ _ ρ μ Z (p :: B) _ hs1 hw fun kvs μ1 kws H1 Z1 l1 hr r q => ?_
  obtain ⟨q1, q2, q3⟩ := q
  have hp : p ∉ Z := (hs.1.fresh n).1
  have hpB : p ∉ B := (hs.1.fresh n).2
  have e1 : H1 p = some (.dK []) := (l1.keep p _ upd_same hp (by simp)).1
  refine ⟨e1, kws, rfl, by rw [← r.length]; exact q1, ?_⟩
  have l2 : Le H Z (upd H1 p (.dK (mergeK [] kws))) (Z1 ++ [p]) := Le.celled n l1 e1
  have lw : LeW (p :: B) H1 Z1 (upd H1 p (.dK (mergeK [] kws))) Z1 := LeW.wr (List.mem_cons_self)
  have nz1 : p ∉ Z1 := fun z => hr.zb p z (List.mem_cons_self)
  have hr2 : HRel X.K μ1 Z1 (p :: B) (upd H1 p (.dK (mergeK [] kws))) := hr.keep lw fun a za => upd_ne fun z => nz1 (z ▸ za)
  exact fin (.cel μ1.length) _ (.ref p) _ _ l2 (hr2.celled hpB (c := .dK (dmerge [] kvs)) ⟨_, upd_same, RKs.free (RKs.mono LeW.cell (RKs.mono lw (r.merge .nil)))⟩) (.cel (by rw [← hr.len]; simp)) q3

/-! ### what is walked -/
def Serves (K : PySem.W.Frag) (J : It) (s : Src) (H0 : Hp) (Z0 B : List Addr) : Prop :=
  ∀ (Bx : List Addr), (Bx = B ∨ ∃ p, H0 p = none ∧ Bx = p :: B) → ∀ (H' : Hp) (Z' : List Addr) (μ' : M), LeW Bx H0 Z0 H' Z' → HRel K μ' Z' Bx H' → s.ok μ' →
    (∀ i, i < s.items.length → J.go i H') ∧ (∀ i v H'' d, J.yld i H' v H'' → s.items[i]? = some d → Le H' Z' H'' Z' ∧ HRel K μ' Z' Bx H'' ∧ RD K H'' Z' Bx d v) ∧ ∀ i, s.items.length ≤ i → J.stop i H'
def upI (K : PySem.W.Frag) (w : WI) : TI := fun σ H R => ∃ (ρ : Rho) (μ : M) (Z B : List Addr) (Q : Src → M → Prop), Sta K ρ μ Z B σ H ∧ w ρ μ Q ∧ ∀ s μ' J H' Z', Le H Z H' Z' → HRel K μ' Z' B H' → s.ok μ' → Serves K J s H' Z' B → Q s μ' → R J H'
variable {e : Expr} {we : WE} {tg : Expr}
def iSeq (K : PySem.W.Frag) (tl : TE) : TI := fun σ H R => tl σ H fun x H1 => ∃ a, x = .ref a ∧ (((∃ xs, SqL K H1 a xs) ∧ R (Itl K a) H1) ∨ ((∃ xs, SqT K H1 a xs) ∧ R (Itt K a) H1))
theorem pi_seq {tl : TE} (hl : PE X e tl) : PI X tg e (iSeq X.K tl) := by
  refine ⟨fun pins s σ H R I h => ?_⟩
  refine thn (hl.run pins s σ H _ I h) fun v s1 ⟨x, H1, I1, r1, q1⟩ => ?_
  obtain ⟨a, ex, q1⟩ := q1
  subst ex
  cases r1
  rcases q1 with ⟨⟨xs, hq⟩, q⟩ | ⟨⟨xs, hq⟩, q⟩
  · obtain ⟨its, rv, p, hz⟩ := I1.list hq
    refine wpAny_pyIter_list p.isList ?_
    refine ⟨s1.heap.objs.size, [s1.heap.objs.size], _, _, H1, rfl, I1.kept (t' := s1.toks) fun b o e => Heap.get?_push_of_some _ e, turn_list a _, ⟨_, Heap.get?_push_size _ rfl, rfl, rfl⟩, fun b hb => ?_, q⟩
    have e : b = s1.heap.objs.size := by simpa using hb
    subst e
    exact I1.fpOk (Nat.le_refl _) (I1.hok.fresh (Nat.le_refl _))
  · obtain ⟨its, rv, p, hz⟩ := I1.tuple hq
    refine wpAny_pyIter_tuple (show s1.heap.IsTuple a its.toArray from p) ?_
    refine ⟨s1.heap.objs.size, [s1.heap.objs.size], _, _, H1, rfl, I1.kept (t' := s1.toks) fun b o e => Heap.get?_push_of_some _ e, turn_tuple a _, ⟨_, Heap.get?_push_size _ rfl, rfl, rfl⟩, fun b hb => ?_, q⟩
    have e : b = s1.heap.objs.size := by simpa using hb
    subst e
    exact I1.fpOk (Nat.le_refl _) (I1.hok.fresh (Nat.le_refl _))
theorem sq_inj {a : Addr} {xs ys : List V} {Hx : Hp} (h1 : SqL K Hx a xs) (hn : Hx a = some (.lst xs) ∨ ∃ o, Hx a = some (.frz o (.lst xs))) (h2 : Rd Hx a (.lst ys)) : xs = ys := by
  rcases hn with hn | ⟨o, hn⟩ <;> rcases h2 with h2 | ⟨o', h2⟩ <;> (rw [hn] at h2; cases h2; try rfl)
theorem serves_list {a : Addr} {vs : List V} {s : Src} (h : ∀ (Bx : List Addr), (Bx = B ∨ ∃ p, H p = none ∧ Bx = p :: B) → ∀ (H' : Hp) (Z' : List Addr) (μ' : M), LeW Bx H Z H' Z' → HRel K μ' Z' Bx H' → s.ok μ' → ∃ vs, SqL K H' a vs ∧ RDs K H' Z' Bx s.items vs) : Serves K (Itl K a) s H Z B := by
  intro Bx hB H' Z' μ' l hr ok
  obtain ⟨vs, sq, rs⟩ := h Bx hB H' Z' μ' l hr ok
  refine ⟨fun i hi => ?_, fun i v H'' d y e => ?_, fun i hi => ⟨vs, sq, by rw [← rs.length]; exact hi⟩⟩
  · obtain ⟨v, e, _⟩ := rs.get (List.getElem?_eq_getElem hi)
    exact ⟨vs, v, sq, e⟩
  · obtain ⟨e1, e2⟩ := y
    subst e1
    obtain ⟨w, e3, r⟩ := rs.get e
    have := e2 vs sq
    rw [e3] at this
    cases this
    exact ⟨LeW.refl, hr, r⟩
theorem serves_tup {a : Addr} {s : Src} (h : ∀ (Bx : List Addr), (Bx = B ∨ ∃ p, H p = none ∧ Bx = p :: B) → ∀ (H' : Hp) (Z' : List Addr) (μ' : M), LeW Bx H Z H' Z' → HRel K μ' Z' Bx H' → s.ok μ' → ∃ vs, SqT K H' a vs ∧ RDs K H' Z' Bx s.items vs) : Serves K (Itt K a) s H Z B := by
  intro Bx hB H' Z' μ' l hr ok
  obtain ⟨vs, sq, rs⟩ := h Bx hB H' Z' μ' l hr ok
  refine ⟨fun i hi => ?_, fun i v H'' d y e => ?_, fun i hi => ⟨vs, sq, by rw [← rs.length]; exact hi⟩⟩
  · obtain ⟨v, e, _⟩ := rs.get (List.getElem?_eq_getElem hi)
    exact ⟨vs, v, sq, e⟩
  · obtain ⟨e1, e2⟩ := y
    subst e1
    obtain ⟨w, e3, r⟩ := rs.get e
    have := e2 vs sq
    rw [e3] at this
    cases this
    exact ⟨LeW.refl, hr, r⟩
theorem rds_bx {Bx : List Addr} (hB : Bx = B ∨ ∃ p, H p = none ∧ Bx = p :: B) {ds : List D} {vs : List V} (r : RDs K H Z B ds vs) : RDs K H Z Bx ds vs := by
  rcases hB with rfl | ⟨p, n, rfl⟩
  · exact r
  · exact r.busy n
theorem fzt_bx {Bx : List Addr} (hB : Bx = B ∨ ∃ p, H p = none ∧ Bx = p :: B) {a : Addr} {vs : List V} (r : FzT K H Z B a vs) : FzT K H Z Bx a vs := by
  rcases hB with rfl | ⟨p, n, rfl⟩
  · exact r
  · exact r.busy n
theorem fzs_bx {Bx : List Addr} (hB : Bx = B ∨ ∃ p, H p = none ∧ Bx = p :: B) {a : Addr} {vs : List V} (r : FzS K H Z B a vs) : FzS K H Z Bx a vs := by
  rcases hB with rfl | ⟨p, n, rfl⟩
  · exact r
  · exact r.busy n
theorem nbx {Bx : List Addr} (hB : Bx = B ∨ ∃ p, H p = none ∧ Bx = p :: B) {a : Addr} {o : HO} (f : H a = some o) (b : a ∉ B) : a ∉ Bx := by
  rcases hB with rfl | ⟨p, n, rfl⟩
  · exact b
  · intro z
    rcases List.mem_cons.mp z with z | z
    · exact ne_of_none f n z
    · exact b z
theorem src_ok {d : D} {s : Src} {v : V} (hr : HRel K μ Z B H) (e : srcOf μ d = some s) (r : RD K H Z B d v) : s.ok μ ∧ ∃ a, v = .ref a ∧ ((∃ vs, SqL K H a vs) ∧ Serves K (Itl K a) s H Z B ∨ (∃ vs, SqT K H a vs) ∧ Serves K (Itt K a) s H Z B) := by
  cases d with
  | cel n =>
    simp only [srcOf] at e
    split at e
    · rename_i xs q
      cases e
      refine ⟨fun m em => by cases em; exact q, ?_⟩
      obtain ⟨a, rfl, ea, vs, h1, rs⟩ := hr.at_ q r
      refine ⟨a, rfl, .inl ⟨⟨vs, .of h1⟩, serves_list (vs := vs) fun Bx hB H' Z' μ' l hr' ok => ?_⟩⟩
      have q' := ok n rfl
      obtain ⟨a', ea', vs', h1', rs'⟩ := hr'.cel n _ q'
      rw [l.at_ ea] at ea'
      cases ea'
      exact ⟨vs', .of h1', rs'⟩
    · cases e
  | tup xs =>
    cases e
    refine ⟨fun m em => (by cases em), ?_⟩
    cases r with
    | tup f rs => exact ⟨_, rfl, .inr ⟨⟨_, f.sq⟩, serves_tup fun Bx hB H' Z' μ' l hr' ok => ⟨_, (FzT.mono l (fzt_bx hB f)).sq, RDs.mono l (rds_bx hB rs)⟩⟩⟩
  | lst xs =>
    cases e
    refine ⟨fun m em => (by cases em), ?_⟩
    cases r with
    | lst f n b rs => exact ⟨_, rfl, .inl ⟨⟨_, .of f⟩, serves_list (vs := []) fun Bx hB H' Z' μ' l hr' ok => by
        exact ⟨_, .of (l.keep _ _ f n (nbx hB f b)).1, RDs.mono l (rds_bx hB rs)⟩⟩⟩
  | scr xs =>
    cases e
    refine ⟨fun m em => (by cases em), ?_⟩
    cases r with
    | scr f rs => exact ⟨_, rfl, .inl ⟨⟨_, f.sq⟩, serves_list (vs := []) fun Bx hB H' Z' μ' l hr' ok => ⟨_, (FzS.mono l (fzs_bx hB f)).sq, RDs.mono l (rds_bx hB rs)⟩⟩⟩
  | _ => cases e
theorem i_sq (ha : PE X e (upE X.K we)) : PI X tg e (upI X.K fun ρ μ Q => we ρ μ fun d μ1 => match srcOf μ1 d with | some s => Q s μ1 | none => False) :=
  (pi_seq ha).imp fun σ H R ⟨ρ, μ, Z, B, Q, hs, h, fin⟩ => upE_i hs h fun d μ1 v H1 Z1 l1 hs1 r1 q1 => by
    cases es : srcOf μ1 d with
    | none => rw [es] at q1; exact q1.elim
    | some s =>
      rw [es] at q1
      obtain ⟨ok, a, rfl, ⟨q, sv⟩ | ⟨q, sv⟩⟩ := src_ok hs1.1 es r1
      · exact ⟨a, rfl, .inl ⟨q, fin s μ1 _ H1 Z1 l1 hs1.1 ok sv q1⟩⟩
      · exact ⟨a, rfl, .inr ⟨q, fin s μ1 _ H1 Z1 l1 hs1.1 ok sv q1⟩⟩
theorem serves_range {lo : Int} {n : Nat} : Serves K (Itr lo n) ⟨none, rangeD lo n⟩ H Z B := by
  intro Bx hB H' Z' μ' l hr ok
  have hl : (rangeD lo n).length = n := by simp [rangeD]
  refine ⟨fun i hi => ?_, fun i v H'' d y e => ?_, fun i hi => ?_⟩
  · show i < n
    rw [← hl]; exact hi
  · obtain ⟨e1, e2⟩ := y
    subst e1 e2
    refine ⟨LeW.refl, hr, ?_⟩
    have e : (rangeD lo n)[i]? = some d := e
    unfold rangeD at e
    rw [List.getElem?_map] at e
    cases q : (List.range n)[i]? with
    | none => rw [q] at e; cases e
    | some j =>
      rw [q] at e
      cases e
      have : j = i := by
        have hi := (List.getElem?_eq_some_iff.mp q).1
        rw [List.getElem?_range (by simpa using hi)] at q
        exact (Option.some.inj q).symm
      subst this
      exact .int _
  · show n ≤ i
    rw [← hl]; exact hi
theorem zip_get {xs ys : List D} {i : Nat} {d : D} (h : (List.zipWith (fun x y => D.tup [x, y]) xs ys)[i]? = some d) : ∃ x y, xs[i]? = some x ∧ ys[i]? = some y ∧ d = .tup [x, y] := by
  rw [List.getElem?_zipWith] at h
  cases e1 : xs[i]? with
  | none => rw [e1] at h; cases h
  | some x =>
    cases e2 : ys[i]? with
    | none => rw [e1, e2] at h; cases h
    | some y => rw [e1, e2] at h; cases h; exact ⟨x, y, rfl, rfl, rfl⟩
theorem zip_yld {μ' : M} {Bx : List Addr} {H' H'' : Hp} {Z' : List Addr} {T : Addr} {x y : V} {dx dy : D} (hr : HRel K μ' Z' Bx H') (n : H' T = none) (e : H'' = upd H' T (.tup [x, y])) (r1 : RD K H' Z' Bx dx x) (r2 : RD K H' Z' Bx dy y) :
    Le H' Z' H'' Z' ∧ HRel K μ' Z' Bx H'' ∧ RD K H'' Z' Bx (.tup [dx, dy]) (.ref T) := by
  subst e
  have l : Le H' Z' (upd H' T (.tup [x, y])) Z' := Le.new n
  obtain ⟨n1, n2⟩ := hr.fresh n
  exact ⟨l, hr.new n, .tup (.inl ⟨upd_same, n1, n2⟩) (.cons (r1.le l) (.cons (r2.le l) .nil))⟩
theorem serves_zipT {a b : Addr} {xs ys : List D} (h : ∀ (Bx : List Addr), (Bx = B ∨ ∃ p, H p = none ∧ Bx = p :: B) → ∀ (H' : Hp) (Z' : List Addr) (μ' : M), LeW Bx H Z H' Z' → HRel K μ' Z' Bx H' → ∃ vs ws, SqT K H' a vs ∧ RDs K H' Z' Bx xs vs ∧ SqT K H' b ws ∧ RDs K H' Z' Bx ys ws) :
    Serves K (RZ.ItzT K a b) ⟨none, List.zipWith (fun x y => D.tup [x, y]) xs ys⟩ H Z B := by
  intro Bx hB H' Z' μ' l hr ok
  obtain ⟨vs, ws, s1, r1, s2, r2⟩ := h Bx hB H' Z' μ' l hr
  refine ⟨fun i hi => ?_, fun i v H'' d y e => ?_, fun i hi => ⟨vs, ws, s1, s2, ?_⟩⟩
  · have hi : i < (List.zipWith (fun x y => D.tup [x, y]) xs ys).length := hi
    obtain ⟨x, y, e1, e2, _⟩ := zip_get (List.getElem?_eq_getElem hi)
    obtain ⟨v, q1, _⟩ := r1.get e1
    obtain ⟨w, q2, _⟩ := r2.get e2
    exact ⟨vs, ws, v, w, s1, s2, q1, q2⟩
  · obtain ⟨x, y', e1, e2, rfl⟩ := zip_get e
    obtain ⟨T, u, w, rfl, n, e3, k1, k2⟩ := y
    obtain ⟨v1, q1, p1⟩ := r1.get e1
    obtain ⟨v2, q2, p2⟩ := r2.get e2
    have a1 := k1 vs s1
    rw [q1] at a1; cases a1
    have a2 := k2 ws s2
    rw [q2] at a2; cases a2
    exact zip_yld hr n e3 p1 p2
  · have hi : (List.zipWith (fun x y => D.tup [x, y]) xs ys).length ≤ i := hi
    rw [List.length_zipWith, r1.length, r2.length] at hi
    omega
theorem serves_zipL {a b : Addr} {xs ys : List D} (h : ∀ (Bx : List Addr), (Bx = B ∨ ∃ p, H p = none ∧ Bx = p :: B) → ∀ (H' : Hp) (Z' : List Addr) (μ' : M), LeW Bx H Z H' Z' → HRel K μ' Z' Bx H' → ∃ vs ws, SqL K H' a vs ∧ RDs K H' Z' Bx xs vs ∧ SqL K H' b ws ∧ RDs K H' Z' Bx ys ws) :
    Serves K (Itz K a b) ⟨none, List.zipWith (fun x y => D.tup [x, y]) xs ys⟩ H Z B := by
  intro Bx hB H' Z' μ' l hr ok
  obtain ⟨vs, ws, s1, r1, s2, r2⟩ := h Bx hB H' Z' μ' l hr
  refine ⟨fun i hi => ?_, fun i v H'' d y e => ?_, fun i hi => ⟨vs, ws, s1, s2, ?_⟩⟩
  · have hi : i < (List.zipWith (fun x y => D.tup [x, y]) xs ys).length := hi
    obtain ⟨x, y, e1, e2, _⟩ := zip_get (List.getElem?_eq_getElem hi)
    obtain ⟨v, q1, _⟩ := r1.get e1
    obtain ⟨w, q2, _⟩ := r2.get e2
    exact ⟨vs, ws, v, w, s1, s2, q1, q2⟩
  · obtain ⟨x, y', e1, e2, rfl⟩ := zip_get e
    obtain ⟨T, u, w, rfl, n, e3, k1, k2⟩ := y
    obtain ⟨v1, q1, p1⟩ := r1.get e1
    obtain ⟨v2, q2, p2⟩ := r2.get e2
    have a1 := k1 vs s1
    rw [q1] at a1; cases a1
    have a2 := k2 ws s2
    rw [q2] at a2; cases a2
    exact zip_yld hr n e3 p1 p2
  · have hi : (List.zipWith (fun x y => D.tup [x, y]) xs ys).length ≤ i := hi
    rw [List.length_zipWith, r1.length, r2.length] at hi
    omega
variable {a b : Expr} {wa wb : WE} {p : Pos}
theorem i_zp {elts : List Expr} {kk : Nat} {tpos : Pos} (hg : Gl X "zip") (hm : X.mg "zip" = none) (hst : notSt a = true) (hst2 : notSt b = true) (ha : PE X a (upE X.K wa)) (hb : PE X b (upE X.K wb)) : PI X (.Tuple elts kk tpos) (.Call (.Name "zip" p) [a, b] [] pos) (upI X.K fun ρ μ Q => wa ρ μ fun d μ1 => wb ρ μ1 fun e μ2 => match d, e with
    | .tup xs, .tup ys => Q ⟨none, List.zipWith (fun x y => .tup [x, y]) xs ys⟩ μ2
    | .lst xs, .lst ys => Q ⟨none, List.zipWith (fun x y => .tup [x, y]) xs ys⟩ μ2
    | _, _ => False) :=
  (RZ.pi_zipA hg hm (pa_cons ha (pa_cons hb pa_nil (star_one hst2)) (star_one hst)) (by rw [star_one hst, star_one hst2] <;> rfl) (by first | (rw [star_one hst2]; rfl) | rw [star_one hst2] | exact star_any (es := [b]) (by simp [hst2]))).imp fun σ H R ⟨ρ, μ, Z, B, Q, hs, h, fin⟩ => upE_i hs h fun d μ1 v H1 Z1 l1 hs1 r1 q1 => upE_i hs1 q1 fun e μ2 w H2 Z2 l2 hs2 r2 q2 => by
    have r1 := r1.le l2
    split at q2
    · cases r1 with
      | tup f1 s1 =>
        cases r2 with
        | tup f2 s2 =>
          refine ⟨_, _, _, _, rfl, .inr ⟨f1.sq, f2.sq, fin _ _ _ _ _ (l1.trans l2) hs2.1 (fun m em => by cases em) (serves_zipT fun Bx hB H' Z' μ' l hr => ?_) q2⟩⟩
          exact ⟨_, _, (FzT.mono l (fzt_bx hB f1)).sq, RDs.mono l (rds_bx hB s1), (FzT.mono l (fzt_bx hB f2)).sq, RDs.mono l (rds_bx hB s2)⟩
    · cases r1 with
      | lst f1 n1 b1 s1 =>
        cases r2 with
        | lst f2 n2 b2 s2 =>
          refine ⟨_, _, _, _, rfl, .inl ⟨.of f1, .of f2, fin _ _ _ _ _ (l1.trans l2) hs2.1 (fun m em => by cases em) (serves_zipL fun Bx hB H' Z' μ' l hr => ?_) q2⟩⟩
          exact ⟨_, _, .of (l.keep _ _ f1 n1 (nbx hB f1 b1)).1, RDs.mono l (rds_bx hB s1), .of (l.keep _ _ f2 n2 (nbx hB f2 b2)).1, RDs.mono l (rds_bx hB s2)⟩
    · exact q2.elim
theorem i_r1 (hg : Gl X "range") (hm : X.mg "range" = none) (hst : notSt a = true) (ha : PE X a (upE X.K wa)) : PI X tg (.Call (.Name "range" p) [a] [] pos) (upI X.K fun ρ μ Q => wa ρ μ fun d μ1 => match d with | .int j => bnd j ∧ Q ⟨none, rangeD 0 j.toNat⟩ μ1 | _ => False) :=
  (pi_range1 hg hm (pa_cons ha pa_nil (star_one hst)) (star_one hst)).imp fun σ H R ⟨ρ, μ, Z, B, Q, hs, h, fin⟩ => upE_i hs h fun d μ1 v H1 Z1 l1 hs1 r1 q1 => by
    cases d with
    | int j =>
      obtain ⟨⟨b1, b2⟩, q⟩ := q1
      cases r1
      exact ⟨j, rfl, b1, b2, fin _ _ _ _ _ l1 hs1.1 (fun m em => by cases em) serves_range q⟩
    | _ => exact q1.elim
theorem i_r2 (hg : Gl X "range") (hm : X.mg "range" = none) (hst : notSt a = true) (hst2 : notSt b = true) (ha : PE X a (upE X.K wa)) (hb : PE X b (upE X.K wb)) : PI X tg (.Call (.Name "range" p) [a, b] [] pos) (upI X.K fun ρ μ Q => wa ρ μ fun d μ1 => wb ρ μ1 fun e μ2 => match d with
    | .int i => match e with
      | .int j => bnd i ∧ bnd j ∧ Q ⟨none, rangeD i (j - i).toNat⟩ μ2
      | _ => False
    | _ => False) :=
  (pi_range2 hg hm (pa_cons ha (pa_cons hb pa_nil (star_one hst2)) (star_one hst)) (by rw [star_one hst, star_one hst2]; rfl) (star_one hst2)).imp fun σ H R ⟨ρ, μ, Z, B, Q, hs, h, fin⟩ => upE_i hs h fun d μ1 v H1 Z1 l1 hs1 r1 q1 => upE_i hs1 q1 fun e μ2 w H2 Z2 l2 hs2 r2 q2 => by
    cases d with
    | int i =>
      cases e with
      | int j =>
        obtain ⟨⟨b1, b2⟩, ⟨b3, b4⟩, q⟩ := q2
        cases r1
        cases r2
        exact ⟨i, j, rfl, ⟨b1, b2, b3, b4⟩, fin _ _ _ _ _ (l1.trans l2) hs2.1 (fun m em => by cases em) serves_range q⟩
      | _ => exact q2.elim
    | _ => exact q2.elim

/-! ### targets -/
theorem wipe_in {σ : L2.St} {j : Nat} : ∀ {vs : List Nat}, j ∈ vs → j < σ.length → (L2.wipe σ vs)[j]? = some none
  | v :: vs, h, hl => by
    unfold L2.wipe
    by_cases e : v = j
    · subst e
      rw [List.getElem?_set_self (by rw [L2.wipe_length]; exact hl)]
    · rw [List.getElem?_set_ne e]
      exact wipe_in ((List.mem_cons.mp h).resolve_left fun z => e z.symm) hl
theorem wipe_ext {σ σ' : L2.St} {own : List Nat} (hl : σ.length = σ'.length) (h : ∀ j, j ∉ own → σ[j]? = σ'[j]?) : L2.wipe σ own = L2.wipe σ' own := by
  apply List.ext_getElem?
  intro j
  by_cases hj : j ∈ own
  · by_cases hl' : j < σ.length
    · rw [wipe_in hj hl', wipe_in hj (by rw [← hl]; exact hl')]
    · rw [List.getElem?_eq_none (by rw [L2.wipe_length]; omega), List.getElem?_eq_none (by rw [L2.wipe_length]; omega)]
  · rw [L2.wipe_out hj, L2.wipe_out hj]
    exact h j hj
/-- only these slots differ -/
def Dif (is : List Nat) (σ σ' : L2.St) : Prop := σ.length = σ'.length ∧ ∀ j, j ∉ is → σ[j]? = σ'[j]?
theorem Dif.wipe {is own : List Nat} {σ σ' : L2.St} (d : Dif is σ σ') (h : ∀ i ∈ is, i ∈ own) : L2.wipe σ' own = L2.wipe σ own :=
  (wipe_ext d.1 fun j hj => d.2 j fun z => hj (h j z)).symm
theorem wipe_wipe {σ : L2.St} {own : List Nat} : L2.wipe (L2.wipe σ own) own = L2.wipe σ own :=
  wipe_ext (L2.wipe_length _ _) fun j hj => L2.wipe_out hj
/-- a name, a tuple of names: what is bound -/
def upG (K : PySem.W.Frag) (tg : CT) (g : TG) : Prop := ∀ (v : V) (σ : L2.St) (H : Hp) (R : L2.St → Hp → Prop) (d : D) (ρ ρ2 : Rho) (μ : M) (Z B : List Addr), RR K H Z B ρ σ → RD K H Z B d v → bindT μ tg d ρ = some ρ2 →
  (∀ σ2, RR K H Z B ρ2 σ2 → Dif tg.slots σ σ2 → R σ2 H) → g v σ H R
theorem Dif.set {i : Nat} {σ : L2.St} {v : V} : Dif [i] σ (σ.set i (some v)) := ⟨by rw [List.length_set], fun j hj => by rw [List.getElem?_set_ne (fun z => hj (by simp [z]))]⟩
theorem g_nm {i : Nat} : upG K (.nm i) (gName i) := fun v σ H R d ρ ρ2 μ Z B hr r e k => by
  cases e
  exact k _ (hr.set r i) Dif.set
def gNames : List Nat → TGs
  | [] => gNil
  | i :: is => gCons (gName i) (gNames is)
theorem gNames_ok : ∀ {is : List Nat} {ds : List D} {vs : List V} {ρ ρ2 : Rho} {σ : L2.St} {R : L2.St → Hp → Prop}, RR K H Z B ρ σ → RDs K H Z B ds vs → setsD is ds ρ = some ρ2 → (∀ σ2, RR K H Z B ρ2 σ2 → Dif is σ σ2 → R σ2 H) → gNames is vs σ H R
  | [], [], vs, ρ, ρ2, σ, R, hr, r, e, k => by cases e; cases r; exact ⟨rfl, k _ hr ⟨rfl, fun _ _ => rfl⟩⟩
  | [], _ :: _, vs, ρ, ρ2, σ, R, hr, r, e, k => by cases e
  | _ :: _, [], vs, ρ, ρ2, σ, R, hr, r, e, k => by cases e
  | i :: is, d :: ds, vs, ρ, ρ2, σ, R, hr, r, e, k => by
    cases r with
    | cons r1 r2 =>
      refine ⟨_, _, rfl, gNames_ok (hr.set r1 i) r2 e fun σ2 h1 h2 => k σ2 h1 ⟨by rw [← h2.1, List.length_set], fun j hj => ?_⟩⟩
      rw [← h2.2 j fun z => hj (List.mem_cons_of_mem _ z), List.getElem?_set_ne (fun z => hj (by rw [z]; exact List.mem_cons_self))]
theorem setsD_len : ∀ {is : List Nat} {ds : List D} {ρ ρ2 : Rho}, setsD is ds ρ = some ρ2 → ds.length = is.length ∧ ρ2.length = ρ.length
  | [], [], ρ, ρ2, e => by cases e; exact ⟨rfl, rfl⟩
  | [], _ :: _, ρ, ρ2, e => by cases e
  | _ :: _, [], ρ, ρ2, e => by cases e
  | i :: is, d :: ds, ρ, ρ2, e => by
    obtain ⟨h1, h2⟩ := setsD_len (is := is) (ds := ds) e
    exact ⟨by simp [h1], by rw [h2, List.length_set]⟩
theorem g_tp {is : List Nat} : upG K (.tp is) (gTup K is.length (gNames is)) := fun v σ H R d ρ ρ2 μ Z B hr r e k => by
  cases d with
  | tup ds =>
    cases r with
    | tup f rs => exact ⟨_, _, rfl, f.sq, by rw [← rs.length]; exact (setsD_len (show setsD is ds ρ = some ρ2 from e)).1, gNames_ok hr rs e k⟩
  | _ => cases e

/-! ### comprehensions -/
theorem LeW.strong {p : Addr} (n : H p = none) (l : LeW [p] H Z H1 Z1) : Le H Z H1 Z1 := ⟨fun a o e nz _ => l.keep a o e nz (by
  have := ne_of_none e n
  simpa using this), l.pre, l.there⟩
theorem LeW.strongc {p : Addr} (n : H p = none) (l : LeW [p] H Z H1 Z1) : Le H Z H1 (Z1 ++ [p]) := by
  refine ⟨fun a o e nz _ => ?_, ?_, l.there⟩
  · have hne := ne_of_none e n
    obtain ⟨h1, h2⟩ := l.keep a o e nz (by simpa using hne)
    refine ⟨h1, fun z => ?_⟩
    rcases List.mem_append.mp z with z | z
    · exact h2 z
    · exact hne (by simpa using z)
  · obtain ⟨Y, rfl⟩ := l.pre
    exact ⟨Y ++ [p], by simp⟩
theorem lc_up {ct : CT} {wi : WI} {wf : WT} {wel : WE} {own : List Nat} {ti : TI} {g : TG} {tf : TT} {te : TE} (hi : ∀ σ H R, upI K wi σ H R → ti σ H R) (hg : upG K ct g) (hsl : ∀ i ∈ ct.slots, i ∈ own)
    (hf : ∀ σ H R, upT K wf σ H R → tf σ H R) (he : ∀ σ H R, upE K wel σ H R → te σ H R) :
    ∀ σ H Q', upE K (fun ρ μ Q => wi ρ μ fun s μ1 => wLc ct wf wel own s ρ μ1 Q) σ H Q' → tLc ti g tf te own σ H Q' := by
  intro σ H Q' ⟨ρ, μ, Z, B, Q, hs, hw, fin⟩
  refine hi σ H _ ⟨ρ, μ, Z, B, _, hs, hw, fun s μ1 J H1 Z1 l1 hr1 ok sv hw1 => ?_⟩
  intro L hL
  obtain ⟨P, p0, pok, step, done⟩ := hw1
  have hB : (L :: B) = B ∨ ∃ p, H1 p = none ∧ L :: B = p :: B := .inr ⟨L, hL, rfl⟩
  have hs1 : Sta K ρ μ1 Z1 B σ H1 := hs.le l1 hr1
  have hLB : L ∉ B := (hr1.fresh hL).2
  have mo : ∀ x ∈ [L], x ∈ L :: B := fun x hx => by simp at hx; simp [hx]
  -- the state of the turn
  let G : Nat → Hp → Prop := fun i H' => ∃ (acc : List D) (vs : List V) (μ' : M) (Z' : List Addr), P i acc μ' ∧ H' L = some (.lst vs) ∧ RDs K H' Z' (L :: B) acc vs ∧ LeW [L] H1 Z1 H' Z' ∧ HRel K μ' Z' (L :: B) H'
  have l0 : Le H1 Z1 (upd H1 L (.lst [])) Z1 := Le.new hL
  refine ⟨fun i m H' => m = s.items.length - i ∧ i ≤ s.items.length ∧ G i H', ⟨s.items.length, by simp, Nat.zero_le _, [], [], μ1, Z1, p0, upd_same, .nil, l0.weak, hr1.lay hL⟩, ?_⟩
  rintro i m H' ⟨rfl, hi, acc, vs, μ', Z', p, eL, racc, l, hr⟩
  obtain ⟨sgo, syld, sstop⟩ := sv (L :: B) hB H' Z' μ' (l.mono mo) hr (pok i acc μ' p hi)
  have nzL : L ∉ Z' := fun z => hr.zb L z List.mem_cons_self
  by_cases hlt : i < s.items.length
  · refine .inr ⟨sgo i hlt, G (i + 1), fun H2 h2 => ⟨s.items.length - (i + 1), by omega, rfl, hlt, h2⟩, fun x H'' y => ?_⟩
    obtain ⟨ly, hr, rx⟩ := syld i x H'' _ y (List.getElem?_eq_getElem hlt)
    have eL := (ly.keep L _ eL nzL (by simp)).1
    have racc := racc.le ly
    have l := l.trans ly.weak
    obtain ⟨ρ2, eb, hw2⟩ := step i _ acc μ' (List.getElem?_eq_getElem hlt) p
    have hrr : RR K H'' Z' (L :: B) (wipeD ρ own) (L2.wipe σ own) := ((hs1.2.busy hL).mono (l.mono mo)).wipe own
    refine hg x (L2.wipe σ own) H'' _ _ (wipeD ρ own) ρ2 μ' Z' (L :: B) hrr rx eb fun σ2 rr2 dif => ⟨(dif.wipe hsl).trans wipe_wipe, ?_⟩
    refine hf σ2 H'' _ (upT_i (⟨hr, rr2⟩ : Sta K ρ2 μ' Z' (L :: B) σ2 H'') hw2 fun b μ2 H2 Z2 l2 hs2 q2 => ?_)
    cases b with
    | true =>
      rw [if_pos rfl] at q2 ⊢
      refine he σ2 H2 _ (upE_i hs2 q2 fun y μ3 v H3 Z3 l3 hs3 r3 q3 => ?_)
      have l23 := l2.trans l3
      have lw : LeW (L :: B) H3 Z3 (upd H3 L (.lst (vs ++ [v]))) Z3 := LeW.wr List.mem_cons_self
      have lw' : LeW [L] H3 Z3 (upd H3 L (.lst (vs ++ [v]))) Z3 := LeW.wr List.mem_cons_self
      have nz3 : L ∉ Z3 := fun z => hs3.1.zb L z List.mem_cons_self
      have racc3 : RDs K H3 Z3 (L :: B) acc vs := racc.le l23
      refine ⟨vs, (l23.keep L _ eL nzL (by simp)).1, by rw [← racc.length]; exact q3.1, acc ++ [y], vs ++ [v], μ3, Z3, q3.2, upd_same, RDs.mono lw (racc3.append (.cons r3 .nil)), l.trans (l23.weak.trans lw'), ?_⟩
      exact hs3.1.keep lw fun a za => upd_ne fun z => nz3 (z ▸ za)
    | false =>
      rw [if_neg Bool.false_ne_true] at q2 ⊢
      exact ⟨acc, vs, μ2, Z2, q2, (l2.keep L _ eL nzL (by simp)).1, racc.le l2, l.trans l2.weak, hs2.1⟩
  · have e : i = s.items.length := by omega
    subst e
    refine .inl ⟨sstop _ (Nat.le_refl _), ?_⟩
    obtain ⟨hlen, q⟩ := done acc μ' p
    rcases q with q | q
    · exact fin _ _ _ _ _ (l1.trans (l.strong hL)) hr.unlay (.lst eL nzL hLB racc.free) q
    · exact fin _ _ _ _ _ (l1.trans (l.strongc hL)) (hr.celled hLB (c := .lst acc) ⟨vs, eL, (RDs.mono LeW.cell racc).free⟩) (.cel (by rw [← hr.len]; simp)) q
end
end Rf

set_option Elab.async false
set_option linter.all false
set_option maxRecDepth 100000
/-! Rf7: a text against the core language: a look that decides, and that what passes it is so -/
namespace Rf
open PySem L2 PySem.Spec PyProof.Rows

structure SC where
  N : List Str
  sc : Scope
  blk : Option Scope
  FN : List Str
  KW : List (Nat × Nat × List Str × List Nat)
  BN : List Str
  GC : Bool
  GD : Bool
def SC.inBlk (S : SC) (scope : Scope) : SC := { S with sc := relS scope S.sc, blk := some scope }
def visB (sc : Scope) (x : Str) : Bool := match sc.names.lookup x with
  | some .local => true
  | some .cell => true
  | some .free => true
  | _ => false
def locB (sc : Scope) (x : Str) : Bool := match sc.names.lookup x with
  | some .local => true
  | some .cell => true
  | _ => false
def gloB (sc : Scope) (x : Str) : Bool := match sc.names.lookup x with
  | some .globalImplicit => true
  | _ => false
def isLocB (sc : Scope) (x : Str) : Bool := match sc.names.lookup x with
  | some .local => true
  | _ => false
def SC.fnB (S : SC) (x : Str) : Bool := match S.blk with
  | none => true
  | some scope => (match scope.names.lookup x with | some .cell => true | _ => false) || isLocB S.sc x
def biName : BI → Str
  | .len => "len" | .abs => "abs" | .int => "int" | .isi => "isinstance" | .all => "all" | .any => "any" | .tuple => "tuple" | .list => "list" | .gcd => "gcd" | .max2 => "max" | .min2 => "min" | .str => "str" | .sorted => "sorted" | .repr => "repr"
def tyL : List String := ["int", "bool", "str", "tuple", "list", "dict"]
def miName : MI → Str
  | .append => "append" | .extend => "extend" | .pop => "pop" | .join => "join"
def miArity : MI → Nat
  | .append => 1 | .extend => 1 | .pop => 0 | .join => 1
def cstB : D → Const → Bool
  | .non, .none => true
  | .bl a, .bool b => a == b
  | .int a, .int b => a == b
  | .str a, .str b => a == b
  | _, _ => false
def okName (x : Str) : Bool := !(x == ("__debug__" : Str)) && !(x == ("__classdict__" : Str))
def notSet : Expr → Bool
  | .Set .. => false
  | _ => true
def ownOf (S : SC) (own : List Nat) : List (Str × Nat) := own.map fun j => (S.N.getD j Str.empty, j)
def chkT (S : SC) : CT → Expr → Bool
  | .nm i, .Name x _ => S.N[i]? == some x && locB S.sc x && S.fnB x
  | .tp is, .Tuple es _ _ => is.length == es.length && (is.zip es).all fun p => match p.2 with
    | .Name x _ => S.N[p.1]? == some x && locB S.sc x && S.fnB x
    | _ => false
  | _, _ => false
mutual
def chkE : CE → SC → Expr → Bool
  | .var i => fun S e => match e with
    | .Name x _ => S.N[i]? == some x && visB S.sc x && okName x
    | _ => false
  | .cst d => fun _ e => match e with
    | .Constant c _ _ => cstB d c
    | _ => false
  | .typ n => fun S e => match e with
    | .Name x _ => x == Str.ofString n && tyL.contains n && S.BN.contains x && gloB S.sc x
    | _ => false
  | .bin op a b => fun S e => match e with
    | .BinOp x op' y _ => op == op' && chkE a S x && chkE b S y
    | _ => false
  | .neg a => fun S e => match e with
    | .UnaryOp .USub x _ => chkE a S x
    | _ => false
  | .not a => fun S e => match e with
    | .UnaryOp .Not x _ => chkE a S x
    | _ => false
  | .cmp op a b => fun S e => match e with
    | .Compare x [op'] [y] _ => op == op' && !behindInMarks op y && chkE a S x && chkE b S y
    | _ => false
  | .chn o p a b c => fun S e => match e with
    | .Compare x [o', p'] [y, z] _ => o == o' && p == p' && !lastMarks [o, p] [y, z] && chkE a S x && chkE b S y && chkE c S z
    | _ => false
  | .and a b => fun S e => match e with
    | .BoolOp .And [x, y] _ => chkE a S x && chkE b S y
    | .BoolOp .And (x :: y :: z :: r) pos => chkE a S x && chkE b S (.BoolOp .And (y :: z :: r) pos)
    | _ => false
  | .or a b => fun S e => match e with
    | .BoolOp .Or [x, y] _ => chkE a S x && chkE b S y
    | .BoolOp .Or (x :: y :: z :: r) pos => chkE a S x && chkE b S (.BoolOp .Or (y :: z :: r) pos)
    | _ => false
  | .ife c a b => fun S e => match e with
    | .IfExp t x y _ => chkE c S t && chkE a S x && chkE b S y
    | _ => false
  | .tup es => fun S e => match e with
    | .Tuple xs _ _ => chkEs es S xs
    | _ => false
  | .lst es => fun S e => match e with
    | .List xs _ => chkEs es S xs
    | _ => false
  | .dct ps => fun S e => match e with
    | .Dict ks vs _ => chkPs ps S ks vs && !ks.isEmpty && decide (ks.length ≤ 15)
    | _ => false
  | .idx a b => fun S e => match e with
    | .Subscript x y _ => chkE a S x && chkE b S y
    | _ => false
  | .slc a lo hi => fun S e => match e with
    | .Subscript x (.Slice l h none _) _ => chkE a S x && chkO lo S l && chkO hi S h
    | _ => false
  | .cal f es => fun S e => match e with
    | .Call (.Name x _) args [] _ => S.FN[f]? == some x && gloB S.sc x && okName x && chkEs es S args
    | _ => false
  | .cak f es ks kes perm n => fun S e => match e with
    | .Call (.Name x _) args kws _ => S.FN[f]? == some x && gloB S.sc x && okName x && chkEs es S args && !kws.isEmpty && kws.all (fun k => k.arg.isSome) && kws.filterMap (·.arg) == ks && S.KW.contains (f, n, ks, perm) &&
      chkEs kes S (kws.map (·.value))
    | _ => false
  | .blt b es => fun S e => match e with
    | .Call (.Name x _) args [] _ => x == biName b && gloB S.sc x && (match b with | .gcd => S.GC | .repr => S.GD && S.BN.contains x | _ => S.BN.contains x) && chkEs es S args && !args.isEmpty
    | _ => false
  | .mth m o es => fun S e => match e with
    | .Call (.Attribute x name apos) args [] cpos => name == miName m && apos.endLine == cpos.line && notCall x && args.length == miArity m && chkE o S x && chkEs es S args
    | _ => false
  | .fmt a => fun S e => match e with
    | .FormattedValue x (-1) none _ => chkE a S x
    | .JoinedStr [.FormattedValue x (-1) none _] _ => chkE a S x
    | _ => false
  | .fst es => fun S e => match e with
    | .JoinedStr xs _ => decide (2 ≤ xs.length) && chkEs es S xs
    | _ => false
  | .lc tg it ifs elt own => fun S e => match e with
    | .ListComp elt' [⟨tg', it', ifs', 0⟩] scope _ => blkC S.N S.sc scope (ownOf S own) && tg.slots.all (own.contains ·) && notSet it' && chkI it S tg' it' && chkT (S.inBlk scope) tg tg' && chkF ifs (S.inBlk scope) ifs' && chkE elt (S.inBlk scope) elt'
    | _ => false
def chkEs : CEs → SC → List Expr → Bool
  | .nil => fun _ es => es.isEmpty
  | .cons c r => fun S es => match es with
    | e :: es => chkE c S e && chkEs r S es
    | [] => false
def chkPs : CPs → SC → List (Option Expr) → List Expr → Bool
  | .nil => fun _ ks vs => ks.isEmpty && vs.isEmpty
  | .cons k v r => fun S ks vs => match ks, vs with
    | some a :: ks, b :: vs => chkE k S a && chkE v S b && chkPs r S ks vs
    | _, _ => false
def chkO : CEs → SC → Option Expr → Bool
  | .nil => fun _ o => o.isNone
  | .cons c r => fun S o => match o with
    | some e => chkE c S e && (match r with | .nil => true | _ => false)
    | none => false
def chkF : CEs → SC → List Expr → Bool
  | .nil => fun _ es => es.isEmpty
  | .cons c r => fun S es => match es with
    | [e] => chkE c S e && (match r with | .nil => true | _ => false)
    | _ => false
def chkI : CI → SC → Expr → Expr → Bool
  | .sq c => fun S _ e => chkE c S e
  | .r1 a => fun S _ e => match e with
    | .Call (.Name x _) [y] [] _ => x == ("range" : Str) && S.BN.contains x && gloB S.sc x && chkE a S y
    | _ => false
  | .r2 a b => fun S _ e => match e with
    | .Call (.Name x _) [y, z] [] _ => x == ("range" : Str) && S.BN.contains x && gloB S.sc x && chkE a S y && chkE b S z
    | _ => false
  | .zp a b => fun S tg e => match e with
    | .Call (.Name x _) [y, z] [] _ => x == ("zip" : Str) && S.BN.contains x && gloB S.sc x && (match tg with | .Tuple .. => true | _ => false) && chkE a S y && chkE b S z
    | _ => false
end

/-! ### the context -/
structure FnAt (X : Cx) (Γ : Tab) (k : Nat) (KW : List (Nat × Nat × List Str × List Nat)) (f : Nat) (x : Str) : Prop where
  ex : ∃ (a : Addr) (fd : FuncData) (ps : List Str), X.mg x = some (.ref a) ∧ PySem.W.keepIn X.K (.ref a) = true ∧ FnOk X.prog X.w X.K X.mg X.base CX0 k a fd ps (lift X.K (Γ f)) ∧ Binds X.K fd ps [] ∧
    ∀ n ks perm, (f, n, ks, perm) ∈ KW → KBinds X.K fd ps ks (permU perm n ks.length) (permV perm n ks.length)
structure Ctx (X : Cx) (S : SC) (Γ : Tab) (k : Nat) : Prop where
  N : X.N = S.N
  nd : S.N.Nodup
  sc : X.env.scope = S.sc
  calm : X.calm = true
  room : Room k X.A
  xe : X.xe = fun _ _ => False
  bn : ∀ n ∈ S.BN, X.mg n = none
  gc : S.GC = true → X.mg "gcd" = some (.builtin "math.gcd")
  gd : S.GD = true → X.A.guards = some []
  fn : ∀ x, S.fnB x = true → X.fn x = true ∨ X.env.scope.names.lookup x = some .local
  fs : ∀ f x, S.FN[f]? = some x → FnAt X Γ k S.KW f x
theorem Ctx.hu {X : Cx} {S : SC} {Γ : Tab} {k : Nat} (C : Ctx X S Γ k) : X.A.units + 64 < cLine := C.room.units
theorem Ctx.blk {X : Cx} {S : SC} {Γ : Tab} {k : Nat} (C : Ctx X S Γ k) (s : Shared) (H : Hp) (scope : Scope) (cl : List (Str × Addr)) (c : Addr) (fp : List Addr) : Ctx (X.blk s H scope (compEnvC scope cl c X.env) fp) (S.inBlk scope) Γ k where
  N := C.N
  nd := C.nd
  sc := by
    show relS scope X.env.scope = relS scope S.sc
    rw [C.sc]
  calm := C.calm
  room := C.room
  xe := rfl
  bn := C.bn
  gc := C.gc
  gd := C.gd
  fn := fun x h => by
    have h : ((match scope.names.lookup x with | some .cell => true | _ => false) || isLocB (relS scope S.sc) x) = true := h
    rcases (Bool.or_eq_true _ _).mp h with h | h
    · refine .inl ?_
      show (scope.names.lookup x == some .cell) = true
      split at h
      · rename_i e
        rw [e]; rfl
      · cases h
    · refine .inr ?_
      show (relS scope X.env.scope).names.lookup x = some .local
      rw [C.sc]
      unfold isLocB at h
      split at h
      · assumption
      · cases h
  fs := fun f x h => ⟨(C.fs f x h).ex⟩
section
variable {X : Cx} {S : SC} {Γ : Tab} {k : Nat}
theorem vis_ok (C : Ctx X S Γ k) {x : Str} (h : visB S.sc x = true) : Vis X.env.scope x := by
  rw [C.sc]
  unfold visB at h
  unfold Vis
  split at h
  · exact .inl (by assumption)
  · exact .inr (.inl (by assumption))
  · exact .inr (.inr (by assumption))
  · cases h
theorem loc_ok (C : Ctx X S Γ k) {x : Str} (h : locB S.sc x = true) : L2.Loc X.env.scope x := by
  rw [C.sc]
  unfold locB at h
  unfold L2.Loc
  split at h
  · exact .inl (by assumption)
  · exact .inr (by assumption)
  · cases h
theorem glo_ok (C : Ctx X S Γ k) {x : Str} (h : gloB S.sc x = true) : Gl X x := by
  show X.env.scope.names.lookup x = some .globalImplicit
  rw [C.sc]
  unfold gloB at h
  split at h
  · assumption
  · cases h
theorem okn1 {x : Str} (h : okName x = true) : (x == ("__debug__" : Str)) = false := by
  unfold okName at h
  simp only [Bool.and_eq_true, Bool.not_eq_true'] at h
  exact h.1
theorem okn2 {x : Str} (h : okName x = true) : (x == ("__classdict__" : Str)) = false := by
  unfold okName at h
  simp only [Bool.and_eq_true, Bool.not_eq_true'] at h
  exact h.2
theorem boot_ty : ∀ n ∈ tyL, bootBuiltins (Str.ofString n) = some (.type n) ∧ Str.ofString n ≠ "__name__" ∧ (Str.ofString n == ("__debug__" : Str)) = false := by decide +kernel
theorem st_of {c : CE} {S : SC} {e : Expr} (h : chkE c S e = true) : notSt e = true := by
  cases e with
  | Starred v p => cases c <;> cases h
  | _ => rfl
theorem sts_of : ∀ {cs : CEs} {S : SC} {es : List Expr}, chkEs cs S es = true → es.all notSt = true
  | .nil, S, [], _ => rfl
  | .nil, S, _ :: _, h => by cases h
  | .cons c r, S, [], h => by cases h
  | .cons c r, S, e :: es, h => by
    have h : (chkE c S e && chkEs r S es) = true := h
    rw [Bool.and_eq_true] at h
    rw [List.all_cons, st_of h.1, sts_of h.2]; rfl
theorem pix_of {c : CE} {S : SC} {e : Expr} (h : chkE c S e = true) : PlainIx e := by
  cases e with
  | Slice l u s p => cases c <;> cases h
  | _ => intro o i; rfl
theorem fold_of {e : Expr} (h : notSet e = true) (env : Env) (x : Value) : foldedSetIterable e env x = pure x := by
  cases e <;> first
    | rfl
    | cases h
def gOf (K : PySem.W.Frag) : CT → TG
  | .nm i => gName i
  | .tp is => gTup K is.length (gNames is)
theorem gOf_ok {K : PySem.W.Frag} : ∀ {tg : CT}, upG K tg (gOf K tg)
  | .nm _ => g_nm
  | .tp _ => g_tp
theorem tgt_ok (C : Ctx X S Γ k) {tg : CT} {e : Expr} (h : chkT S tg e = true) : PG X e (gOf X.K tg) := by
  cases tg with
  | nm i =>
    cases e <;> first
      | (rename_i x p
         simp only [chkT, Bool.and_eq_true, beq_iff_eq] at h
         exact pg_name (by rw [C.N]; exact C.nd) (by rw [C.N]; exact h.1.1) (loc_ok C h.1.2) (C.fn x h.2))
      | cases h
  | tp is =>
    cases e with
    | Tuple es kk p =>
      have h : (is.length == es.length && (is.zip es).all fun p => match p.2 with | .Name x _ => S.N[p.1]? == some x && locB S.sc x && S.fnB x | _ => false) = true := h
      rw [Bool.and_eq_true, beq_iff_eq] at h
      obtain ⟨hl, ha⟩ := h
      have plain : ∀ (is : List Nat) (es : List Expr), is.length = es.length → ((is.zip es).all fun p => match p.2 with | .Name x _ => S.N[p.1]? == some x && locB S.sc x && S.fnB x | _ => false) = true →
          PGs X es (gNames is) ∧ (assignEach es X.env).length = is.length ∧ (assignEach es X.env).findIdx? (·.1) = none := by
        intro is
        induction is with
        | nil =>
          intro es hl _
          cases es with
          | nil => exact ⟨pgs_nil, rfl, rfl⟩
          | cons _ _ => cases hl
        | cons i is ih =>
          intro es hl ha
          cases es with
          | nil => cases hl
          | cons e es =>
            simp only [List.zip_cons_cons, List.all_cons, Bool.and_eq_true] at ha
            obtain ⟨h1, h2⟩ := ha
            obtain ⟨i1, i2, i3⟩ := ih es (by simpa using hl) h2
            cases e with
            | Name x p =>
              simp only [Bool.and_eq_true, beq_iff_eq] at h1
              refine ⟨pgs_cons (pg_name (by rw [C.N]; exact C.nd) (by rw [C.N]; exact h1.1.1) (loc_ok C h1.1.2) (C.fn x h1.2)) i1, ?_, ?_⟩
              · show (assignEach es X.env).length + 1 = _
                rw [i2]; rfl
              · show List.findIdx? (·.1) ((false, assign (.Name x p) X.env) :: assignEach es X.env) = none
                rw [List.findIdx?_cons, i3]; rfl
            | _ => cases h1
      obtain ⟨p1, p2, p3⟩ := plain is es hl ha
      exact pg_tup C.calm p1 p2 p3
    | _ => cases h
end
end Rf

set_option Elab.async false
set_option linter.all false
set_option maxRecDepth 100000
/-! Rf8: expressions that pass the look -/
namespace Rf
open PySem L2 PySem.Spec PyProof.Rows
variable {Γ : Tab} {k : Nat}

def isBoth (c : CE) : Bool := match c with
  | .ife .. | .bin .. | .typ .. | .neg .. | .tup .. | .lst .. | .dct .. | .slc .. | .mth .. | .lc .. | .fmt .. | .fst .. => true
  | _ => false
theorem t_of {X : Cx} {S : SC} {c : CE} {e : Expr} (hE : PE X e (upE X.K (wE Γ c))) (hc : ∀ whole, isTrue e X.env whole = (do let v ← whole; standAt e.pos; holding [v] (truthy v))) (hT : wT Γ c = ofE (wE Γ c)) : PT X e (upT X.K (wT Γ c)) := by
  rw [hT]
  exact t_tru hE hc
/-- a clause's tests -/
def fOf (K : PySem.W.Frag) (Γ : Tab) : CEs → TT
  | .nil => tYes
  | .cons c .nil => upT K (wT Γ c)
  | .cons _ (.cons _ _) => tYes
theorem fOf_up {K : PySem.W.Frag} {cs : CEs} {σ : L2.St} {H : Hp} {R : Bool → Hp → Prop} (h : upT K (wF Γ cs) σ H R) : fOf K Γ cs σ H R := by
  cases cs with
  | nil =>
    obtain ⟨ρ, μ, Z, B, Q, hs, hw, fin⟩ := h
    exact fin _ _ _ _ LeW.refl hs.1 hw
  | cons c r =>
    cases r with
    | nil => exact h
    | cons _ _ =>
      obtain ⟨ρ, μ, Z, B, Q, hs, hw, fin⟩ := h
      exact hw.elim
mutual
theorem sndE : ∀ (c : CE) (X : Cx) (S : SC) (e : Expr), Ctx X S Γ k → chkE c S e = true → PE X e (upE X.K (wE Γ c)) ∧ PT X e (upT X.K (wT Γ c))
  | .var i, X, S, e, C, h => by
    simp only [chkE] at h
    split at h
    · rename_i x p
      simp only [Bool.and_eq_true, beq_iff_eq] at h
      have hE : PE X (.Name x p) (upE X.K (wE Γ (.var i))) := e_var (by rw [C.N]; exact h.1.1) (vis_ok C h.1.2) (okn1 h.2) (okn2 h.2)
      exact ⟨hE, t_of (S := S) hE (fun _ => rfl) rfl⟩
    · cases h
  | .cst d, X, S, e, C, h => by
    simp only [chkE] at h
    split at h
    · rename_i c n p
      have hE : PE X (.Constant c n p) (upE X.K (wE Γ (.cst d))) := by
        cases d with
        | non =>
          cases c <;> first
            | exact e_con pe_non fun _ _ _ => .non
            | cases h
        | bl b =>
          cases c <;> first
            | (simp only [cstB, beq_iff_eq] at h; subst h; exact e_con pe_bl fun _ _ _ => .bl _)
            | cases h
        | int b =>
          cases c <;> first
            | (simp only [cstB, beq_iff_eq] at h; subst h; exact e_con pe_int fun _ _ _ => .int _)
            | cases h
        | str b =>
          cases c <;> first
            | (simp only [cstB, beq_iff_eq] at h; subst h; exact e_con pe_str fun _ _ _ => .str _)
            | cases h
        | _ => cases c <;> cases h
      exact ⟨hE, t_of (S := S) hE (fun _ => rfl) rfl⟩
    · cases h
  | .typ n, X, S, e, C, h => by
    simp only [chkE] at h
    split at h
    · rename_i x p
      simp only [Bool.and_eq_true, beq_iff_eq] at h
      obtain ⟨⟨⟨h1, h2⟩, h3⟩, h4⟩ := h
      subst h1
      obtain ⟨b1, b2, b3⟩ := boot_ty n (by simpa using h2)
      have hE : PE X (.Name (Str.ofString n) p) (upE X.K (wE Γ (.typ n))) := e_con (pe_bltn (v := .ty n) (glo_ok C h4) (C.bn _ (by simpa using h3)) b1 rfl b2 b3) fun _ _ _ => .ty n
      exact ⟨hE, PT.falls⟩
    · cases h
  | .bin op a b, X, S, e, C, h => by
    simp only [chkE] at h
    split at h
    · rename_i x op' y p
      simp only [Bool.and_eq_true, beq_iff_eq] at h
      obtain ⟨⟨rfl, h1⟩, h2⟩ := h
      exact ⟨e_bin op (sndE a X S x C h1).1 (sndE b X S y C h2).1, PT.falls⟩
    · cases h
  | .neg a, X, S, e, C, h => by
    simp only [chkE] at h
    split at h
    · exact ⟨e_neg (sndE a X S _ C h).1, PT.falls⟩
    · cases h
  | .not a, X, S, e, C, h => by
    simp only [chkE] at h
    split at h
    · exact ⟨e_not (sndE a X S _ C h).1, t_not (sndE a X S _ C h).2⟩
    · cases h
  | .cmp op a b, X, S, e, C, h => by
    simp only [chkE] at h
    split at h
    · simp only [Bool.and_eq_true, beq_iff_eq, Bool.not_eq_true'] at h
      obtain ⟨⟨⟨rfl, hm⟩, h1⟩, h2⟩ := h
      exact ⟨e_cmp C.hu op hm (sndE a X S _ C h1).1 (sndE b X S _ C h2).1, t_cmp C.hu op hm (sndE a X S _ C h1).1 (sndE b X S _ C h2).1⟩
    · cases h
  | .chn o p a b c, X, S, e, C, h => by
    simp only [chkE] at h
    split at h
    · simp only [Bool.and_eq_true, beq_iff_eq, Bool.not_eq_true'] at h
      obtain ⟨⟨⟨⟨⟨rfl, rfl⟩, hm⟩, h1⟩, h2⟩, h3⟩ := h
      exact ⟨e_chn C.hu o p hm (sndE a X S _ C h1).1 (sndE b X S _ C h2).1 (sndE c X S _ C h3).1, t_chn C.hu o p hm (sndE a X S _ C h1).1 (sndE b X S _ C h2).1 (sndE c X S _ C h3).1⟩
    · cases h
  | .and a b, X, S, e, C, h => by
    simp only [chkE] at h
    split at h
    · simp only [Bool.and_eq_true] at h
      obtain ⟨h1, h2⟩ := h
      refine ⟨e_and (sndE a X S _ C h1).1 (pe_one (sndE b X S _ C h2).1), ?_⟩
      exact t_and (sndE a X S _ C h1).2 (PW.pt (pw_and1 (sndE b X S _ C h2).2))
    · simp only [Bool.and_eq_true] at h
      obtain ⟨h1, h2⟩ := h
      exact ⟨e_and (sndE a X S _ C h1).1 (sndE b X S _ C h2).1, t_and (sndE a X S _ C h1).2 (sndE b X S _ C h2).2⟩
    · cases h
  | .or a b, X, S, e, C, h => by
    simp only [chkE] at h
    split at h
    · simp only [Bool.and_eq_true] at h
      obtain ⟨h1, h2⟩ := h
      refine ⟨e_or (sndE a X S _ C h1).1 (pe_one (sndE b X S _ C h2).1), ?_⟩
      exact t_or (sndE a X S _ C h1).2 (PW.pt (pw_or1 (sndE b X S _ C h2).2))
    · simp only [Bool.and_eq_true] at h
      obtain ⟨h1, h2⟩ := h
      exact ⟨e_or (sndE a X S _ C h1).1 (sndE b X S _ C h2).1, t_or (sndE a X S _ C h1).2 (sndE b X S _ C h2).2⟩
    · cases h
  | .ife c a b, X, S, e, C, h => by
    simp only [chkE] at h
    split at h
    · simp only [Bool.and_eq_true] at h
      obtain ⟨⟨h0, h1⟩, h2⟩ := h
      exact ⟨e_ife (sndE c X S _ C h0).2 (sndE a X S _ C h1).1 (sndE b X S _ C h2).1, PT.falls⟩
    · cases h
  | .tup es, X, S, e, C, h => by
    simp only [chkE] at h
    split at h
    · exact ⟨e_tup (sndEs es X S _ C h), PT.falls⟩
    · cases h
  | .lst es, X, S, e, C, h => by
    simp only [chkE] at h
    split at h
    · exact ⟨e_lst (sndEs es X S _ C h), PT.falls⟩
    · cases h
  | .dct ps, X, S, e, C, h => by
    simp only [chkE] at h
    split at h
    · rename_i ks vs p
      simp only [Bool.and_eq_true, decide_eq_true_eq, Bool.not_eq_true'] at h
      obtain ⟨⟨h1, h2⟩, h3⟩ := h
      obtain ⟨trs, t1, t2, t3, t4⟩ := sndPs ps X S ks vs p C h1
      exact ⟨e_dct t1 t2 t3 t4 (fun z => by rw [z] at h2; cases h2) h3, PT.falls⟩
    · cases h
  | .idx a b, X, S, e, C, h => by
    simp only [chkE] at h
    split at h
    · rename_i x y p
      simp only [Bool.and_eq_true] at h
      have hE : PE X (.Subscript x y p) (upE X.K (wE Γ (.idx a b))) := e_idx C.hu (pix_of h.2) (sndE a X S _ C h.1).1 (sndE b X S _ C h.2).1
      exact ⟨hE, t_of (S := S) hE (fun _ => rfl) rfl⟩
    · cases h
  | .slc a lo hi, X, S, e, C, h => by
    simp only [chkE] at h
    split at h
    · simp only [Bool.and_eq_true] at h
      exact ⟨e_slc (sndE a X S _ C h.1.1).1 (sndO lo X S _ C h.1.2) (sndO hi X S _ C h.2), PT.falls⟩
    · cases h
  | .cal f es, X, S, e, C, h => by
    simp only [chkE] at h
    split at h
    · rename_i x p args p'
      simp only [Bool.and_eq_true, beq_iff_eq] at h
      obtain ⟨⟨⟨h1, h2⟩, h3⟩, h4⟩ := h
      obtain ⟨a, fd, ps, m1, m2, m3, m4, m5⟩ := (C.fs f x h1).ex
      have hE : PE X (.Call (.Name x p) args [] p') (upE X.K (wE Γ (.cal f es))) := by
        have hA := sndEs es X S args C h4
        cases args with
        | nil =>
          cases es with
          | nil => exact e_cal0 m3 C.room (glo_ok C h2) m1 m2 m4 (okn1 h3)
          | cons _ _ => cases h4
        | cons e' es' => exact e_cal m3 C.room (glo_ok C h2) m1 m2 m4 (sts_of h4) (okn1 h3) hA
      exact ⟨hE, t_of (S := S) hE (fun _ => rfl) rfl⟩
    · cases h
  | .cak f es ks kes perm n, X, S, e, C, h => by
    simp only [chkE] at h
    split at h
    · rename_i x p args kws p'
      simp only [Bool.and_eq_true, beq_iff_eq, Bool.not_eq_true', List.contains_eq_mem, decide_eq_true_eq] at h
      obtain ⟨⟨⟨⟨⟨⟨⟨⟨h1, h2⟩, h3⟩, h4⟩, h5⟩, h6⟩, h7⟩, h8⟩, h9⟩ := h
      obtain ⟨a, fd, ps, m1, m2, m3, m4, m5⟩ := (C.fs f x h1).ex
      have hK := sndKs kes X S kws C h9
      have hE : PE X (.Call (.Name x p) args kws p') (upE X.K (wE Γ (.cak f es ks kes perm n))) := by
        have hA := sndEs es X S args C h4
        cases args with
        | nil =>
          cases es with
          | nil => exact e_cak0 m3 C.room (glo_ok C h2) m1 m2 (m5 _ _ _ h8) (okn1 h3) hK h6 h7
          | cons _ _ => cases h4
        | cons e' es' => exact e_cak m3 C.room (glo_ok C h2) m1 m2 (m5 _ _ _ h8) (sts_of h4) (okn1 h3) hA hK h6 h7
      exact ⟨hE, t_of (S := S) hE (fun _ => rfl) rfl⟩
    · cases h
  | .blt b es, X, S, e, C, h => by
    simp only [chkE] at h
    split at h
    · rename_i x p args p'
      simp only [Bool.and_eq_true, beq_iff_eq, Bool.not_eq_true'] at h
      obtain ⟨⟨⟨⟨rfl, h2⟩, h3⟩, h4⟩, h5⟩ := h
      have hA := sndEs es X S args C h4
      have hE : PE X (.Call (.Name (biName b) p) args [] p') (upE X.K (wE Γ (.blt b es))) := by
        cases args with
        | nil => cases h5
        | cons e' es' =>
          have hst := sts_of h4
          have hst' := hst
          simp only [List.all_cons, Bool.and_eq_true] at hst'
          have g := glo_ok C h2
          cases b with
          | gcd => exact up_cb hA (pe_callBfun gcd_ok g (C.gc h3) hA (by decide) (star_one hst'.1) (star_any hst'.2))
          | str => exact up_cb hA (pe_callTy str_ok g (C.bn _ (by simpa using h3)) (by rfl) hA (by decide) (by decide) (star_one hst'.1) (star_any hst'.2))
          | sorted => exact up_cb hA (pe_callB sorted_ok g (C.bn _ (by simpa using h3)) (by rfl) hA (by decide) (by decide) (star_one hst'.1) (star_any hst'.2))
          | repr =>
            simp only [Bool.and_eq_true] at h3
            exact up_cb hA (pe_callB (repr_ok (C.gd h3.1) (by have := C.room.un; omega)) g (C.bn _ (by simpa using h3.2)) (by rfl) hA (by decide) (by decide) (star_one hst'.1) (star_any hst'.2))
          | len => exact up_cb hA (pe_callB len_ok g (C.bn _ (by simpa using h3)) (by rfl) hA (by decide) (by decide) (star_one hst'.1) (star_any hst'.2))
          | abs => exact up_cb hA (pe_callB abs_ok g (C.bn _ (by simpa using h3)) (by rfl) hA (by decide) (by decide) (star_one hst'.1) (star_any hst'.2))
          | isi => exact up_cb hA (pe_callB isi_ok g (C.bn _ (by simpa using h3)) (by rfl) hA (by decide) (by decide) (star_one hst'.1) (star_any hst'.2))
          | all => exact up_cb hA (pe_callB (all_ok C.calm) g (C.bn _ (by simpa using h3)) (by rfl) hA (by decide) (by decide) (star_one hst'.1) (star_any hst'.2))
          | any => exact up_cb hA (pe_callB (any_ok C.calm) g (C.bn _ (by simpa using h3)) (by rfl) hA (by decide) (by decide) (star_one hst'.1) (star_any hst'.2))
          | max2 => exact up_cb hA (pe_callB (max_ok C.calm) g (C.bn _ (by simpa using h3)) (by rfl) hA (by decide) (by decide) (star_one hst'.1) (star_any hst'.2))
          | min2 => exact up_cb hA (pe_callB (min_ok C.calm) g (C.bn _ (by simpa using h3)) (by rfl) hA (by decide) (by decide) (star_one hst'.1) (star_any hst'.2))
          | int => exact up_cb hA (pe_callTy int_ok g (C.bn _ (by simpa using h3)) (by rfl) hA (by decide) (by decide) (star_one hst'.1) (star_any hst'.2))
          | tuple => exact up_cb hA (pe_callTy tuple_ok g (C.bn _ (by simpa using h3)) (by rfl) hA (by decide) (by decide) (star_one hst'.1) (star_any hst'.2))
          | list => exact up_cb hA (pe_callTy list_ok g (C.bn _ (by simpa using h3)) (by rfl) hA (by decide) (by decide) (star_one hst'.1) (star_any hst'.2))
      exact ⟨hE, t_of (S := S) hE (fun _ => rfl) rfl⟩
    · cases h
  | .mth m o es, X, S, e, C, h => by
    simp only [chkE] at h
    split at h
    · rename_i x name apos args cpos
      simp only [Bool.and_eq_true, beq_iff_eq] at h
      obtain ⟨⟨⟨⟨⟨rfl, h1⟩, h2⟩, h3⟩, h4⟩, h5⟩ := h
      have hA := sndEs es X S args C h5
      have hO := (sndE o X S _ C h4).1
      refine ⟨?_, PT.falls⟩
      cases m with
      | append =>
        cases args with
        | nil => cases h3
        | cons e' es' => exact e_mth (fun _ _ => rfl) PySem.F.slot_list_append PySem.F.type_list_append append_ok hO hA h2 (by rw [h3]; decide) (sts_of h5) (by simpa using h1)
      | extend =>
        cases args with
        | nil => cases h3
        | cons e' es' => exact e_mth (fun _ _ => rfl) PySem.F.slot_list_extend PySem.F.type_list_extend extend_ok hO hA h2 (by rw [h3]; decide) (sts_of h5) (by simpa using h1)
      | join =>
        cases args with
        | nil => cases h3
        | cons e' es' => exact e_join PySem.F.slot_str_join PySem.F.type_str_join join_ok hO hA h2 (by rw [h3]; decide) (sts_of h5) (by simpa using h1)
      | pop =>
        cases args with
        | cons _ _ => cases h3
        | nil =>
          cases es with
          | cons _ _ => cases h5
          | nil => exact e_mth0 (fun _ _ => rfl) PySem.F.slot_list_pop PySem.F.type_list_pop pop_ok hO h2 (by simpa using h1)
    · cases h
  | .lc tg it ifs elt own, X, S, e, C, h => by
    simp only [chkE] at h
    split at h
    · rename_i elt' tg' it' ifs' scope p
      simp only [Bool.and_eq_true] at h
      obtain ⟨⟨⟨⟨⟨⟨h1, h2⟩, h3⟩, h4⟩, h5⟩, h6⟩, h7⟩ := h
      refine ⟨?_, PT.falls⟩
      have hI := sndI it X S tg' it' C h4
      have eo : (ownOf S own).map (·.2) = own := by
        unfold ownOf
        rw [List.map_map]
        exact (List.map_congr_left fun _ _ => rfl).trans (List.map_id _)
      have hL := pe_lc (pos := p) (elt := elt') (te := upE X.K (wE Γ elt)) (g := gOf X.K tg) (tt := fOf X.K Γ ifs) C.calm (by rw [C.N]; exact C.nd) hI (blkOk_by (by rw [C.N, C.sc]; exact h1)) (fun s H c cl fp => tgt_ok (C.blk s H scope cl c fp) h5) (fun s H c cl fp => sndF ifs _ _ ifs' (C.blk s H scope cl c fp) h6)
        (fun s H c cl fp => (sndE elt _ _ elt' (C.blk s H scope cl c fp) h7).1) (fun x => fold_of h3 _ x)
      rw [eo] at hL
      exact hL.imp (lc_up (fun _ _ _ q => q) gOf_ok (fun i hi => by
        rw [List.all_eq_true] at h2
        simpa using h2 i hi) (fun σ H R q => fOf_up q) (fun _ _ _ q => q))
    · cases h
  | .fmt a, X, S, e, C, h => by
    simp only [chkE] at h
    split at h
    · exact ⟨e_fmt (sndE a X S _ C h).1, PT.falls⟩
    · exact ⟨pe_joined1 (e_fmt (sndE a X S _ C h).1), PT.falls⟩
    · cases h
  | .fst es, X, S, e, C, h => by
    simp only [chkE] at h
    split at h
    · rename_i xs p
      simp only [Bool.and_eq_true, decide_eq_true_eq] at h
      obtain ⟨ws, ts, h1, h2, h3⟩ := sndJ es X S xs C h.2
      refine ⟨?_, PT.falls⟩
      have e2 : wE Γ (.fst es) = wJs ws Str.empty := h3 _
      rw [e2]
      match xs, h.1 with
      | v1 :: v2 :: rest, _ => exact e_fst h1 h2
    · cases h
theorem sndJ : ∀ (cs : CEs) (X : Cx) (S : SC) (es : List Expr), Ctx X S Γ k → chkEs cs S es = true → ∃ ws ts, PJ X es ts ∧ UJ X.K ws ts ∧ ∀ acc, wJ Γ cs acc = wJs ws acc
  | .nil, X, S, es, C, h => by
    cases es with
    | nil => exact ⟨[], [], .nil, .nil, fun _ => rfl⟩
    | cons _ _ => cases h
  | .cons c r, X, S, es, C, h => by
    cases es with
    | nil => cases h
    | cons e es =>
      simp only [chkEs, Bool.and_eq_true] at h
      obtain ⟨ws, ts, h1, h2, h3⟩ := sndJ r X S es C h.2
      refine ⟨wE Γ c :: ws, _ :: ts, .cons (sndE c X S e C h.1).1 h1, .cons rfl h2, fun acc => ?_⟩
      funext ρ μ Q
      show (wE Γ c ρ μ fun d μ1 => _) = (wE Γ c ρ μ fun d μ1 => _)
      congr 1
      funext d μ1
      cases d <;> first
        | rfl
        | (simp only [h3])
theorem sndEs : ∀ (cs : CEs) (X : Cx) (S : SC) (es : List Expr), Ctx X S Γ k → chkEs cs S es = true → PA X es (upA X.K (wEs Γ cs))
  | .nil, X, S, es, C, h => by
    cases es with
    | nil => exact a_nil
    | cons _ _ => cases h
  | .cons c r, X, S, es, C, h => by
    cases es with
    | nil => cases h
    | cons e es =>
      simp only [chkEs, Bool.and_eq_true] at h
      exact a_cons (st_of h.1) (sndE c X S e C h.1).1 (sndEs r X S es C h.2)
theorem sndKs : ∀ (cs : CEs) (X : Cx) (S : SC) (kws : List Keyword), Ctx X S Γ k → chkEs cs S (kws.map (·.value)) = true → PK X kws (upA X.K (wEs Γ cs))
  | .nil, X, S, kws, C, h => by
    cases kws with
    | nil => exact k_nil
    | cons _ _ => cases h
  | .cons c r, X, S, kws, C, h => by
    cases kws with
    | nil => cases h
    | cons kw kws =>
      obtain ⟨nm, e, kp⟩ := kw
      simp only [List.map_cons, chkEs, Bool.and_eq_true] at h
      exact k_cons (sndE c X S e C h.1).1 (sndKs r X S kws C h.2)
theorem sndPs : ∀ (ps : CPs) (X : Cx) (S : SC) (ks : List (Option Expr)) (vs : List Expr) (p : Pos), Ctx X S Γ k → chkPs ps S ks vs = true → ∃ trs, PPs X p ks vs trs ∧ upPr X.K (wPr Γ ps) trs ∧ ks.all (·.isSome) = true ∧ ks.length = vs.length
  | .nil, X, S, ks, vs, p, C, h => by
    simp only [chkPs, Bool.and_eq_true, List.isEmpty_iff] at h
    obtain ⟨rfl, rfl⟩ := h
    exact ⟨[], pps_nil, pr_nil, rfl, rfl⟩
  | .cons a b r, X, S, ks, vs, p, C, h => by
    simp only [chkPs] at h
    split at h
    · rename_i x ks y vs
      simp only [Bool.and_eq_true] at h
      obtain ⟨trs, t1, t2, t3, t4⟩ := sndPs r X S ks vs p C h.2
      exact ⟨_, pps_cons (sndE a X S x C h.1.1).1 (sndE b X S y C h.1.2).1 t1, pr_cons t2, by rw [List.all_cons, t3]; rfl, by simp [t4]⟩
    · cases h
theorem sndO : ∀ (cs : CEs) (X : Cx) (S : SC) (o : Option Expr), Ctx X S Γ k → chkO cs S o = true → PO X o (upO' X.K (wO Γ cs))
  | .nil, X, S, o, C, h => by
    cases o with
    | none => exact o_none
    | some _ => cases h
  | .cons c r, X, S, o, C, h => by
    cases o with
    | none => cases h
    | some e =>
      simp only [chkO, Bool.and_eq_true] at h
      cases r with
      | nil => exact o_some (sndE c X S e C h.1).1
      | cons _ _ => cases h.2
theorem sndF : ∀ (cs : CEs) (X : Cx) (S : SC) (es : List Expr), Ctx X S Γ k → chkF cs S es = true → PTs X es (fOf X.K Γ cs)
  | .nil, X, S, es, C, h => by
    cases es with
    | nil => exact pts_nil
    | cons _ _ => cases h
  | .cons c r, X, S, es, C, h => by
    simp only [chkF] at h
    split at h
    · simp only [Bool.and_eq_true] at h
      cases r with
      | nil => exact pts_one (sndE c X S _ C h.1).2
      | cons _ _ => cases h.2
    · cases h
theorem sndI : ∀ (ci : CI) (X : Cx) (S : SC) (tg e : Expr), Ctx X S Γ k → chkI ci S tg e = true → PI X tg e (upI X.K (wI Γ ci))
  | .sq c, X, S, tg, e, C, h => i_sq (sndE c X S e C h).1
  | .r1 a, X, S, tg, e, C, h => by
    simp only [chkI] at h
    split at h
    · simp only [Bool.and_eq_true, beq_iff_eq] at h
      obtain ⟨⟨⟨rfl, h2⟩, h3⟩, h4⟩ := h
      exact i_r1 (glo_ok C h3) (C.bn _ (by simpa using h2)) (st_of h4) (sndE a X S _ C h4).1
    · cases h
  | .r2 a b, X, S, tg, e, C, h => by
    simp only [chkI] at h
    split at h
    · simp only [Bool.and_eq_true, beq_iff_eq] at h
      obtain ⟨⟨⟨⟨rfl, h2⟩, h3⟩, h4⟩, h5⟩ := h
      exact i_r2 (glo_ok C h3) (C.bn _ (by simpa using h2)) (st_of h4) (st_of h5) (sndE a X S _ C h4).1 (sndE b X S _ C h5).1
    · cases h
  | .zp a b, X, S, tg, e, C, h => by
    simp only [chkI] at h
    split at h
    · simp only [Bool.and_eq_true, beq_iff_eq] at h
      obtain ⟨⟨⟨⟨⟨rfl, h2⟩, h3⟩, h4⟩, h5⟩, h6⟩ := h
      cases tg with
      | Tuple elts kk tpos => exact i_zp (glo_ok C h3) (C.bn _ (by simpa using h2)) (st_of h5) (st_of h6) (sndE a X S _ C h5).1 (sndE b X S _ C h6).1
      | _ => cases h4
    · cases h
end
end Rf

set_option Elab.async false
set_option linter.all false
set_option maxRecDepth 100000
/-! Rf9: statements -/
namespace Rf
open PySem L2 PySem.Spec PyProof.Rows

/-- two or three plain names on one line, stored from a display: in which order -/
def swapD (sc : Scope) (ts vs : List Expr) : Option (Option (List Str)) :=
  if (!(ts.length == 2 || ts.length == 3) || vs.length != ts.length || sc.kind != .function) = true then some none
  else if (vs.any fun | .Starred .. => true | _ => false) = true then some none
  else
    let names := ts.filterMap fun
      | .Name id pos => if (sc.names.lookup id == some .local && pos.line == (ts.head?.map (·.pos.line)).getD 0) = true then some id else none
      | _ => none
    if (names.length != ts.length || names.eraseDups.length != names.length) = true then some none
    else if vs.all (foldedForSure 8) = true then some none
    else if vs.all (constantsAlone 8) = true then none
    else some (some names)
theorem swap_ok {ts vs : List Expr} {k1 k2 : Nat} {p1 p2 : Pos} {env : Env} {r : Option (List Str)} (hk : env.scope.kind = .function) (h : swapD env.scope ts vs = some r) : swappedStores [.Tuple ts k1 p1] (.Tuple vs k2 p2) env = pure r := by
  have hb : env.blockKind = .function := by unfold Env.blockKind; rw [hk]; rfl
  unfold swapD at h
  unfold swappedStores
  simp only
  rw [hb]
  rw [hk] at h
  split at h
  · rename_i c
    cases h
    rw [if_pos c]
  · rename_i c
    rw [if_neg c]
    split at h
    · rename_i c2
      cases h
      exact if_pos c2
    · rename_i c2
      refine (if_neg c2).trans ?_
      simp only at h
      split at h
      · rename_i c3
        cases h
        exact if_pos c3
      · rename_i c3
        refine (if_neg c3).trans ?_
        split at h
        · rename_i c4
          cases h
          exact if_pos c4
        · rename_i c4
          refine (if_neg c4).trans ?_
          split at h
          · cases h
          · rename_i c5
            cases h
            exact if_neg c5
def noSwapB (sc : Scope) (ts : List Expr) (v : Expr) : Bool := match v with
  | .Tuple vs _ _ => match swapD sc ts vs with
    | some none => true
    | _ => false
  | _ => true
theorem noSwap_ok {ts : List Expr} {k1 : Nat} {p1 : Pos} {v : Expr} {env : Env} (hk : env.scope.kind = .function) (h : noSwapB env.scope ts v = true) : swappedStores [.Tuple ts k1 p1] v env = pure none := by
  cases v <;> first
    | rfl
    | (rename_i vs k2 p2
       unfold noSwapB at h
       simp only at h
       split at h
       · exact swap_ok hk (by assumption)
       · cases h)
def notLc : Expr → Bool
  | .ListComp .. => false
  | _ => true
def notName : Expr → Bool
  | .Name .. => false
  | _ => true
mutual
def chkS : CS → SC → Stmt → Bool
  | .set i e => fun S s => match s with
    | .Assign [.Name x _] v _ => S.N[i]? == some x && locB S.sc x && S.fnB x && chkE e S v
    | _ => false
  | .unp is e => fun S s => match s with
    | .Assign [.Tuple es _ _] v _ => (is.length == es.length && (is.zip es).all fun p => match p.2 with
      | .Name x _ => S.N[p.1]? == some x && locB S.sc x && S.fnB x
      | _ => false) && noSwapB S.sc es v && chkE e S v
    | _ => false
  | .par i j a b => fun S s => match s with
    | .Assign [.Tuple [.Name x px, .Name y py] k p] (.Tuple [u, v] _ _) _ => S.N[i]? == some x && S.N[j]? == some y && !(i == j) && isLocB S.sc x && isLocB S.sc y && decide (swapD S.sc [.Name x px, .Name y py] [u, v] = some (some [x, y])) && chkE a S u && chkE b S v
    | _ => false
  | .par3 i j l a b c => fun S s => match s with
    | .Assign [.Tuple [.Name x px, .Name y py, .Name z pz] k p] (.Tuple [u, v, t] _ _) _ => S.N[i]? == some x && S.N[j]? == some y && S.N[l]? == some z && !(i == j) && !(i == l) && !(j == l) && isLocB S.sc x && isLocB S.sc y && isLocB S.sc z &&
      decide (swapD S.sc [.Name x px, .Name y py, .Name z pz] [u, v, t] = some (some [x, y, z])) && chkE a S u && chkE b S v && chkE c S t
    | _ => false
  | .put o i e => fun S s => match s with
    | .Assign [.Subscript o' i' _] v _ => chkE o S o' && chkE i S i' && chkE e S v
    | _ => false
  | .augV i op e => fun S s => match s with
    | .AugAssign (.Name x _) op' v _ => op == op' && (op == .Add || op == .Sub) && S.N[i]? == some x && locB S.sc x && S.fnB x && chkE e S v
    | _ => false
  | .augI o i op e => fun S s => match s with
    | .AugAssign (.Subscript o' i' _) op' v _ => op == op' && (op == .Add || op == .Sub) && chkE o S o' && chkE i S i' && chkE e S v
    | _ => false
  | .drop e => fun S s => match s with
    | .Expr v _ => chkE e S v && notLc v
    | _ => false
  | .ret e => fun S s => match s with
    | .Return (some v) _ => chkE e S v
    | _ => false
  | .retN => fun _ s => match s with
    | .Return none _ => true
    | _ => false
  | .iff c a b => fun S s => match s with
    | .If t x y _ => chkE c S t && chkSs a S x && chkSs b S y
    | _ => false
  | .whl c b => fun S s => match s with
    | .While t x [] _ => chkE c S t && chkSs b S x
    | _ => false
  | .for tg it b => fun S s => match s with
    | .For t e x [] _ => chkT S tg t && notSet e && chkI it S t e && chkSs b S x
    | _ => false
  | .brk => fun _ s => match s with
    | .Break _ => true
    | _ => false
  | .cnt => fun _ s => match s with
    | .Continue _ => true
    | _ => false
  | .pass => fun _ s => match s with
    | .Pass _ => true
    | _ => false
  | .dead => fun _ _ => true
def chkSs : CSs → SC → List Stmt → Bool
  | .nil => fun _ ss => ss.isEmpty
  | .cons c r => fun S ss => match ss with
    | s :: ss => chkS c S s && chkSs r S ss
    | [] => false
end
def FinS (K : PySem.W.Frag) (H : Hp) (Z B : List Addr) (E : DEnds) (D : Ends) : Prop :=
  (∀ ρ' μ' σ' H' Z', Le H Z H' Z' → Sta K ρ' μ' Z' B σ' H' → E.nx ρ' μ' → D.nx σ' H') ∧ (∀ ρ' μ' σ' H' Z', Le H Z H' Z' → Sta K ρ' μ' Z' B σ' H' → E.bk ρ' μ' → D.bk σ' H') ∧
  (∀ ρ' μ' σ' H' Z', Le H Z H' Z' → Sta K ρ' μ' Z' B σ' H' → E.ct ρ' μ' → D.ct σ' H') ∧ Fin K H Z B E.rt D.rt
def upSt (K : PySem.W.Frag) (w : DEnds → Rho → M → Prop) : TS := fun D σ H => ∃ (ρ : Rho) (μ : M) (Z B : List Addr) (E : DEnds), Sta K ρ μ Z B σ H ∧ w E ρ μ ∧ FinS K H Z B E D
variable {Γ : Tab} {k : Nat} {K : PySem.W.Frag} {H H1 H2 H' : Hp} {Z Z1 Z' B : List Addr} {μ μ' : M} {ρ ρ' : Rho} {σ : L2.St} {E : DEnds} {D : Ends}
theorem FinS.later (f : FinS K H Z B E D) (l : Le H Z H1 Z1) : FinS K H1 Z1 B E D :=
  ⟨fun ρ' μ' σ' H' Z' l' => f.1 ρ' μ' σ' H' Z' (l.trans l'), fun ρ' μ' σ' H' Z' l' => f.2.1 ρ' μ' σ' H' Z' (l.trans l'), fun ρ' μ' σ' H' Z' l' => f.2.2.1 ρ' μ' σ' H' Z' (l.trans l'), f.2.2.2.later l⟩
theorem FinS.nx (f : FinS K H Z B E D) (hs : Sta K ρ μ Z B σ H) (q : E.nx ρ μ) : D.nx σ H := f.1 ρ μ σ H Z LeW.refl hs q
theorem Sta.set (hs : Sta K ρ μ Z B σ H) {d : Rf.D} {v : V} (r : RD K H Z B d v) (i : Nat) : Sta K (ρ.set i (some d)) μ Z B (σ.set i (some v)) H := ⟨hs.1, hs.2.set r i⟩
/-- a value that is no comprehension is stored without a swap -/
theorem nosw {e : CE} {S : SC} {v : Expr} (h : chkE e S v = true) (hn : notLc v = true) (t : Option Expr) (l : Nat) (env : Env) : swapsWith v t l env = pure false := by
  cases v with
  | ListComp _ _ _ _ => cases hn
  | SetComp _ _ _ _ => cases e <;> cases h
  | DictComp _ _ _ _ _ => cases e <;> cases h
  | _ => rfl
theorem nosw2 {e : CE} {S : SC} {v : Expr} (h : chkE e S v = true) (t : Expr) (ht : notName t = true) (l : Nat) (env : Env) : swapsWith v (some t) l env = pure false := by
  cases v with
  | ListComp _ _ _ _ => cases t <;> first | rfl | cases ht
  | SetComp _ _ _ _ => cases e <;> cases h
  | DictComp _ _ _ _ _ => cases e <;> cases h
  | _ => rfl
section
variable {X : Cx} {S : SC}
theorem pg_either {es : List Expr} {kk : Nat} {pos : Pos} {t : TGs} {n : Nat} (hc : X.calm = true) (h : PGs X es t) (hn : (assignEach es X.env).length = n) (hst : (assignEach es X.env).findIdx? (·.1) = none) :
    PG X (.Tuple es kk pos) (fun v σ H Q => gTup X.K n t v σ H Q ∨ gUnl X.K n t v σ H Q) := by
  refine ⟨fun pins s σ H v u Q I r hw => ?_⟩
  rcases hw with hw | hw
  · exact (pg_tup hc h hn hst).run pins s σ H v u Q I r hw
  · exact (pg_unl hc h hn hst).run pins s σ H v u Q I r hw
theorem names_ok (C : Ctx X S Γ k) : ∀ (is : List Nat) (es : List Expr), is.length = es.length → ((is.zip es).all fun p => match p.2 with | .Name x _ => S.N[p.1]? == some x && locB S.sc x && S.fnB x | _ => false) = true →
    PGs X es (gNames is) ∧ (assignEach es X.env).length = is.length ∧ (assignEach es X.env).findIdx? (·.1) = none := by
  intro is
  induction is with
  | nil =>
    intro es hl _
    cases es with
    | nil => exact ⟨pgs_nil, rfl, rfl⟩
    | cons _ _ => cases hl
  | cons i is ih =>
    intro es hl ha
    cases es with
    | nil => cases hl
    | cons e es =>
      simp only [List.zip_cons_cons, List.all_cons, Bool.and_eq_true] at ha
      obtain ⟨h1, h2⟩ := ha
      obtain ⟨i1, i2, i3⟩ := ih es (by simpa using hl) h2
      cases e with
      | Name x p =>
        simp only [Bool.and_eq_true, beq_iff_eq] at h1
        refine ⟨pgs_cons (pg_name (by rw [C.N]; exact C.nd) (by rw [C.N]; exact h1.1.1) (loc_ok C h1.1.2) (C.fn x h1.2)) i1, ?_, ?_⟩
        · show (assignEach es X.env).length + 1 = _
          rw [i2]; rfl
        · show List.findIdx? (·.1) ((false, assign (.Name x p) X.env) :: assignEach es X.env) = none
          rw [List.findIdx?_cons, i3]; rfl
      | _ => cases h1
theorem s_set {i : Nat} {we : WE} {te : TE} {st : Stmt} (h : PS X st (tAsg te (gName i))) (he : ∀ σ H Q, upE X.K we σ H Q → te σ H Q) : PS X st (upSt X.K fun E ρ μ => we ρ μ fun d μ1 => E.nx (ρ.set i (some d)) μ1) :=
  h.imp fun D σ H ⟨ρ, μ, Z, B, E, hs, hw, fin⟩ => he σ H _ (upE_i hs hw fun d μ1 v H1 Z1 l1 hs1 r1 q => (fin.later l1).nx (hs1.set r1 i) q)
theorem s_unp {is : List Nat} {we : WE} {st : Stmt} (h : PS X st (tAsg (upE X.K we) (fun v σ H Q => gTup X.K is.length (gNames is) v σ H Q ∨ gUnl X.K is.length (gNames is) v σ H Q))) :
    PS X st (upSt X.K fun E ρ μ => we ρ μ fun d μ1 => match d with
    | .tup ds => match setsD is ds ρ with
      | some ρ2 => E.nx ρ2 μ1
      | none => False
    | d => match asL μ1 d with
      | some ds => match setsD is ds ρ with
        | some ρ2 => E.nx ρ2 μ1
        | none => False
      | none => False) :=
  h.imp fun D σ H ⟨ρ, μ, Z, B, E, hs, hw, fin⟩ => upE_i hs hw fun d μ1 v H1 Z1 l1 hs1 r1 q => by
    have lists : (match asL μ1 d with | some ds => (match setsD is ds ρ with | some ρ2 => E.nx ρ2 μ1 | none => False) | none => False) → gTup X.K is.length (gNames is) v σ H1 D.nx ∨ gUnl X.K is.length (gNames is) v σ H1 D.nx := by
      intro q
      cases e1 : asL μ1 d with
      | none => rw [e1] at q; exact q.elim
      | some ds =>
        rw [e1] at q
        simp only at q
        cases e2 : setsD is ds ρ with
        | none => rw [e2] at q; exact q.elim
        | some ρ2 =>
          rw [e2] at q
          obtain ⟨a, vs, rfl, h1, rs⟩ := asL_ok hs1.1 e1 r1
          exact .inr ⟨a, vs, rfl, .of h1, by rw [← rs.length]; exact (setsD_len e2).1, gNames_ok hs1.2 rs e2 fun σ2 rr _ => (fin.later l1).nx ⟨hs1.1, rr⟩ q⟩
    cases d with
    | tup ds =>
      simp only at q
      cases e2 : setsD is ds ρ with
      | none => rw [e2] at q; exact q.elim
      | some ρ2 =>
        rw [e2] at q
        cases r1 with
        | tup f rs => exact .inl ⟨_, _, rfl, f.sq, by rw [← rs.length]; exact (setsD_len e2).1, gNames_ok hs1.2 rs e2 fun σ2 rr _ => (fin.later l1).nx ⟨hs1.1, rr⟩ q⟩
    | lst _ => exact lists q
    | scr _ => exact lists q
    | cel _ => exact lists q
    | non => exact lists q
    | bl _ => exact lists q
    | int _ => exact lists q
    | str _ => exact lists q
    | ty _ => exact lists q
theorem s_par {i j : Nat} {wa wb : WE} {st : Stmt} (h : PS X st (tPar i j (tCons (upE X.K wa) (tCons (upE X.K wb) tNil)))) :
    PS X st (upSt X.K fun E ρ μ => wa ρ μ fun x μ1 => wb ρ μ1 fun y μ2 => E.nx ((ρ.set i (some x)).set j (some y)) μ2) :=
  h.imp fun D σ H ⟨ρ, μ, Z, B, E, hs, hw, fin⟩ => upE_i hs hw fun d μ1 v H1 Z1 l1 hs1 r1 q => upE_i hs1 q fun e μ2 w H2 Z2 l2 hs2 r2 q2 =>
    ⟨v, w, rfl, (fin.later (l1.trans l2)).nx ((hs2.set (r1.le l2) i).set r2 j) q2⟩
/-- a, b, c = x, y, z with plain local names: stored from the right -/
def tPar3 (i j l : Nat) (ta : TA) : TS := fun D σ H => ta σ H fun vs H1 => ∃ v w z, vs = [v, w, z] ∧ D.nx (((σ.set i (some v)).set j (some w)).set l (some z)) H1
theorem ps_par3 {i j l : Nat} {x y z : Str} {a b c : Expr} {ta : TA} {px py pz pt pos : Pos} {kt k2 : _} {pt2 : Pos} (hc : X.calm = true) (hN : X.N.Nodup) (hi : X.N[i]? = some x) (hj : X.N[j]? = some y) (hl : X.N[l]? = some z) (hij : i ≠ j) (hil : i ≠ l) (hjl : j ≠ l)
    (hx : X.env.scope.names.lookup x = some .local) (hy : X.env.scope.names.lookup y = some .local) (hz : X.env.scope.names.lookup z = some .local) (ha : PA X [a, b, c] ta)
    (hw : swappedStores [.Tuple [.Name x px, .Name y py, .Name z pz] kt pt] (.Tuple [a, b, c] k2 pt2) X.env = pure (some [x, y, z]))
    (hs : swapsWithSole [.Tuple [.Name x px, .Name y py, .Name z pz] kt pt] (.Tuple [a, b, c] k2 pt2) pos.line X.env = pure false := by rfl) :
    PS X (.Assign [.Tuple [.Name x px, .Name y py, .Name z pz] kt pt] (.Tuple [a, b, c] k2 pt2) pos) (tPar3 i j l ta) := by
  refine ⟨fun pins s σ H D J q => ?_⟩
  rw [exec_Assign_arm]
  refine (wpAny_bind (wpAny_standAt ?_))
  rw [hs]
  refine (wpAny_bind (wpAny_pure ?_))
  rw [if_neg (by decide)]
  refine wpAny_bind (Tuple_ (thn (ha.run _ pins s σ H _ J q) fun us s1 ⟨vs, H1, J1, r1, q1⟩ => ?_))
  obtain ⟨v, w, t, e1, q1⟩ := q1
  subst e1
  obtain ⟨u1, u2, u3, rfl, rv, rw', rt⟩ : ∃ u1 u2 u3, us = [u1, u2, u3] ∧ RelV v u1 ∧ RelV w u2 ∧ RelV t u3 := by
    cases r1 with
    | cons p1 g1 => cases g1 with
      | cons p2 g2 => cases g2 with
        | cons p3 g3 => cases g3; exact ⟨_, _, _, rfl, p1, p2, p3⟩
  refine wpAny_newObj_type ?_ (by show 3 ≤ sizeLine; decide)
  have J2 : Inv X pins σ H1 { s1 with heap := s1.heap.push { cls := .type "tuple", data := .seq [u1, u2, u3].toArray } } := J1.kept (t' := s1.toks) fun bb oo ee => Heap.get?_push_of_some _ ee
  rw [hw]
  refine (wpAny_bind (wpAny_pure ?_))
  show wpAny (model X.prog X.w) X.A (do rule "assign.swapped-stores"; let items ← unpackItems (.ref s1.heap.objs.size) 3 none; assignInOrder [fun v => bindName X.env z v, fun v => bindName X.env y v, fun v => bindName X.env x v] items.reverse; pure Flow.next) _ _ _
  refine wpAny_bind (wpAny_rule (wpAny_bind (unpackItems_tuple (items := #[u1, u2, u3]) (J.ok.hd hc) (IsTup.new s1.heap _) fun h' hx' => ?_)))
  have J3 := J2.kept (h' := h') (t' := s1.toks) fun bb oo ee => hx' bb oo (Nat.ne_of_lt (Heap.lt_size ee)) ee
  show wpAny _ _ (assignInOrder [fun v => bindName X.env z v, fun v => bindName X.env y v, fun v => bindName X.env x v] [u3, u2, u1] >>= fun _ => pure Flow.next) _ _ _
  refine wpAny_bind (assignInOrder_cons (wpAny_bindName (store_ok J3 hN hl (.inl hz) rt (fun s2 J4 => ?_) (.inr hz))))
  refine assignInOrder_cons (wpAny_bindName (store_ok J4 hN hj (.inl hy) rw' (fun s3 J5 => ?_) (.inr hy)))
  refine assignInOrder_cons (wpAny_bindName (store_ok J5 hN hi (.inl hx) rv (fun s4 J6 => assignInOrder_nil (wpAny_pure ?_)) (.inr hx)))
  rw [List.set_comm _ _ (Ne.symm hij), List.set_comm _ _ (Ne.symm hil), List.set_comm _ _ (Ne.symm hjl)] at J6
  exact ⟨_, H1, J6, q1⟩
theorem s_par3 {i j l : Nat} {wa wb wc : WE} {st : Stmt} (h : PS X st (tPar3 i j l (tCons (upE X.K wa) (tCons (upE X.K wb) (tCons (upE X.K wc) tNil))))) :
    PS X st (upSt X.K fun E ρ μ => wa ρ μ fun x μ1 => wb ρ μ1 fun y μ2 => wc ρ μ2 fun z μ3 => E.nx (((ρ.set i (some x)).set j (some y)).set l (some z)) μ3) :=
  h.imp fun D σ H ⟨ρ, μ, Z, B, E, hs, hw, fin⟩ => upE_i hs hw fun d μ1 v H1 Z1 l1 hs1 r1 q => upE_i hs1 q fun e μ2 w H2 Z2 l2 hs2 r2 q2 => upE_i hs2 q2 fun f μ3 u H3 Z3 l3 hs3 r3 q3 =>
    ⟨v, w, u, rfl, (fin.later ((l1.trans l2).trans l3)).nx (((hs3.set ((r1.le l2).le l3) i).set (r2.le l3) j).set r3 l) q3⟩
theorem s_put {wo wi we : WE} {st : Stmt} (h : PS X st (tAsg (upE X.K we) (gSub (upE X.K wo) (upE X.K wi) (upP X.K)))) :
    PS X st (upSt X.K fun E ρ μ => we ρ μ fun v μ1 => wo ρ μ1 fun x μ2 => wi ρ μ2 fun y μ3 => opPut x y v μ3 fun μ4 => E.nx ρ μ4) :=
  h.imp fun D σ H ⟨ρ, μ, Z, B, E, hs, hw, fin⟩ => upE_i hs hw fun d μ1 v H1 Z1 l1 hs1 r1 q1 => upE_i hs1 q1 fun x μ2 w H2 Z2 l2 hs2 r2 q2 => upE_i hs2 q2 fun y μ3 u H3 Z3 l3 hs3 r3 q3 =>
    ⟨x, y, d, μ3, Z3, B, fun μ4 => E.nx ρ μ4, hs3.1, r2.le l3, r3, (r1.le l2).le l3, q3, fun μ4 H4 l4 hr4 q4 => (fin.later (((l1.trans l2).trans l3).trans l4)).nx (hs3.le l4 hr4) q4⟩
theorem s_drop {we : WE} {st : Stmt} (h : PS X st (tDrop (upE X.K we))) : PS X st (upSt X.K fun E ρ μ => we ρ μ fun _ μ1 => E.nx ρ μ1) :=
  h.imp fun D σ H ⟨ρ, μ, Z, B, E, hs, hw, fin⟩ => upE_i hs hw fun d μ1 v H1 Z1 l1 hs1 r1 q1 => (fin.later l1).nx hs1 q1
theorem s_ret {we : WE} {st : Stmt} (h : PS X st (tRet (upE X.K we))) : PS X st (upSt X.K fun E ρ μ => we ρ μ E.rt) :=
  h.imp fun D σ H ⟨ρ, μ, Z, B, E, hs, hw, fin⟩ => upE_i hs hw fun d μ1 v H1 Z1 l1 hs1 r1 q1 => fin.2.2.2 _ _ _ _ _ l1 hs1.1 r1 q1
theorem s_iff {tc : WT} {wa wb : DEnds → Rho → M → Prop} {st : Stmt} (h : PS X st (tIfS (upT X.K tc) (upSt X.K wa) (upSt X.K wb))) : PS X st (upSt X.K fun E ρ μ => tc ρ μ fun k μ1 => if k = true then wa E ρ μ1 else wb E ρ μ1) :=
  h.imp fun D σ H ⟨ρ, μ, Z, B, E, hs, hw, fin⟩ => upT_i hs hw fun k μ1 H1 Z1 l1 hs1 q1 => by
    cases k with
    | true =>
      rw [if_pos rfl] at q1 ⊢
      exact ⟨ρ, μ1, Z1, B, E, hs1, q1, fin.later l1⟩
    | false =>
      rw [if_neg Bool.false_ne_true] at q1 ⊢
      exact ⟨ρ, μ1, Z1, B, E, hs1, q1, fin.later l1⟩
theorem s_whl {tc : WT} {wb : DEnds → Rho → M → Prop} {st : Stmt} (h : PS X st (tWhile (upT X.K tc) (upSt X.K wb))) : PS X st (upSt X.K fun E ρ μ => ∃ W : Nat → Rho → M → Prop, (∃ m, W m ρ μ) ∧ ∀ m ρ' μ', W m ρ' μ' → tc ρ' μ' fun k μ1 =>
      if k = true then wb { E with nx := fun ρ2 μ2 => ∃ m', m' < m ∧ W m' ρ2 μ2, ct := fun ρ2 μ2 => ∃ m', m' < m ∧ W m' ρ2 μ2, bk := E.nx } ρ' μ1 else E.nx ρ' μ1) :=
  h.imp fun D σ H ⟨ρ, μ, Z, B, E, hs, hw, fin⟩ => by
    obtain ⟨W, ⟨m0, w0⟩, turn⟩ := hw
    refine ⟨fun m σ' H' => ∃ ρ' μ' Z', Le H Z H' Z' ∧ Sta X.K ρ' μ' Z' B σ' H' ∧ W m ρ' μ', ⟨m0, ρ, μ, Z, LeW.refl, hs, w0⟩, fun m σ' H' ⟨ρ', μ', Z', l, hs', w⟩ => ?_⟩
    refine upT_i hs' (turn m ρ' μ' w) fun k μ1 H1 Z1 l1 hs1 q1 => ?_
    cases k with
    | true =>
      rw [if_pos rfl] at q1 ⊢
      refine ⟨fun σ2 H2 => ∃ m', m' < m ∧ ∃ ρ' μ' Z', Le H Z H2 Z' ∧ Sta X.K ρ' μ' Z' B σ2 H2 ∧ W m' ρ' μ', fun σ2 H2 q => q, ?_⟩
      refine ⟨ρ', μ1, Z1, B, _, hs1, q1, fun ρ2 μ2 σ2 H2 Z2 l2 hs2 q2 => ?_, fun ρ2 μ2 σ2 H2 Z2 l2 hs2 q2 => ?_, fun ρ2 μ2 σ2 H2 Z2 l2 hs2 q2 => ?_, (fin.2.2.2.later l).later l1⟩
      · obtain ⟨m', hm, w'⟩ := q2
        exact ⟨m', hm, ρ2, μ2, Z2, (l.trans l1).trans l2, hs2, w'⟩
      · exact (((fin.later l).later l1).later l2).nx hs2 q2
      · obtain ⟨m', hm, w'⟩ := q2
        exact ⟨m', hm, ρ2, μ2, Z2, (l.trans l1).trans l2, hs2, w'⟩
    | false =>
      rw [if_neg Bool.false_ne_true] at q1 ⊢
      exact ((fin.later l).later l1).nx hs1 q1
theorem s_for {tg : CT} {wi : WI} {wb : DEnds → Rho → M → Prop} {st : Stmt} {g : TG} (hg : upG X.K tg g) (h : PS X st (tFor (upI X.K wi) g (upSt X.K wb))) :
    PS X st (upSt X.K fun E ρ μ => wi ρ μ fun s μ1 => ∃ P : Nat → Rho → M → Prop, P 0 ρ μ1 ∧ (∀ i ρ' μ', P i ρ' μ' → i ≤ s.items.length → s.ok μ') ∧
      (∀ i x ρ' μ', s.items[i]? = some x → P i ρ' μ' → ∃ ρ2, bindT μ' tg x ρ' = some ρ2 ∧ wb { E with nx := P (i + 1), ct := P (i + 1), bk := E.nx } ρ2 μ') ∧
      ∀ ρ' μ', P s.items.length ρ' μ' → E.nx ρ' μ') :=
  h.imp fun D σ H ⟨ρ, μ, Z, B, E, hs, hw, fin⟩ => by
    refine ⟨ρ, μ, Z, B, _, hs, hw, fun s μ1 J H1 Z1 l1 hr1 ok sv q1 => ?_⟩
    obtain ⟨P, p0, pok, step, done⟩ := q1
    have hs1 := hs.le l1 hr1
    refine ⟨fun i m σ' H' => m = s.items.length - i ∧ i ≤ s.items.length ∧ ∃ ρ' μ' Z', Le H1 Z1 H' Z' ∧ Sta X.K ρ' μ' Z' B σ' H' ∧ P i ρ' μ', ⟨_, rfl, Nat.zero_le _, ρ, μ1, Z1, LeW.refl, hs1, p0⟩, ?_⟩
    rintro i m σ' H' ⟨rfl, hi, ρ', μ', Z', l, hs', p⟩
    obtain ⟨sgo, syld, sstop⟩ := sv B (.inl rfl) H' Z' μ' l.weak hs'.1 (pok i ρ' μ' p hi)
    by_cases hlt : i < s.items.length
    · refine .inr ⟨sgo i hlt, fun σ2 H2 => ∃ ρ' μ' Z', Le H1 Z1 H2 Z' ∧ Sta X.K ρ' μ' Z' B σ2 H2 ∧ P (i + 1) ρ' μ', fun σ2 H2 q => ⟨_, by omega, rfl, hlt, q⟩, fun x H'' y => ?_⟩
      obtain ⟨ly, hry, rx⟩ := syld i x H'' _ y (List.getElem?_eq_getElem hlt)
      have l := l.trans ly
      have hs' := hs'.le ly hry
      obtain ⟨ρ2, eb, hw2⟩ := step i _ ρ' μ' (List.getElem?_eq_getElem hlt) p
      refine hg x σ' H'' _ _ ρ' ρ2 μ' Z' B hs'.2 rx eb fun σ2 rr2 _ => ?_
      refine ⟨ρ2, μ', Z', B, _, ⟨hs'.1, rr2⟩, hw2, fun ρ3 μ3 σ3 H3 Z3 l3 hs3 q3 => ?_, fun ρ3 μ3 σ3 H3 Z3 l3 hs3 q3 => ?_, fun ρ3 μ3 σ3 H3 Z3 l3 hs3 q3 => ?_, ((fin.2.2.2.later l1).later l)⟩
      · exact ⟨ρ3, μ3, Z3, l.trans l3, hs3, q3⟩
      · exact (((fin.later l1).later l).later l3).nx hs3 q3
      · exact ⟨ρ3, μ3, Z3, l.trans l3, hs3, q3⟩
    · have e : i = s.items.length := by omega
      subst e
      exact .inl ⟨sstop _ (Nat.le_refl _), ((fin.later l1).later l).nx hs' (done ρ' μ' p)⟩
end
end Rf

set_option Elab.async false
set_option linter.all false
set_option maxRecDepth 100000
/-! Rf10: statements that pass the look; defs; a whole text, level by level -/
namespace Rf
open PySem L2 PySem.Spec PyProof.Rows
variable {Γ : Tab} {k : Nat}

theorem aug_ok {i : Expr} {c : CE} {S : SC} (h : chkE c S i = true) (ov iv new : Value) : augStore i ov iv new = (do holding [new, ov, iv] (setItem ov iv new); release [new, ov, iv] []; pure .next) := by
  cases i with
  | Slice l u s p => cases c <;> cases h
  | _ => rfl
theorem sub_assign {o i : Expr} {p : Pos} {c : CE} {S : SC} {env : Env} (h : chkE c S i = true) (v : Value) : assign (.Subscript o i p) env v = (do
      let ov ← holding [v] (eval o env)
      let iv ← holding [v, ov] (eval i env)
      standAt p
      holding [v, ov, iv] (setItem ov iv v)
      release [v, ov, iv] []) := by
  cases i with
  | Slice l u s p => cases c <;> cases h
  | _ => rfl
/-- what is read at a place, by values -/
theorem get_ok {X : Cx} (hu : X.A.units + 64 < cLine) : PGet X (upO X.K opIdxC) := by
  intro pins s σ H o i ov iv Q I r1 r2 hw
  obtain ⟨dx, dy, μ, Z, B, Q0, hr, rx, ry, ho, fin⟩ := hw
  cases dx with
  | cel n =>
    simp only [opIdxC, opIdx] at ho
    split at ho
    · rename_i xs e
      cases dy with
      | int j =>
        simp only at ho
        split at ho
        · rename_i d e2
          obtain ⟨a, rfl, _, vs, h1, rs⟩ := hr.at_ e rx
          obtain ⟨w, e3, rw'⟩ := rs.atI e2
          cases ry
          cases (show ov = Value.ref a from r1)
          obtain ⟨t, rfl⟩ := (show ∃ t, iv = Value.int j t from r2)
          obtain ⟨its, r, pl, hz⟩ := I.list (.of h1)
          obtain ⟨m, q1, q2, q3, q4, q5⟩ := atI_get e3
          obtain ⟨w', ew, rw2⟩ := r.get q2
          have hl := r.length
          have hn := line63
          have fin' : EP X pins σ Q w' s := ⟨w, H, I, rw2, fin.here hr rw' ho⟩
          by_cases h0 : 0 ≤ j
          · have hj : j.toNat = m := by
              rw [seqIndex_of h0 q5] at q1
              exact Option.some.inj q1
            exact wpAny_getItem_list pl.isList h0 (by omega) (by rw [hj]; simpa using ew) fin'
          · have hj : (j + (its.toArray.size : Int)).toNat = m := by
              rw [seqIndex_neg (by omega) q4] at q1
              rw [List.size_toArray, ← hl]
              exact Option.some.inj q1
            exact wpAny_getItem_list_neg pl.isList (by omega) (by rw [List.size_toArray]; omega) (by omega) (by rw [hj]; simpa using ew) fin'
        · exact ho.elim
      | _ => exact ho.elim
    · rename_i kvs e
      split at ho
      · rename_i key ek
        split at ho
        · rename_i d e2
          obtain ⟨a, rfl, _, kws, h1, rs⟩ := hr.at_ e rx
          obtain ⟨w, e3, rw'⟩ := rs.get.1 d e2
          have ev := keyD_rel ek ry
          subst ev
          cases (show ov = Value.ref a from r1)
          exact d_getItem (by omega) I (by rw [← e3]; exact DGet.k h1) r2 fun w' s3 I3 rw2 => ⟨w, H, I3, rw2, fin.here hr rw' ho⟩
        · exact ho.elim
      · exact ho.elim
    · exact ho.elim
  | _ => exact ho.elim

section
variable {X : Cx} {S : SC}
/-- += and -= of ints -/
theorem ipq {op : Operator} (h : (op == .Add || op == .Sub) = true) : ∃ f : Int → Int → Int, PIp X op (ipI f) ∧ ∀ i j μ (Q : WQ), opBin op (.int i) (.int j) μ Q → Q (.int (f i j)) μ := by
  cases op <;> first
    | exact ⟨_, ip_add, fun i j μ Q q => q⟩
    | exact ⟨_, ip_sub, fun i j μ Q q => q.2⟩
    | cases h
mutual
theorem sndS : ∀ (c : CS) (X : Cx) (S : SC) (s : Stmt), Ctx X S Γ k → S.sc.kind = .function → chkS c S s = true → PS X s (upSt X.K (wS Γ c))
  | .set i e, X, S, s, C, hk, h => by
    simp only [chkS] at h
    split at h
    · rename_i x px v pos
      simp only [Bool.and_eq_true, beq_iff_eq] at h
      obtain ⟨⟨⟨h1, h2⟩, h3⟩, h4⟩ := h
      have hE := (sndE e X S v C h4).1
      have hN : X.N[i]? = some x := by rw [C.N]; exact h1
      have nd : X.N.Nodup := by rw [C.N]; exact C.nd
      by_cases hv : notLc v = true
      · exact s_set (ps_set nd hN (loc_ok C h2) hE (nosw h4 hv _ _ _) (C.fn x h3)) fun _ _ _ q => q
      · cases v with
        | ListComp elt' gs scope p =>
          by_cases hsw : swapsWith (.ListComp elt' gs scope p) (some (.Name x px)) pos.line X.env = pure false
          · exact s_set (ps_set nd hN (loc_ok C h2) hE hsw (C.fn x h3)) fun _ _ _ q => q
          · have hkf : X.env.scope.kind = .function := by rw [C.sc]; exact hk
            have hb : X.env.blockKind = .function := by unfold Env.blockKind; rw [hkf]; rfl
            have hsT : swapsWith (.ListComp elt' gs scope p) (some (.Name x px)) pos.line X.env = pure true ∧ X.env.scope.names.lookup x = some .local := by
              have e1 : swapsWith (.ListComp elt' gs scope p) (some (.Name x px)) pos.line X.env = pure (X.env.blockKind == .function && X.env.kindOf x == some .local && px.line == p.line && !(scope.names.any fun (n, k) => n == x && (k == .local || k == .cell))) := rfl
              cases hc : (X.env.blockKind == .function && X.env.kindOf x == some .local && px.line == p.line && !(scope.names.any fun (n, k) => n == x && (k == .local || k == .cell))) with
              | false => rw [hc] at e1; exact absurd e1 hsw
              | true =>
                rw [hc] at e1
                simp only [Bool.and_eq_true, beq_iff_eq] at hc
                exact ⟨e1, hc.1.1.2⟩
            cases e with
            | lc tg it ifs elt own =>
              simp only [chkE] at h4
              split at h4
              · rename_i elt2 tg' it' ifs' scope2 p2 heq
                cases heq
                simp only [Bool.and_eq_true] at h4
                obtain ⟨⟨⟨⟨⟨⟨g1, g2⟩, g3⟩, g4⟩, g5⟩, g6⟩, g7⟩ := h4
                have hI := sndI it X S tg' it' C g4
                have eo : (ownOf S own).map (·.2) = own := by
                  unfold ownOf
                  rw [List.map_map]
                  exact (List.map_congr_left fun _ _ => rfl).trans (List.map_id _)
                have hL := ps_setLc (pos := p) (spos := pos) (py := px) (elt := elt') (te := upE X.K (wE Γ elt)) (g := gOf X.K tg) (tt := fOf X.K Γ ifs) C.calm nd hN hsT.2 hsT.1 hI (blkOk_by (by rw [C.N, C.sc]; exact g1)) (fun s H c cl fp => tgt_ok (C.blk s H scope cl c fp) g5) (fun s H c cl fp => sndF ifs _ _ ifs' (C.blk s H scope cl c fp) g6)
                  (fun s H c cl fp => (sndE elt _ _ elt' (C.blk s H scope cl c fp) g7).1) (fun x => fold_of g3 _ x)
                rw [eo] at hL
                exact s_set hL (lc_up (fun _ _ _ q => q) gOf_ok (fun i hi => by
                  rw [List.all_eq_true] at g2
                  simpa using g2 i hi) (fun σ H R q => fOf_up q) (fun _ _ _ q => q))
              · cases h4
            | _ => cases h4
        | _ => exact absurd rfl hv
    · cases h
  | .unp is e, X, S, s, C, hk, h => by
    simp only [chkS] at h
    split at h
    · rename_i es kk p v pos
      simp only [Bool.and_eq_true, beq_iff_eq] at h
      obtain ⟨⟨⟨h1, h2⟩, h3⟩, h4⟩ := h
      obtain ⟨p1, p2, p3⟩ := names_ok C is es h1 h2
      refine s_unp (ps_asg (sndE e X S v C h4).1 (pg_either C.calm p1 p2 p3) ?_ ?_ rfl)
      · exact nosw2 h4 (.Tuple es kk p) rfl pos.line X.env
      · refine noSwap_ok (by rw [C.sc]; exact hk) ?_
        rw [C.sc]; exact h3
    · cases h
  | .par i j a b, X, S, s, C, hk, h => by
    simp only [chkS] at h
    split at h
    · rename_i x px y py kk p u v k2 p2 pos
      simp only [Bool.and_eq_true, beq_iff_eq, decide_eq_true_eq, Bool.not_eq_true', beq_eq_false_iff_ne] at h
      obtain ⟨⟨⟨⟨⟨⟨⟨h1, h2⟩, h3⟩, h4⟩, h5⟩, h6⟩, h7⟩, h8⟩ := h
      have lc : ∀ z, isLocB S.sc z = true → X.env.scope.names.lookup z = some .local := fun z hz => by
        rw [C.sc]
        unfold isLocB at hz
        split at hz
        · assumption
        · cases hz
      exact s_par (ps_par C.calm (by rw [C.N]; exact C.nd) (by rw [C.N]; exact h1) (by rw [C.N]; exact h2) h3 (lc x h4) (lc y h5) (pa_cons (sndE a X S u C h7).1 (pa_cons (sndE b X S v C h8).1 pa_nil (star_one (st_of h8))) (star_one (st_of h7)))
        (swap_ok (by rw [C.sc]; exact hk) (by rw [C.sc]; exact h6)) rfl)
    · cases h
  | .par3 i j l a b c, X, S, s, C, hk, h => by
    simp only [chkS] at h
    split at h
    · rename_i x px y py z pz kk p u v t k2 p2 pos
      simp only [Bool.and_eq_true, beq_iff_eq, decide_eq_true_eq, Bool.not_eq_true', beq_eq_false_iff_ne] at h
      obtain ⟨⟨⟨⟨⟨⟨⟨⟨⟨⟨⟨⟨h1, h2⟩, h3⟩, n1⟩, n2⟩, n3⟩, h4⟩, h5⟩, h6⟩, h7⟩, h8⟩, h9⟩, h10⟩ := h
      have lc : ∀ z, isLocB S.sc z = true → X.env.scope.names.lookup z = some .local := fun z hz => by
        rw [C.sc]
        unfold isLocB at hz
        split at hz
        · assumption
        · cases hz
      exact s_par3 (ps_par3 C.calm (by rw [C.N]; exact C.nd) (by rw [C.N]; exact h1) (by rw [C.N]; exact h2) (by rw [C.N]; exact h3) n1 n2 n3 (lc x h4) (lc y h5) (lc z h6)
        (pa_cons (sndE a X S u C h8).1 (pa_cons (sndE b X S v C h9).1 (pa_cons (sndE c X S t C h10).1 pa_nil (star_one (st_of h10))) (star_one (st_of h9))) (star_one (st_of h8)))
        (swap_ok (by rw [C.sc]; exact hk) (by rw [C.sc]; exact h7)) rfl)
    · cases h
  | .put o i e, X, S, s, C, hk, h => by
    simp only [chkS] at h
    split at h
    · rename_i o' i' p v pos
      simp only [Bool.and_eq_true] at h
      obtain ⟨⟨h1, h2⟩, h3⟩ := h
      refine s_put (ps_asg (sndE e X S v C h3).1 (pg_sub (sndE o X S o' C h1).1 (sndE i X S i' C h2).1 (put_ok C.hu) (sub_assign h2)) ?_ ?_ ?_)
      · exact nosw2 h3 (.Subscript o' i' p) rfl pos.line X.env
      · cases v <;> rfl
      · rfl
    · cases h
  | .augV i op e, X, S, s, C, hk, h => by
    simp only [chkS] at h
    split at h
    · rename_i x p op' v pos
      simp only [Bool.and_eq_true, beq_iff_eq] at h
      obtain ⟨⟨⟨⟨⟨rfl, h1⟩, h2⟩, h3⟩, h4⟩, h5⟩ := h
      obtain ⟨f, hf, hq⟩ := ipq (X := X) h1
      refine (ps_aug (by rw [C.N]; exact C.nd) (by rw [C.N]; exact h2) (loc_ok C h3) (sndE e X S v C h5).1 hf (C.fn x h4)).imp fun D σ H ⟨ρ, μ, Z, B, E, hs, hw, fin⟩ => ?_
      simp only [wS] at hw
      cases eg : getV ρ i with
      | none => rw [eg] at hw; exact hw.elim
      | some d =>
        rw [eg] at hw
        unfold getV at eg
        split at eg
        · rename_i d' e'
          cases eg
          obtain ⟨w, w1, w2⟩ := hs.2.2 i d e'
          refine ⟨w, w1, upE_i hs hw fun y μ1 u H1 Z1 l1 hs1 r1 q1 => ?_⟩
          cases d with
          | int a =>
            cases y with
            | int b =>
              cases w2
              cases r1
              exact ⟨a, b, rfl, rfl, (fin.later l1).nx (hs1.set (.int _) i) (hq a b _ _ q1)⟩
            | _ => exact q1.elim
          | _ => cases y <;> exact q1.elim
        · cases eg
    · cases h
  | .augI o i op e, X, S, s, C, hk, h => by
    simp only [chkS] at h
    split at h
    · rename_i o' i' p op' v pos
      simp only [Bool.and_eq_true, beq_iff_eq] at h
      obtain ⟨⟨⟨⟨rfl, h1⟩, h2⟩, h3⟩, h4⟩ := h
      obtain ⟨f, hf, hq⟩ := ipq (X := X) h1
      refine (ps_augS (sndE o X S o' C h2).1 (sndE i X S i' C h3).1 (get_ok C.hu) (sndE e X S v C h4).1 hf (put_ok C.hu) (aug_ok h3)).imp fun D σ H ⟨ρ, μ, Z, B, E, hs, hw, fin⟩ => ?_
      refine upE_i hs hw fun x μ1 v1 H1 Z1 l1 hs1 r1 q1 => upE_i hs1 q1 fun y μ2 v2 H2 Z2 l2 hs2 r2 q2 => ?_
      refine ⟨x, y, μ2, Z2, B, _, hs2.1, r1.le l2, r2, q2, fun old μ3 w3 H3 Z3 l3 hr3 r3 q3 => ?_⟩
      have hs3 := hs2.le l3 hr3
      refine upE_i hs3 q3 fun z μ4 v4 H4 Z4 l4 hs4 r4 q4 => ?_
      cases old with
      | int a =>
        cases z with
        | int b =>
          cases r3
          cases r4
          refine ⟨a, b, rfl, rfl, ?_⟩
          exact ⟨x, y, .int (f a b), μ4, Z4, B, fun μ6 => E.nx ρ μ6, hs4.1, ((r1.le l2).le l3).le l4, (r2.le l3).le l4, .int _, hq a b _ _ q4, fun μ5 H5 l5 hr5 q5 => ((((fin.later l1).later l2).later l3).later l4 |>.later l5).nx (hs4.le l5 hr5) q5⟩
        | _ => exact q4.elim
      | _ => cases z <;> exact q4.elim
    · cases h
  | .drop e, X, S, s, C, hk, h => by
    simp only [chkS] at h
    split at h
    · rename_i v pos
      simp only [Bool.and_eq_true] at h
      exact s_drop (ps_expr (sndE e X S v C h.1).1 (nosw h.1 h.2 _ _ _))
    · cases h
  | .ret e, X, S, s, C, hk, h => by
    simp only [chkS] at h
    split at h
    · exact s_ret (ps_ret (sndE e X S _ C h).1)
    · cases h
  | .retN, X, S, s, C, hk, h => by
    simp only [chkS] at h
    split at h
    · exact ps_retN.imp fun D σ H ⟨ρ, μ, Z, B, E, hs, hw, fin⟩ => fin.2.2.2 _ _ _ _ _ LeW.refl hs.1 .non hw
    · cases h
  | .iff c a b, X, S, s, C, hk, h => by
    simp only [chkS] at h
    split at h
    · simp only [Bool.and_eq_true] at h
      exact s_iff (ps_if (sndE c X S _ C h.1.1).2 (sndSs a X S _ C hk h.1.2) (sndSs b X S _ C hk h.2))
    · cases h
  | .whl c b, X, S, s, C, hk, h => by
    simp only [chkS] at h
    split at h
    · simp only [Bool.and_eq_true] at h
      exact s_whl (ps_while (by rw [C.xe]; exact PassesOwn.never) (sndE c X S _ C h.1).2 (sndSs b X S _ C hk h.2))
    · cases h
  | .for tg it b, X, S, s, C, hk, h => by
    simp only [chkS] at h
    split at h
    · simp only [Bool.and_eq_true] at h
      exact s_for gOf_ok (ps_for (by rw [C.xe]; exact PassesOwn.never) C.calm (sndI it X S _ _ C h.1.2) (tgt_ok C h.1.1.1) (sndSs b X S _ C hk h.2) (fun x => fold_of h.1.1.2 _ x))
    · cases h
  | .brk, X, S, s, C, hk, h => by
    simp only [chkS] at h
    split at h
    · exact ps_break.imp fun D σ H ⟨ρ, μ, Z, B, E, hs, hw, fin⟩ => fin.2.1 _ _ _ _ _ LeW.refl hs hw
    · cases h
  | .cnt, X, S, s, C, hk, h => by
    simp only [chkS] at h
    split at h
    · exact ps_continue.imp fun D σ H ⟨ρ, μ, Z, B, E, hs, hw, fin⟩ => fin.2.2.1 _ _ _ _ _ LeW.refl hs hw
    · cases h
  | .pass, X, S, s, C, hk, h => by
    simp only [chkS] at h
    split at h
    · exact ps_pass.imp fun D σ H ⟨ρ, μ, Z, B, E, hs, hw, fin⟩ => fin.nx hs hw
    · cases h
  | .dead, X, S, s, C, hk, h => ⟨fun pins s σ H D I ⟨ρ, μ, Z, B, E, hs, hw, fin⟩ => hw.elim⟩
theorem sndSs : ∀ (c : CSs) (X : Cx) (S : SC) (ss : List Stmt), Ctx X S Γ k → S.sc.kind = .function → chkSs c S ss = true → PSs X ss (upSt X.K (wSs Γ c))
  | .nil, X, S, ss, C, hk, h => by
    cases ss with
    | nil => exact pss_nil.imp fun D σ H ⟨ρ, μ, Z, B, E, hs, hw, fin⟩ => fin.nx hs hw
    | cons _ _ => cases h
  | .cons c r, X, S, ss, C, hk, h => by
    cases ss with
    | nil => cases h
    | cons s ss =>
      simp only [chkSs, Bool.and_eq_true] at h
      refine (pss_cons (sndS c X S s C hk h.1) (sndSs r X S ss C hk h.2)).imp fun D σ H ⟨ρ, μ, Z, B, E, hs, hw, fin⟩ => ?_
      exact ⟨ρ, μ, Z, B, _, hs, hw, fun ρ' μ' σ' H' Z' l hs' q => ⟨ρ', μ', Z', B, E, hs', q, fin.later l⟩, fin.2.1, fin.2.2.1, fin.2.2.2⟩
end
end
end Rf

set_option Elab.async false
set_option linter.all false
set_option maxRecDepth 100000
/-! Rf11: defs; a whole text, level by level -/
namespace Rf
open PySem L2 PySem.Spec PyProof.Rows
variable {K : PySem.W.Frag} {H H1 H2 H' : Hp} {Z Z1 Z' Y B : List Addr} {μ μ' μ0 : M}

/-! ### what leaves a def -/
mutual
theorem RD.blw : ∀ {d : D} {v : V}, RD K H Z B d v → d.blw Z.length = true
  | _, _, .non => rfl
  | _, _, .bl _ => rfl
  | _, _, .int _ => rfl
  | _, _, .str _ => rfl
  | _, _, .ty _ => rfl
  | _, _, .tup _ r => by simpa [D.blw] using RDs.blw r
  | _, _, .lst _ _ _ r => by simpa [D.blw] using RDs.blw r
  | _, _, .scr _ r => by simpa [D.blw] using RDs.blw r
  | _, _, .cel e => by simpa [D.blw] using (List.getElem?_eq_some_iff.mp e).1
theorem RDs.blw : ∀ {ds : List D} {vs : List V}, RDs K H Z B ds vs → belowAll Z.length ds = true
  | _, _, .nil => rfl
  | _, _, .cons h r => by simp [belowAll, RD.blw h, RDs.blw r]
end
theorem RKs.blw {ds : List (Key × D)} {vs : List (Key × V)} (h : RKs K H Z B ds vs) : belowAll Z.length (ds.map (·.2)) = true := by
  induction h with
  | nil => rfl
  | cons r _ ih => simp [belowAll, r.2.blw, ih]
theorem COk.blw {a : Addr} {c : CO} (h : COk K H Z B a c) : c.blw Z.length = true := by
  cases c with
  | lst ds => obtain ⟨vs, _, r⟩ := h; exact r.blw
  | dK kvs => obtain ⟨vs, _, r⟩ := h; exact r.blw
theorem FzT.shrink {a : Addr} {vs : List V} (h : FzT K H (Z ++ Y) B a vs) : FzT K H Z B a vs := by
  rcases h with ⟨h, n, b⟩ | h
  · exact .inl ⟨h, fun z => n (List.mem_append_left _ z), b⟩
  · exact .inr h
theorem FzS.shrink {a : Addr} {vs : List V} (h : FzS K H (Z ++ Y) B a vs) : FzS K H Z B a vs := by
  rcases h with ⟨h, n, b⟩ | h
  · exact .inl ⟨h, fun z => n (List.mem_append_left _ z), b⟩
  · exact .inr h
mutual
theorem RD.shrink : ∀ {d : D} {v : V}, d.blw Z.length = true → RD K H (Z ++ Y) B d v → RD K H Z B d v
  | _, _, _, .non => .non
  | _, _, _, .bl b => .bl b
  | _, _, _, .int i => .int i
  | _, _, _, .str s => .str s
  | _, _, _, .ty n => .ty n
  | _, _, h, .tup f r => .tup f.shrink (RDs.shrink (by simpa [D.blw] using h) r)
  | _, _, h, .lst e n b r => .lst e (fun z => n (List.mem_append_left _ z)) b (RDs.shrink (by simpa [D.blw] using h) r)
  | _, _, h, .scr f r => .scr f.shrink (RDs.shrink (by simpa [D.blw] using h) r)
  | _, _, h, .cel e => .cel (by
      have h : decide (_ < Z.length) = true := h
      rw [List.getElem?_append_left (of_decide_eq_true h)] at e
      exact e)
theorem RDs.shrink : ∀ {ds : List D} {vs : List V}, belowAll Z.length ds = true → RDs K H (Z ++ Y) B ds vs → RDs K H Z B ds vs
  | _, _, _, .nil => .nil
  | _, _, h, .cons r rs => by
    simp only [belowAll, Bool.and_eq_true] at h
    exact .cons (RD.shrink h.1 r) (RDs.shrink h.2 rs)
end
theorem RKs.shrink {ds : List (Key × D)} {vs : List (Key × V)} (hb : belowAll Z.length (ds.map (·.2)) = true) (h : RKs K H (Z ++ Y) B ds vs) : RKs K H Z B ds vs := by
  induction h with
  | nil => exact .nil
  | cons r _ ih =>
    simp only [List.map_cons, belowAll, Bool.and_eq_true] at hb
    exact .cons ⟨r.1, r.2.shrink hb.1⟩ (ih hb.2)
theorem COk.shrink {a : Addr} {c : CO} (hb : c.blw Z.length = true) (h : COk K H (Z ++ Y) B a c) : COk K H Z B a c := by
  cases c with
  | lst ds => obtain ⟨vs, e, r⟩ := h; exact ⟨vs, e, r.shrink hb⟩
  | dK kvs => obtain ⟨vs, e, r⟩ := h; exact ⟨vs, e, RKs.shrink hb r⟩
mutual
theorem frz_ok (hr : HRel K μ (Z ++ Y) B H) : ∀ {d d' : D} {v : V}, d.frz Z.length μ = some d' → RD K H (Z ++ Y) B d v → RD K H Z B d' v
  | .non, d', v, e, r => by cases e; cases r; exact .non
  | .bl _, d', v, e, r => by cases e; cases r; exact .bl _
  | .int _, d', v, e, r => by cases e; cases r; exact .int _
  | .str _, d', v, e, r => by cases e; cases r; exact .str _
  | .ty _, d', v, e, r => by cases e; cases r; exact .ty _
  | .tup xs, d', v, e, r => by
    cases h : frzAll Z.length μ xs with
    | none => rw [D.frz, h] at e; cases e
    | some ys =>
      rw [D.frz, h] at e
      cases e
      cases r with
      | tup f rs => exact .tup f.shrink (frzAll_ok hr h rs)
  | .lst xs, d', v, e, r => by
    cases h : frzAll Z.length μ xs with
    | none => rw [D.frz, h] at e; cases e
    | some ys =>
      rw [D.frz, h] at e
      cases e
      cases r with
      | lst f n b rs => exact .lst f (fun z => n (List.mem_append_left _ z)) b (frzAll_ok hr h rs)
  | .scr xs, d', v, e, r => by
    rw [D.frz] at e
    split at e
    · rename_i h
      cases e
      exact r.shrink (by simpa [D.blw] using h)
    · cases e
  | .cel k, d', v, e, r => by
    rw [D.frz] at e
    split at e
    · rename_i h
      cases e
      exact r.shrink (by simpa [D.blw] using h)
    · rename_i h
      split at e
      · rename_i xs q
        split at e
        · rename_i hb
          cases e
          obtain ⟨a, rfl, ea, vs, h1, rs⟩ := hr.at_ q r
          refine .lst h1 (fun z => ?_) (hr.zb a (List.mem_of_getElem? ea)) (rs.shrink hb)
          -- a stands behind Z
          obtain ⟨j, ej⟩ := List.mem_iff_getElem?.mp z
          have hj := (List.getElem?_eq_some_iff.mp ej).1
          have ej' : (Z ++ Y)[j]? = some a := by rw [List.getElem?_append_left hj]; exact ej
          have := nodup_at hr.nd ej' ea
          omega
        · cases e
      · cases e
theorem frzAll_ok (hr : HRel K μ (Z ++ Y) B H) : ∀ {ds ds' : List D} {vs : List V}, frzAll Z.length μ ds = some ds' → RDs K H (Z ++ Y) B ds vs → RDs K H Z B ds' vs
  | [], ds', vs, e, r => by cases e; cases r; exact .nil
  | d :: ds, ds', vs, e, r => by
    cases r with
    | cons r1 r2 =>
      cases h1 : d.frz Z.length μ with
      | none => simp [frzAll, h1] at e
      | some p =>
        cases h2 : frzAll Z.length μ ds with
        | none => simp [frzAll, h1, h2] at e
        | some qs =>
          simp [frzAll, h1, h2] at e
          subst e
          exact .cons (frz_ok hr h1 r1) (frzAll_ok hr h2 r2)
end
theorem rt_fin {Q : WQ} {Q' : VK} (h0 : HRel K μ0 Z B H) (fin : Fin K H Z B Q Q') : Fin K H Z B (rtD μ0 Q) Q' := by
  intro d μ' v H' Z' l hr r q
  rcases q with q | ⟨d', e, cl, q⟩
  · exact fin d μ' v H' Z' l hr r q
  · obtain ⟨Y, rfl⟩ := l.pre
    have hl : Z.length = μ0.length := h0.len
    rw [← hl] at e cl q
    have hlen : Z.length ≤ μ'.length := by
      have := hr.len
      rw [List.length_append] at this
      omega
    have l2 : Le H Z H' Z := ⟨fun a o ea n w => ⟨(l.keep a o ea n w).1, n⟩, ⟨[], by simp⟩, l.there⟩
    refine fin d' _ v H' Z l2 ⟨?_, ?_, fun a z => hr.zb a (List.mem_append_left _ z), hr.hb, fun i c ec => ?_⟩ (frz_ok hr e r) q
    · rw [List.length_take]; omega
    · have := hr.nd
      rw [List.nodup_append] at this
      exact this.1
    · have hi : i < Z.length := by
        have := (List.getElem?_eq_some_iff.mp ec).1
        rw [List.length_take] at this
        omega
      rw [List.getElem?_take_of_lt hi] at ec
      obtain ⟨a, ea, ok⟩ := hr.cel i c ec
      rw [List.getElem?_append_left hi] at ea
      refine ⟨a, ea, ok.shrink ?_⟩
      rcases cl i c hi ec with c0 | cb
      · obtain ⟨a', _, ok'⟩ := h0.cel i c c0
        exact ok'.blw
      · exact cb

/-! ### a def -/
def fnScB (N P : List Str) (sc : Scope) : Bool :=
  sc.kind == .function && !sc.isCoroutine && !sc.isGenerator && decide N.Nodup && (N.take P.length == P) && P.all (locB sc) && sc.names.all fun y => !(y.2 == .free)
theorem fnSc_ok {N P : List Str} {sc : Scope} (h : fnScB N P sc = true) : FnScope N P sc := by
  unfold fnScB at h
  simp only [Bool.and_eq_true, beq_iff_eq, Bool.not_eq_true', decide_eq_true_eq, List.all_eq_true] at h
  obtain ⟨⟨⟨⟨⟨⟨h1, h2⟩, h3⟩, h4⟩, h5⟩, h6⟩, h7⟩ := h
  refine ⟨h1, h2, h3, h4, h5, fun x hx => ?_, fun y hy e => ?_⟩
  · have := h6 x hx
    unfold locB at this
    split at this
    · exact .inl (by assumption)
    · exact .inr (by assumption)
    · cases this
  · have := h7 y hy
    rw [e] at this
    cases this
theorem start_rr {ds : List D} {vs : List V} (r : RDs K H Z B ds vs) (N : List Str) (hl : ds.length ≤ N.length) : RR K H Z B (startD N.length ds) (L2.start N vs) := by
  have e := r.length
  unfold startD L2.start
  refine ⟨by simp [e], fun i d h => ?_⟩
  by_cases hi : i < ds.length
  · rw [List.getElem?_append_left (by simpa using hi), List.getElem?_map] at h
    rw [List.getElem?_append_left (by simpa [← e] using hi), List.getElem?_map]
    cases q : ds[i]? with
    | none => rw [q] at h; cases h
    | some d' =>
      rw [q] at h
      cases h
      obtain ⟨v, q1, q2⟩ := r.get q
      exact ⟨v, by rw [q1]; rfl, q2⟩
  · rw [List.getElem?_append_right (by simpa using hi), List.getElem?_replicate] at h
    split at h <;> cases h
/-- a text's def in the core language -/
structure DefI where
  name : Str
  st : Stmt
  ps : List Str
  N : List Str
  ir : CSs
def DefI.S (d : DefI) (FN : List Str) (KW : List (Nat × Nat × List Str × List Nat)) (BN : List Str) (GC : Bool) (GD : Bool := false) : SC := ⟨d.N, defScope d.st, none, FN, KW, BN, GC, GD⟩
def DefI.ok (d : DefI) (FN : List Str) (KW : List (Nat × Nat × List Str × List Nat)) (BN : List Str) (GC : Bool) (GD : Bool := false) : Bool :=
  fnScB d.N d.ps (defScope d.st) && chkSs d.ir (d.S FN KW BN GC GD) (defBody d.st)
section
variable {P : Program} {w : World} {mg : Str → Option Value} {base : Heap} {k : Nat}
/-- the facts of the head about a text's defs: where each stands, how it binds -/
structure DefAt (K : PySem.W.Frag) (mg : Str → Option Value) (KW : List (Nat × Nat × List Str × List Nat)) (i : Nat) (d : DefI) (a : Addr) (fd : FuncData) : Prop where
  fn : Fun K d.name d.name d.st a fd
  at_ : mg d.name = some (.ref a)
  bi : Binds K fd d.ps []
  kb : ∀ n ks perm, (i, n, ks, perm) ∈ KW → KBinds K fd d.ps ks (permU perm n ks.length) (permV perm n ks.length)
theorem def_ok {FN : List Str} {KW : List (Nat × Nat × List Str × List Nat)} {BN : List Str} {GC : Bool} {Γ : Tab} {S : DSpec} {d : DefI} {a : Addr} {fd : FuncData} (F : Fun K d.name d.name d.st a fd) (ok : d.ok FN KW BN GC = true)
    (bn : ∀ n ∈ BN, mg n = none) (gc : GC = true → mg "gcd" = some (.builtin "math.gcd"))
    (fs : ∀ f x, FN[f]? = some x → ∃ (a : Addr) (fd : FuncData) (ps : List Str), mg x = some (.ref a) ∧ PySem.W.keepIn K (.ref a) = true ∧ FnOk P w K mg base CX0 k a fd ps (lift K (Γ f)) ∧ Binds K fd ps [] ∧
      ∀ n ks perm, (f, n, ks, perm) ∈ KW → KBinds K fd ps ks (permU perm n ks.length) (permV perm n ks.length))
    (len : ∀ ds μ Q, S ds μ Q → ds.length = d.ps.length) (body : ∀ ds μ Q, S ds μ Q → wDef Γ d.N.length d.ir ds μ Q) : FnOk P w K mg base CX0 (k + 1) a fd d.ps (lift K S) := by
  unfold DefI.ok at ok
  rw [Bool.and_eq_true] at ok
  have sc := fnSc_ok ok.1
  refine F.ok sc (fun vs H Q E ⟨ds, μ, Z, B, Q0, hr, rs, hS, fin⟩ => by rw [← rs.length]; exact len _ _ _ hS) fun cdv A outer s H vs Q E hr ⟨ds, μ, Z, B, Q0, h0, rs, hS, fin⟩ => ?_
  have hl := len _ _ _ hS
  have hpN : d.ps.length ≤ d.N.length := by
    have := congrArg List.length sc.pre
    rw [List.length_take] at this
    omega
  have C : Ctx (cxOf CX0 P w K mg base d.N d.name (defScope d.st) a cdv A outer s H E).nox (d.S FN KW BN GC) Γ k :=
    { N := rfl, nd := sc.nd, sc := rfl, calm := rfl, room := hr, xe := rfl, bn := bn, gc := gc, gd := (fun z => by cases z), fn := fun _ _ => .inl rfl, fs := fun f x h => ⟨fs f x h⟩ }
  refine ⟨_, sndSs d.ir _ _ _ C sc.kind ok.2, startD d.N.length ds, μ, Z, B, _, ⟨h0, start_rr rs d.N (by omega)⟩, body ds μ Q0 hS, ?_, ?_, ?_, ?_⟩
  · intro ρ' μ' σ' H' Z' l hs q
    exact rt_fin h0 fin _ _ _ _ _ l hs.1 .non q
  · intro ρ' μ' σ' H' Z' l hs q
    exact q.elim
  · intro ρ' μ' σ' H' Z' l hs q
    exact q.elim
  · exact rt_fin h0 fin
/-- all defs of a text, level by level -/
theorem all_ok' {Ds : List DefI} {KW : List (Nat × Nat × List Str × List Nat)} {BN : List Str} {GC : Bool} {T : Nat → Tab} (ok : Ds.all (fun d => d.ok (Ds.map (·.name)) KW BN GC) = true)
    (bn : ∀ n ∈ BN, mg n = none) (gc : GC = true → mg "gcd" = some (.builtin "math.gcd"))
    (at_ : ∀ i d, Ds[i]? = some d → ∃ a fd, DefAt K mg KW i d a fd)
    (T0 : ∀ f ds μ Q, ¬ T 0 f ds μ Q) (len : ∀ k i d ds μ Q, Ds[i]? = some d → T k i ds μ Q → ds.length = d.ps.length)
    (body : ∀ k i d ds μ Q, Ds[i]? = some d → T (k + 1) i ds μ Q → wDef (T k) d.N.length d.ir ds μ Q) :
    ∀ k i d a fd, Ds[i]? = some d → DefAt K mg KW i d a fd → FnOk P w K mg base CX0 k a fd d.ps (lift K (T k i))
  | 0, i, d, a, fd, hd, F => ⟨fun vs H Q E ⟨ds, μ, Z, B, Q0, hr, rs, hS, fin⟩ => (T0 _ _ _ _ hS).elim, fun A outer s H args us vs Q E _ _ _ _ ⟨ds, μ, Z, B, Q0, hr, rs, hS, fin⟩ => (T0 _ _ _ _ hS).elim⟩
  | k + 1, i, d, a, fd, hd, F => by
    refine def_ok F.fn (List.all_eq_true.mp ok d (List.mem_of_getElem? hd)) bn gc (fun f x hx => ?_) (fun ds μ Q h => len (k + 1) i d ds μ Q hd h) (fun ds μ Q h => body k i d ds μ Q hd h)
    rw [List.getElem?_map] at hx
    cases e : Ds[f]? with
    | none => rw [e] at hx; cases hx
    | some d' =>
      rw [e] at hx
      cases hx
      obtain ⟨a', fd', F'⟩ := at_ f d' e
      exact ⟨a', fd', d'.ps, F'.at_, F'.fn.kp, all_ok' ok bn gc at_ T0 len body k f d' a' fd' e F', F'.bi, F'.kb⟩
end
end Rf
namespace Rf
open PySem L2 PySem.Spec PyProof.Rows
theorem scr_ints {K : PySem.W.Frag} {H : Hp} {Z B : List Addr} : ∀ ns : List Int, RDs K H Z B (ns.map .int) (ns.map V.int)
  | [] => .nil
  | n :: ns => .cons (.int n) (scr_ints ns)
/-- where a law's call begins -/
theorem law_start {K : PySem.W.Frag} {H : Hp} {a : Addr} {ns : List Int} {S : DSpec} {E : XK} (h : S [.scr (ns.map .int)] [] fun d _ => d = .bl true) (hS : SqL K H a (ns.map V.int)) : lift K S [.ref a] H (fun v _ => v = .bl true) E := by
  have hr : HRel K [] [] [] H := ⟨rfl, .nil, fun _ z => (nomatch z), fun _ z => (nomatch z), fun i c e => by simp at e⟩
  refine ⟨[.scr (ns.map .int)], [], [], [], fun d _ => d = .bl true, hr, .cons (.scr (vs := ns.map V.int) ?_ (scr_ints ns)) .nil, h, fun d μ' w H' Z' l hr r q => ?_⟩
  · rcases hS with h | h
    · exact .inl ⟨h, by simp, by simp⟩
    · exact .inr h
  · subst q
    cases r
    rfl
end Rf

set_option Elab.async false
set_option linter.all false
set_option maxRecDepth 100000
/-! Rf12: rows for simp: what is wanted of the core language, read off -/
namespace Rf
open PySem L2
section
variable {Γ : Tab} {ρ : Rho} {μ : M} {Q : WQ} {i j : Int} {x y d : D}
@[simp] theorem r_getV0 {o : Option D} : getV (o :: ρ) 0 = o := by cases o <;> rfl
@[simp] theorem r_getVs {o : Option D} {n : Nat} : getV (o :: ρ) (n + 1) = getV ρ n := rfl
@[simp] theorem r_opI {C : Int → Int → Prop} {g : Int → Int → Int} : Rf.opI C g (.int i) (.int j) μ Q = (C i j ∧ Q (.int (g i j)) μ) := rfl
@[simp] theorem r_addI : opAdd (.int i) (.int j) μ Q = Q (.int (i + j)) μ := rfl
@[simp] theorem r_addS {a b : Str} : opAdd (.str a) (.str b) μ Q = (a.length + b.length ≤ sizeLine ∧ Q (.str (a ++ b)) μ) := rfl
@[simp] theorem r_addT {a b : List D} : opAdd (.tup a) (.tup b) μ Q = (a ≠ [] ∧ a.length + b.length ≤ sizeLine ∧ Q (.tup (a ++ b)) μ) := rfl
@[simp] theorem r_addL {a b : List D} : opAdd (.lst a) (.lst b) μ Q = newL (a ++ b) μ Q := by
  show (∃ xs ys, asL μ (.lst a) = some xs ∧ asL μ (.lst b) = some ys ∧ newL (xs ++ ys) μ Q) = _
  simp [asL]
@[simp] theorem r_add : opBin .Add = opAdd := rfl
@[simp] theorem r_sub : opBin .Sub (.int i) (.int j) μ Q = Q (.int (i - j)) μ := by
  show (True ∧ _) = _
  simp
@[simp] theorem r_mul : opBin .Mult (.int i) (.int j) μ Q = ((CMul i j ∨ CMulW i j) ∧ Q (.int (i * j)) μ) := rfl
@[simp] theorem r_fdiv : opBin .FloorDiv (.int i) (.int j) μ Q = (CDivW i j ∧ Q (.int (i / j)) μ) := rfl
@[simp] theorem r_mod : opBin .Mod (.int i) (.int j) μ Q = (0 < j ∧ Q (.int (i % j)) μ) := rfl
@[simp] theorem r_pow : opBin .Pow (.int i) (.int j) μ Q = ((CPow i j ∨ CPowW i j) ∧ Q (.int (i ^ j.toNat)) μ) := rfl
@[simp] theorem r_gcd : opBlt .gcd [.int i, .int j] μ Q = Q (.int ((Nat.gcd i.natAbs j.natAbs : Nat) : Int)) μ := rfl
@[simp] theorem r_abs : opBlt .abs [.int i] μ Q = Q (.int (if i < 0 then -i else i)) μ := rfl
@[simp] theorem r_int : opBlt .int [.int i] μ Q = Q (.int i) μ := rfl
@[simp] theorem r_intB {b : Bool} : opBlt .int [.bl b] μ Q = Q (.int (if b then 1 else 0)) μ := rfl
@[simp] theorem r_isi {t : D} : opBlt .isi [x, t] μ Q = (match isiD μ x t with | some b => Q (.bl b) μ | none => False) := by cases x <;> cases t <;> rfl
@[simp] theorem r_len : opBlt .len [x] μ Q = (match lenD μ x with | some n => Q (.int n) μ | none => False) := by cases x <;> rfl
@[simp] theorem r_all : opBlt .all [x] μ Q = (match (asL μ x).bind blsD with | some bs => Q (.bl (bs.all id)) μ | none => False) := by cases x <;> rfl
@[simp] theorem r_any : opBlt .any [x] μ Q = (match (asL μ x).bind blsD with | some bs => Q (.bl (bs.any id)) μ | none => False) := by cases x <;> rfl
@[simp] theorem r_list : opBlt .list [x] μ Q = (match asSq μ x with | some xs => newL xs μ Q | none => False) := by cases x <;> rfl
@[simp] theorem r_tupleT {xs : List D} : opBlt .tuple [.tup xs] μ Q = Q (.tup xs) μ := rfl
@[simp] theorem r_tupleL {xs : List D} : opBlt .tuple [.lst xs] μ Q = Q (.tup xs) μ := rfl
@[simp] theorem r_tupleC {n : Nat} : opBlt .tuple [.cel n] μ Q = (match asR μ (.cel n) with | some xs => Q (.tup xs) μ | none => False) := rfl
@[simp] theorem r_max : opBlt .max2 [.int i, .int j] μ Q = Q (.int (if j > i then j else i)) μ := rfl
@[simp] theorem r_min : opBlt .min2 [.int i, .int j] μ Q = Q (.int (if j < i then j else i)) μ := rfl
@[simp] theorem r_cmpI {g : Int → Int → Bool} : cmpI g (.int i) (.int j) = some (g i j) := rfl
@[simp] theorem r_isN : isD x .non = some (match x with | .non => true | _ => false) := rfl
@[simp] theorem r_isB {a b : Bool} : isD (.bl a) (.bl b) = some (decide (a = b)) := rfl
@[simp] theorem r_asL {xs : List D} : asL μ (.lst xs) = some xs := rfl
@[simp] theorem r_asLs {n : Nat} {xs : List D} (h : μ[n]? = some (.lst xs)) : asL μ (.cel n) = some xs := by simp [asL, h]
@[simp] theorem r_asR {xs : List D} : asR μ (.scr xs) = some xs := rfl
@[simp] theorem r_asRl {xs : List D} : asR μ (.lst xs) = some xs := rfl
@[simp] theorem r_asSq {xs : List D} : asSq μ (.tup xs) = some xs := rfl
@[simp] theorem r_asSql {xs : List D} : asSq μ (.lst xs) = some xs := rfl
@[simp] theorem r_asSqs {xs : List D} : asSq μ (.scr xs) = some xs := rfl
@[simp] theorem r_idxT {xs : List D} : opIdx (.tup xs) y μ Q = opIxSq (.tup xs) y μ Q := rfl
@[simp] theorem r_idxL {xs : List D} : opIdx (.lst xs) y μ Q = opIxSq (.lst xs) y μ Q := rfl
@[simp] theorem r_idxS {xs : List D} : opIdx (.scr xs) y μ Q = opIxSq (.scr xs) y μ Q := rfl
@[simp] theorem r_ixT {xs : List D} : opIxSq (.tup xs) (.int i) μ Q = (match atI xs i with | some d => Q d μ | none => False) := rfl
@[simp] theorem r_ixL {xs : List D} : opIxSq (.lst xs) (.int i) μ Q = (match atI xs i with | some d => Q d μ | none => False) := rfl
@[simp] theorem r_ixS {xs : List D} : opIxSq (.scr xs) (.int i) μ Q = (match atI xs i with | some d => Q d μ | none => False) := rfl
theorem at_nat {xs : List D} {n : Nat} (h : n < xs.length) : atI xs (n : Int) = some xs[n] := atI_nat (List.getElem?_eq_getElem h)
@[simp] theorem r_at0 {xs : List D} : atI (x :: xs) 0 = some x := by
  have := at_nat (xs := x :: xs) (n := 0) (by simp)
  simpa using this
@[simp] theorem r_at1 {z : D} {xs : List D} : atI (x :: z :: xs) 1 = some z := by
  have := at_nat (xs := x :: z :: xs) (n := 1) (by simp)
  simpa using this
@[simp] theorem r_at2 {z w : D} {xs : List D} : atI (x :: z :: w :: xs) 2 = some w := by
  have := at_nat (xs := x :: z :: w :: xs) (n := 2) (by simp)
  simpa using this
@[simp] theorem r_at3 {z w v : D} {xs : List D} : atI (x :: z :: w :: v :: xs) 3 = some v := by
  have := at_nat (xs := x :: z :: w :: v :: xs) (n := 3) (by simp)
  simpa using this
@[simp] theorem r_lenT {xs : List D} : lenD μ (.tup xs) = some xs.length := rfl
@[simp] theorem r_lenL {xs : List D} : lenD μ (.lst xs) = some xs.length := rfl
@[simp] theorem r_lenS {xs : List D} : lenD μ (.scr xs) = some xs.length := rfl
@[simp] theorem r_line : (2 ≤ sizeLine) = True := by simp [sizeLine_eq]
theorem line_le {n : Nat} (h : n ≤ 100000) : n ≤ sizeLine := Nat.le_trans h (by decide)
theorem line_lt {n : Nat} (h : n < 100000) : n < sizeLine := Nat.lt_of_lt_of_le h (by decide)
@[simp] theorem r_truB {b : Bool} : truD μ (.bl b) = some b := rfl
@[simp] theorem r_truI : truD μ (.int i) = some (i != 0) := rfl
theorem kits : ∀ a ∈ (["NoneType", "bool", "int", "str", "tuple", "list", "dict"] : List String), ∀ b ∈ (["bool", "int", "str", "tuple", "list", "dict"] : List String), kitB a b = some (a == b || (a == "bool" && b == "int")) := by decide +kernel
@[simp] theorem r_isiI {a : String} : isiD μ x (.ty a) = (match tyD μ x with | some b => kitB b a | none => none) := rfl
@[simp] theorem r_ty0 : tyD μ .non = some "NoneType" := rfl
@[simp] theorem r_ty1 {b : Bool} : tyD μ (.bl b) = some "bool" := rfl
@[simp] theorem r_ty2 : tyD μ (.int i) = some "int" := rfl
@[simp] theorem r_ty3 {s : Str} : tyD μ (.str s) = some "str" := rfl
@[simp] theorem r_ty4 {xs : List D} : tyD μ (.tup xs) = some "tuple" := rfl
@[simp] theorem r_ty5 {xs : List D} : tyD μ (.lst xs) = some "list" := rfl
theorem kit_r {a b : String} {k : Bool} (ha : a ∈ (["NoneType", "bool", "int", "str", "tuple", "list", "dict"] : List String)) (hb : b ∈ (["bool", "int", "str", "tuple", "list", "dict"] : List String)) (h : (a == b || (a == "bool" && b == "int")) = k) : kitB a b = some k := by
  rw [kits a ha b hb, h]
@[simp] theorem k11 : kitB "NoneType" "bool" = some false := kit_r (by decide) (by decide) (by decide)
@[simp] theorem k12 : kitB "NoneType" "int" = some false := kit_r (by decide) (by decide) (by decide)
@[simp] theorem k13 : kitB "NoneType" "str" = some false := kit_r (by decide) (by decide) (by decide)
@[simp] theorem k14 : kitB "NoneType" "tuple" = some false := kit_r (by decide) (by decide) (by decide)
@[simp] theorem k15 : kitB "NoneType" "list" = some false := kit_r (by decide) (by decide) (by decide)
@[simp] theorem k21 : kitB "bool" "bool" = some true := kit_r (by decide) (by decide) (by decide)
@[simp] theorem k22 : kitB "bool" "int" = some true := kit_r (by decide) (by decide) (by decide)
@[simp] theorem k23 : kitB "bool" "str" = some false := kit_r (by decide) (by decide) (by decide)
@[simp] theorem k24 : kitB "bool" "tuple" = some false := kit_r (by decide) (by decide) (by decide)
@[simp] theorem k25 : kitB "bool" "list" = some false := kit_r (by decide) (by decide) (by decide)
@[simp] theorem k31 : kitB "int" "bool" = some false := kit_r (by decide) (by decide) (by decide)
@[simp] theorem k32 : kitB "int" "int" = some true := kit_r (by decide) (by decide) (by decide)
@[simp] theorem k33 : kitB "int" "str" = some false := kit_r (by decide) (by decide) (by decide)
@[simp] theorem k34 : kitB "int" "tuple" = some false := kit_r (by decide) (by decide) (by decide)
@[simp] theorem k35 : kitB "int" "list" = some false := kit_r (by decide) (by decide) (by decide)
@[simp] theorem k41 : kitB "str" "bool" = some false := kit_r (by decide) (by decide) (by decide)
@[simp] theorem k42 : kitB "str" "int" = some false := kit_r (by decide) (by decide) (by decide)
@[simp] theorem k43 : kitB "str" "str" = some true := kit_r (by decide) (by decide) (by decide)
@[simp] theorem k44 : kitB "str" "tuple" = some false := kit_r (by decide) (by decide) (by decide)
@[simp] theorem k45 : kitB "str" "list" = some false := kit_r (by decide) (by decide) (by decide)
@[simp] theorem k51 : kitB "tuple" "bool" = some false := kit_r (by decide) (by decide) (by decide)
@[simp] theorem k52 : kitB "tuple" "int" = some false := kit_r (by decide) (by decide) (by decide)
@[simp] theorem k53 : kitB "tuple" "str" = some false := kit_r (by decide) (by decide) (by decide)
@[simp] theorem k54 : kitB "tuple" "tuple" = some true := kit_r (by decide) (by decide) (by decide)
@[simp] theorem k55 : kitB "tuple" "list" = some false := kit_r (by decide) (by decide) (by decide)
@[simp] theorem k61 : kitB "list" "bool" = some false := kit_r (by decide) (by decide) (by decide)
@[simp] theorem k62 : kitB "list" "int" = some false := kit_r (by decide) (by decide) (by decide)
@[simp] theorem k63 : kitB "list" "str" = some false := kit_r (by decide) (by decide) (by decide)
@[simp] theorem k64 : kitB "list" "tuple" = some false := kit_r (by decide) (by decide) (by decide)
@[simp] theorem k65 : kitB "list" "list" = some true := kit_r (by decide) (by decide) (by decide)
/-- a value leaves as it is -/
theorem rt_here {μ0 : M} (h : Q d μ) : rtD μ0 Q d μ := .inl h
end
end Rf

set_option Elab.async false
set_option linter.all false
set_option maxRecDepth 100000
/-! Rf13: more rows for simp: ==, dictionaries, comprehensions -/
namespace Rf
open PySem L2
section
variable {Γ : Tab} {ρ : Rho} {μ : M} {Q : WQ} {i j : Int} {x y d : D}
theorem shaped_i : SeqAt.shaped (.int i) = true := by simp [SeqAt.shaped, PyData.canLay0, PyData.depth]
theorem shaped_b {b : Bool} : SeqAt.shaped (.bool b) = true := by simp [SeqAt.shaped, PyData.canLay0, PyData.depth]
@[simp] theorem q_ii : eqD μ (.int i) (.int j) = some (decide (i = j)) := by
  simp only [eqD, eqP, toPm, toP, shaped_i, Bool.and_self, if_true, PyData.eqv]
  by_cases h : i = j <;> simp [h]
@[simp] theorem q_bb {a b : Bool} : eqD μ (.bl a) (.bl b) = some (a == b) := by
  simp only [eqD, eqP, toPm, toP, shaped_b, Bool.and_self, if_true, PyData.eqv]
@[simp] theorem q_ss {a b : Str} : eqD μ (.str a) (.str b) = some (decide (a = b)) := rfl
theorem q_t2 {a b c e : Int} : eqD μ (.tup [.int a, .int b]) (.tup [.int c, .int e]) = some (decide (a = c ∧ b = e)) := by
  have h : ∀ p q : Int, SeqAt.shaped (.tuple [.int p, .int q]) = true := fun p q => by simp [SeqAt.shaped, PyData.canLay0, PyData.canLayAll0, PyData.depth, PyData.depthAll]
  simp only [eqD, eqP, toPm, toP, toPs, Option.map_some, h, Bool.and_self, if_true, PyData.eqv, PyData.eqvAll, Bool.and_true]
  by_cases h1 : a = c <;> by_cases h2 : b = e <;> simp [h1, h2]
@[simp] theorem r_dct {n : Nat} {kvs : List (Key × D)} {k : Str} (h : μ[n]? = some (.dK kvs)) : opIdx (.cel n) (.str k) μ Q = (match dget kvs (.inr k) with | some d => Q d μ | none => False) := by
  simp only [opIdx, h, keyD] <;> (cases dget kvs (.inr k) <;> rfl)
theorem r_put {n : Nat} {kvs : List (Key × D)} {k : Str} {P : M → Prop} (h : μ[n]? = some (.dK kvs)) : opPut (.cel n) (.str k) d μ P = (kvs.length < sizeLine ∧ P (μ.set n (.dK (dput kvs (.inr k) d)))) := by
  simp only [opPut, h, keyD]
theorem wS1 {s : CS} {r : CSs} {E : DEnds} : wSs Γ (.cons s r) E ρ μ = wS Γ s { E with nx := fun ρ1 μ1 => wSs Γ r E ρ1 μ1 } ρ μ := rfl
@[simp] theorem wS0 {E : DEnds} : wSs Γ .nil E ρ μ = E.nx ρ μ := rfl
theorem set_val {e : CE} {n : Nat} {E : DEnds} (d : D) (h1 : ∀ P : WQ, P d μ → wE Γ e ρ μ P) (h2 : E.nx (ρ.set n (some d)) μ) : wS Γ (.set n e) E ρ μ := h1 _ h2
@[simp] theorem r_slcS {xs : List D} {lo hi : Option Int} : opSlc (.scr xs) lo hi μ Q = newL (cutD xs lo hi) μ Q := by simp only [opSlc, asR]
@[simp] theorem r_slcL {xs : List D} {lo hi : Option Int} : opSlc (.lst xs) lo hi μ Q = newL (cutD xs lo hi) μ Q := by simp only [opSlc, asR, asL]
@[simp] theorem r_slcT {xs : List D} {lo hi : Option Int} : opSlc (.tup xs) lo hi μ Q = (¬ (HT.sIx xs.length 0 lo = 0 ∧ HT.sIx xs.length xs.length hi = xs.length) ∧ Q (.tup (cutD xs lo hi)) μ) := rfl
theorem iff_val {c : CE} {a b : CSs} {E : DEnds} (v : Bool) (h1 : ∀ P : Bool → M → Prop, P v μ → wT Γ c ρ μ P) (h2 : if v = true then wSs Γ a E ρ μ else wSs Γ b E ρ μ) : wS Γ (.iff c a b) E ρ μ := h1 _ h2
theorem set_post {e : CE} {n : Nat} {E : DEnds} (R : D → M → Prop) (h1 : ∀ P : WQ, (∀ d μ', R d μ' → P d μ') → wE Γ e ρ μ P) (h2 : ∀ d μ', R d μ' → E.nx (ρ.set n (some d)) μ') : wS Γ (.set n e) E ρ μ := h1 _ h2
theorem iff_any {c : CE} {a b : CSs} {E : DEnds} (h1 : ∀ P : Bool → M → Prop, (∀ v, P v μ) → wT Γ c ρ μ P) (ha : wSs Γ a E ρ μ) (hb : wSs Γ b E ρ μ) : wS Γ (.iff c a b) E ρ μ := h1 _ fun v => by cases v <;> simp [ha, hb]
/-- .. by what it is alone -/
theorem set_val' {e : CE} {n : Nat} {E : DEnds} (R : D → Prop) (h1 : ∀ P : WQ, (∀ d, R d → P d μ) → wE Γ e ρ μ P) (h2 : ∀ d, R d → E.nx (ρ.set n (some d)) μ) : wS Γ (.set n e) E ρ μ := h1 _ h2
/-- a comprehension that leaves the state alone -/
theorem lc_pure {tg : CT} {elt : WE} {own : List Nat} {s : Src} (hs : s.ok μ) (hl : s.items.length ≤ sizeLine) (f : D → D)
    (h : ∀ (i : Nat) x, s.items[i]? = some x → ∃ ρ2, bindT μ tg x (wipeD ρ own) = some ρ2 ∧ ∀ P : WQ, P (f x) μ → elt ρ2 μ P)
    (hq : newL (s.items.map f) μ Q) : wLc tg (wF Γ .nil) elt own s ρ μ Q := by
  refine ⟨fun i acc μ' => acc = (s.items.take i).map f ∧ μ' = μ, ⟨by simp, rfl⟩, fun i acc μ' h _ => h.2 ▸ hs, ?_, ?_⟩
  · rintro i x acc μ' hx ⟨rfl, rfl⟩
    have hi : i < s.items.length := (List.getElem?_eq_some_iff.mp hx).1
    obtain ⟨ρ2, hb, hh⟩ := h i x hx
    refine ⟨ρ2, hb, ?_⟩
    simp only [wF, if_true]
    refine hh _ ⟨by simp; omega, ?_, rfl⟩
    rw [List.take_add_one, hx]
    simp
  · rintro acc μ' ⟨rfl, rfl⟩
    simpa using hq
/-- a comprehension that picks and leaves the state alone -/
theorem lc_pick {tg : CT} {ifs : WT} {elt : WE} {own : List Nat} {s : Src} (hs : s.ok μ) (hl : s.items.length ≤ sizeLine) (g : D → Bool) (f : D → D)
    (h : ∀ (i : Nat) x, s.items[i]? = some x → ∃ ρ2, bindT μ tg x (wipeD ρ own) = some ρ2 ∧ (∀ P : Bool → M → Prop, P (g x) μ → ifs ρ2 μ P) ∧ (g x = true → ∀ P : WQ, P (f x) μ → elt ρ2 μ P))
    (hq : newL ((s.items.filter g).map f) μ Q) : wLc tg ifs elt own s ρ μ Q := by
  refine ⟨fun i acc μ' => acc = ((s.items.take i).filter g).map f ∧ μ' = μ, ⟨by simp, rfl⟩, fun i acc μ' h _ => h.2 ▸ hs, ?_, ?_⟩
  · rintro i x acc μ' hx ⟨rfl, rfl⟩
    have hi : i < s.items.length := (List.getElem?_eq_some_iff.mp hx).1
    obtain ⟨ρ2, hb, h1, h2⟩ := h i x hx
    refine ⟨ρ2, hb, h1 _ ?_⟩
    have e : s.items.take (i + 1) = s.items.take i ++ [x] := by rw [List.take_add_one, hx]; rfl
    by_cases hg : g x = true
    · rw [if_pos hg]
      refine h2 hg _ ⟨?_, ?_, rfl⟩
      · have := List.length_filter_le g (s.items.take i)
        simp at this ⊢
        omega
      · rw [e, List.filter_append, List.map_append]
        simp [hg]
    · rw [if_neg hg]
      refine ⟨?_, rfl⟩
      rw [e, List.filter_append, List.map_append]
      simp [hg]
  · rintro acc μ' ⟨rfl, rfl⟩
    simpa using hq
theorem r_rangeD {lo : Int} {n i : Nat} {x : D} (h : (rangeD lo n)[i]? = some x) : i < n ∧ x = .int (lo + i) := by
  simp only [rangeD, List.getElem?_map, Option.map_eq_some_iff] at h
  obtain ⟨a, ha, rfl⟩ := h
  have := List.getElem?_eq_some_iff.mp ha
  obtain ⟨h1, h2⟩ := this
  simp at h1 h2
  exact ⟨h1, by rw [h2]⟩
@[simp] theorem r_rangeL {lo : Int} {n : Nat} : (rangeD lo n).length = n := by simp [rangeD]
theorem new_l {xs : List D} (hl : xs.length ≤ sizeLine) (h : Q (.lst xs) μ) : newL xs μ Q := ⟨hl, .inl h⟩
theorem new_c {xs : List D} (hl : xs.length ≤ sizeLine) (h : Q (.cel μ.length) (μ ++ [.lst xs])) : newL xs μ Q := ⟨hl, .inr h⟩
end
end Rf

set_option Elab.async false
set_option linter.all false
set_option maxRecDepth 100000
/-! Rf14: the law's own def, called from the claim: there nothing is being shown (repr may be called) -/
namespace Rf
open PySem L2 PySem.Spec PyProof.Rows
variable {P : Program} {w : World} {K : PySem.W.Frag} {mg mb : Str → Option Value}
/-- what a def promises where it is called from A -/
def RunIn (P : Program) (w : World) (K : PySem.W.Frag) (mg : Str → Option Value) (base : Heap) (A : Around) (f : Addr) (fd : FuncData) (ps : List Str) (sp : Sp) : Prop :=
  ∀ (outer : List Env) (s : Shared) (H : Hp) (args : Args) (us : List Value) (vs : List V) (Q : VK) (E : XK), Env0 P w K mg base A outer s H → BindsTo s fd args (ps.zip us) → Vals vs us → sp vs H Q E →
    codeAny (model P w) A (.call (.ref f) args) (CR CX0 outer P w H s Q E) s
theorem run_in {base : Heap} {A : Around} {k : Nat} {f : Addr} {name qual : Str} {params : Arguments} {body : List Stmt} {scope : Scope} {dV kV doc pm cdv ct oc : Value} {an od : Option Addr}
    {osl : Array (Option Value)} {N ps : List Str} {sp : Sp} (fk : K.lookup f = some ⟨oc, od, .func (PySem.W.fnOf name qual params body scope dV kV doc pm an cdv ct), osl⟩) (fcd : PySem.W.codeIn K cdv qual = true) (FS : FnScope N ps scope) (rA : Room (k + 1) A)
    (flen : ∀ vs H Q E, sp vs H Q E → vs.length = ps.length)
    (bd : ∀ (outer : List Env) (s : Shared) (H : Hp) (vs : List V) (Q : VK) (E : XK), sp vs H Q E →
      ∃ t, PSs (cxOf CX0 P w K mg base N qual scope f cdv A outer s H E) body t ∧ t { nx := fun _ H' => Q .non H', rt := Q } (start N vs) H) :
    RunIn P w K mg base A f (PySem.W.fnOf name qual params body scope dV kV doc pm an cdv ct) ps sp := by
  intro outer s H args us vs Q E z0 zb zr zsp
  have zl := flen _ _ _ _ zsp
  have inK : K.In s.heap := z0.mod.kin.keeps fun b o e => (z0.bs b o e).1
  have noL : s.heap.NoLimit := z0.mod.nolimit.keeps fun b o e => (z0.bs b o e).1
  have kinds : ∀ y ∈ ps.zip us, scope.names.lookup y.1 = some .local ∨ (scope.names.lookup y.1 = some .cell ∧ ((cellsFrom (s.heap.objs.size + 1) scope.names []).lookup y.1).isSome = true) := fun ⟨pn, pv⟩ py => by
    rcases FS.par pn (List.of_mem_zip py).1 with q | q
    · exact (.inl q)
    · exact (.inr ⟨q, PySem.W.cellsFrom_some _ _ _ (.inl q)⟩)
  refine codeAny_call_function rA.depth (inK _ _ fk) rfl FS.co FS.gen rfl (PySem.W.codeRec_of inK fcd) (zb _ _ _ _ ?_)
  refine wpAny_newFunctionEnv_cells FS.kind kinds fun env henv s1 x1 => ?_
  subst henv
  refine ⟨noL.keeps x1.toInCall.keep, codeAny_func ?_⟩
  obtain ⟨t, ht, hq⟩ := bd outer s H vs Q E zsp
  have J : Inv (cxOf CX0 P w K mg base N qual scope f cdv A outer s H E) [] (start N vs) H s1 := inv_start FS rA.hd z0 zl zr x1
  refine wpAny_mono (ht.run [] s1 (start N vs) H _ J hq) (fun fl s' res => ?_) fun e s' res => res
  have out : ∀ {σ' : L2.St} {H' : Hp} {v : V} {u : Value}, Inv (cxOf CX0 P w K mg base N qual scope f cdv A outer s H E) [] σ' H' s' → RelV v u → Q v H' → L2.CE outer P w H s Q u s' :=
    fun {σ' H' v u} J' rv q => ⟨v, H', J'.os, J'.bare, J'.base, J'.hok, rv, q⟩
  cases fl with
  | ret u => obtain ⟨v, σ', H', J', rv, q⟩ := res; exact out J' rv q
  | next => obtain ⟨σ', H', J', q⟩ := res; exact out (v := V.non) (u := Value.none) J' rfl q
  | brk => obtain ⟨_, _, _, q⟩ := res; exact q.elim
  | cont => obtain ⟨_, _, _, q⟩ := res; exact q.elim
/-- the claim's call -/
theorem claim_call {fa sa : Addr} {fd : FuncData} {x : Str} {sp : Sp} {st : Shared} {its : List Value} {ns : List Int}
    (inK : K.In st.heap) (nsM : st.heap.Ns mainGlobals mg) (nsB : st.heap.Ns builtinsNs mb) (nsBB : ∀ x : Str, x ≠ "__name__" → mb x = bootBuiltins x) (noL : st.heap.NoLimit) (noG : st.gens = #[])
    (sobj : st.heap.get? sa = some { cls := .type "list", data := .seq its.toArray }) (sint : IntsAre its ns) (slen : ns.length ≤ sizeLine)
    (F : ∀ base : Heap, K.In base → base.Ns mainGlobals mg → RunIn P w K mg base callerA fa fd [x] sp) (fbind : ∀ (s : Shared) (u : Value), BindsTo s fd ⟨[u], []⟩ [(x, u)])
    (begin_ : ∀ H : Hp, SqL K H sa (ns.map V.int) → sp [.ref sa] H (fun v _ => v = .bl true) fun _ _ _ => False) :
    codeAny (model P w) callerA (.call (.ref fa) ⟨[.ref sa], []⟩) (fun r s' => r = .ok (.ret (.bool true)) ∧ OldK st.heap s'.heap ∧ s'.os = st.os ∧ AllBare s'.gens) st := by
  have rels := vals_ints sint
  have lens := sint.length
  have main : ∀ H : Hp, (∀ b, H b = none ∨ ∃ ob xs, H b = some (.frz ob xs)) → SqL K H sa (ns.map V.int) → HOk P w H st.heap → (∀ b, H b ≠ none → b = sa) → (H sa ≠ none → K.lookup sa = none) →
      codeAny (model P w) callerA (.call (.ref fa) ⟨[.ref sa], []⟩) (fun r s' => r = .ok (.ret (.bool true)) ∧ OldK st.heap s'.heap ∧ s'.os = st.os ∧ AllBare s'.gens) st := by
    intro H frzn hS hok only_ free_
    have low : ∀ {b : Addr} {o : Obj}, st.heap.get? b = some o → H b = none → (hidT st.heap H).get? b = some o := fun e n => hidT_get e n
    have noD : ∀ {b : Addr} {o : Obj} {es : Array DictEntry} {ep : Nat}, st.heap.get? b = some o → o.data = .dict es ep → H b = none := fun {b o es ep} e d => by
      cases q : H b with
      | none => rfl
      | some u =>
        have eb : b = sa := only_ b (by rw [q]; simp)
        subst eb
        rw [sobj] at e
        cases e
        have dd : Data.seq its.toArray _ = Data.dict es ep := d
        cases dd
    have names : ∀ {b : Addr} {m : Str → Option Value}, st.heap.Ns b m → (hidT st.heap H).Ns b m := fun {b m} ⟨o, es, ep, e, d, r⟩ => ⟨o, es, ep, low e (noD e d), d, r⟩
    have inB : K.In (hidT st.heap H) := fun b o e => low (inK b o e) (by
      cases q : H b with
      | none => rfl
      | some u =>
        have eb : b = sa := only_ b (by rw [q]; simp)
        subst eb
        rw [free_ (by rw [q]; simp)] at e
        cases e)
    have md : Mod K mg (hidT st.heap H) := ⟨inB, names nsM, ⟨mb, names nsB, nsBB⟩, let ⟨mc, h1, h2⟩ := noL; ⟨mc, names h1, h2⟩⟩
    have z0 : Env0 P w K mg (hidT st.heap H) callerA [] st H := ⟨rfl, md, fun b o e => of_hidT e, Nat.le_of_eq (hidT_size _ _), trivial, fun b hb => absurd (show b ∈ ([] : List Addr) from hb) (by simp), hok, .of_eq noG⟩
    refine codeAny_mono ((F _ inB (names nsM)) [] st H ⟨[.ref sa], []⟩ [.ref sa] [.ref sa] _ _ z0 (fbind st (.ref sa)) (.cons rfl .nil) (begin_ H hS)) fun r s' res => ?_
    cases r with
    | error e => exact (show False from res).elim
    | ok fl =>
      cases fl with
      | ret u =>
        obtain ⟨v, H', eos, ebare, un, hok2, r2, q⟩ := res
        have q2 : v = .bl true := q
        subst q2
        obtain rfl : u = Value.bool true := r2
        refine ⟨rfl, OldK.of_keep fun b o e => ?_, eos, ebare⟩
        cases q : H b with
        | none => exact un.keep b o e q (by intro z; exact absurd (show b ∈ ([] : List Addr) from z) (by simp)) (by simp)
        | some u =>
          rcases frzn b with z | ⟨ob, xs, z⟩
          · rw [q] at z
            cases z
          · have zz := un.frzs b ob _ z
            obtain ⟨e1, _⟩ := hok b _ z
            obtain ⟨e2, _⟩ := hok2 b _ zz
            rw [e] at e1
            cases e1
            exact e2
      | _ => exact (show False from res).elim
  cases hk : K.lookup sa with
  | some o =>
    have e := inK sa o hk
    rw [sobj] at e
    cases e
    exact main (fun _ => none) (fun _ => .inl rfl) (.inr ⟨_, its.toArray, _, hk, rfl, rfl, rfl, by rw [List.size_toArray, lens]; exact slen, by simpa using rels⟩) (fun b u z => by cases (show (none : Option HO) = some u from z)) (fun b z => absurd rfl z) fun z => absurd rfl z
  | none =>
    have at_ : (fun b => if b = sa then some (HO.frz { cls := .type "list", data := .seq its.toArray } (.lst (ns.map V.int))) else none) sa = some (HO.frz { cls := .type "list", data := .seq its.toArray } (.lst (ns.map V.int))) := if_pos rfl
    refine main (fun b => if b = sa then some (.frz { cls := .type "list", data := .seq its.toArray } (.lst (ns.map V.int))) else none) (fun b => ?_) (.inl (.inr ⟨_, at_⟩)) (fun b u z => ?_) (fun b z => ?_) fun _ => hk
    · by_cases hb : b = sa
      · exact .inr ⟨_, _, if_pos hb⟩
      · exact .inl (if_neg hb)
    · by_cases hb : b = sa
      · subst hb
        cases at_.symm.trans z
        exact ⟨sobj, by rw [List.length_map]; exact slen, its, _, rels, sobj⟩
      · cases (if_neg hb).symm.trans z
    · by_cases hb : b = sa
      · exact hb
      · exact absurd (if_neg hb) z
/-- the walk of a law from its def's promise at the claim's call -/
theorem walk_claim {l : PySem.W.OpenLaw} {n : Nat} {q : Program} {loose : List Str} {XP : (Str → Option Value) → Heap → Prop} {YP : World → Heap → Prop} {d : DefRec} {K : Params → PySem.W.Frag} {sp : World → Sp} {x : Str}
    (hn : l.most = some n) (hn2 : n ≤ sizeLine) (hdf : d.params.defaults = [])
    (hY : ∀ (w : World) (h : Heap), YP w h → (K w.params).In h)
    (F : ∀ (w : World) (mg : Str → Option Value) (fa : Addr) (h : Heap), (K w.params).In h → h.Ns mainGlobals mg → mg d.name = some (.ref fa) →
      ∃ fd : FuncData, (∀ (s : Shared) (u : Value), BindsTo s fd ⟨[u], []⟩ [(x, u)]) ∧
        ∀ base : Heap, (K w.params).In base → base.Ns mainGlobals mg → RunIn l.prog w (K w.params) mg base callerA fa fd [x] (sp w))
    (hsp : ∀ (w : World) (H : Hp) (a : Addr) (ns : List Int), ns.length ≤ n → (∀ z ∈ ns, Builtin.Int.intBits z ≤ 1048576) → SqL (K w.params) H a (ns.map V.int) → sp w [.ref a] H (fun v _ => v = .bl true) fun _ _ _ => False) :
    PySem.W.WalkO q loose XP YP l.row.toRowW d [] (fun f vs => PySem.call f vs) := by
  refine Att.attach_callB hn hdf fun w s0 st mg mb fa o pm cd doc sa its ns G Y ho hd hcd hmg sobj sint slen sbits noG => ?_
  have inK := hY w _ Y
  obtain ⟨fd, fb, fF⟩ := F w mg fa _ inK G.T.g hmg
  exact claim_call inK G.T.g G.T.b G.T.builtins G.T.nolimit noG sobj sint (Nat.le_trans slen hn2) fF fb fun H hS => hsp w H sa ns slen sbits hS
/-- a law's def by its body -/
theorem law_ok {base : Heap} {k : Nat} {FN : List Str} {KW : List (Nat × Nat × List Str × List Nat)} {BN : List Str} {GC : Bool} {Γ : Tab} {S : DSpec} {d : DefI} {a : Addr} {fd : FuncData} {A : Around} (F : Fun K d.name d.name d.st a fd) (ok : d.ok FN KW BN GC true = true)
    (hA : A.guards = some []) (rA : Room (k + 1) A) (bn : ∀ n ∈ BN, mg n = none) (gc : GC = true → mg "gcd" = some (.builtin "math.gcd"))
    (fs : ∀ f x, FN[f]? = some x → ∃ (a : Addr) (fd : FuncData) (ps : List Str), mg x = some (.ref a) ∧ PySem.W.keepIn K (.ref a) = true ∧ FnOk P w K mg base CX0 k a fd ps (lift K (Γ f)) ∧ Binds K fd ps [] ∧
      ∀ n ks perm, (f, n, ks, perm) ∈ KW → KBinds K fd ps ks (permU perm n ks.length) (permV perm n ks.length))
    (len : ∀ ds μ Q, S ds μ Q → ds.length = d.ps.length) (body : ∀ ds μ Q, S ds μ Q → wDef Γ d.N.length d.ir ds μ Q) : RunIn P w K mg base A a fd d.ps (lift K S) := by
  unfold DefI.ok at ok
  rw [Bool.and_eq_true] at ok
  have sc := fnSc_ok ok.1
  obtain ⟨oc, od, kV, doc, pm, an, cdv, ct, osl, rfl, fk, fcd⟩ := F.ex
  refine run_in fk fcd sc rA (fun vs H Q E ⟨ds, μ, Z, B, Q0, hr, rs, hS, fin⟩ => by rw [← rs.length]; exact len _ _ _ hS) fun outer s H vs Q E ⟨ds, μ, Z, B, Q0, h0, rs, hS, fin⟩ => ?_
  have hl := len _ _ _ hS
  have hpN : d.ps.length ≤ d.N.length := by
    have := congrArg List.length sc.pre
    rw [List.length_take] at this
    omega
  have C : Ctx (cxOf CX0 P w K mg base d.N d.name (defScope d.st) a cdv A outer s H E).nox (d.S FN KW BN GC true) Γ k :=
    { N := rfl, nd := sc.nd, sc := rfl, calm := rfl, room := rA.deeper _, xe := rfl, bn := bn, gc := gc, gd := fun _ => hA, fn := fun _ _ => .inl rfl, fs := fun f x h => ⟨fs f x h⟩ }
  refine ⟨_, (sndSs d.ir _ _ _ C sc.kind ok.2).nox, startD d.N.length ds, μ, Z, B, _, ⟨h0, start_rr rs d.N (by omega)⟩, body ds μ Q0 hS, ?_, ?_, ?_, ?_⟩
  · intro ρ' μ' σ' H' Z' l hs q
    exact rt_fin h0 fin _ _ _ _ _ l hs.1 .non q
  · intro ρ' μ' σ' H' Z' l hs q
    exact q.elim
  · intro ρ' μ' σ' H' Z' l hs q
    exact q.elim
  · exact rt_fin h0 fin
end Rf

set_option Elab.async false
set_option linter.all false
set_option maxRecDepth 100000
/-! Rf15: rows for simp: lists in cells; texts -/
namespace Rf
open PySem L2
section
variable {Γ : Tab} {ρ : Rho} {μ : M} {Q : WQ} {i j : Int} {x y d : D} {n : Nat} {xs : List D} {P : M → Prop}
theorem c_get (h : n < μ.length) {c : CO} : (μ.set n c)[n]? = some c := List.getElem?_set_self h
@[simp] theorem c_idx (h : n < μ.length) : opIdx (.cel n) (.int i) (μ.set n (.lst xs)) Q = (match atI xs i with | some d => Q d (μ.set n (.lst xs)) | none => False) := by
  simp only [opIdx, c_get h] <;> (cases atI xs i <;> rfl)
@[simp] theorem c_put (h : n < μ.length) : opPut (.cel n) (.int i) d (μ.set n (.lst xs)) P = (match ixN xs.length i with | some j => P (μ.set n (.lst (xs.set j d))) | none => False) := by
  simp only [opPut, c_get h, List.set_set] <;> (cases ixN xs.length i <;> rfl)
@[simp] theorem ix30 : ixN 3 0 = some 0 := rfl
@[simp] theorem ix31 : ixN 3 1 = some 1 := rfl
@[simp] theorem ix32 : ixN 3 2 = some 2 := rfl
@[simp] theorem r_strI : opBlt .str [.int i] μ Q = (i.natAbs.log2 < 1920 ∧ Q (.str (toString i)) μ) := rfl
@[simp] theorem r_strS {a : Str} : opBlt .str [.str a] μ Q = Q (.str a) μ := rfl
@[simp] theorem r_join {a : Str} : opMth .join (.str a) [d] μ Q = (match (asSq μ d).bind strsD with | some ys => (ys.map (·.length)).sum + ys.length * a.length ≤ 16777216 ∧ Q (.str (Txt.join a ys)) μ | none => False) := rfl
@[simp] theorem r_mokJ {a : Str} : mOkM .join μ (.str a) = true := rfl
theorem strsD_map : ∀ ys : List Str, strsD (ys.map .str) = some ys
  | [] => rfl
  | y :: ys => by
    show strsD (D.str y :: ys.map .str) = _
    simp only [strsD, strsD_map ys]; rfl
theorem intsD_map : ∀ ys : List Int, intsD (ys.map .int) = some ys
  | [] => rfl
  | y :: ys => by
    show intsD (D.int y :: ys.map .int) = _
    simp only [intsD, intsD_map ys]; rfl
/-! the last cell -/
theorem e_at {c : CO} : (μ ++ [c])[μ.length]? = some c := by simp
@[simp] theorem e_app : opMth .append (.cel μ.length) [d] (μ ++ [.lst xs]) Q = (xs.length < sizeLine ∧ Q .non (μ ++ [.lst (xs ++ [d])])) := by
  simp only [opMth, e_at] <;> simp
@[simp] theorem e_mok : mOkM .append (μ ++ [.lst xs]) (.cel μ.length) = true := by simp [mOkM, mOk]
@[simp] theorem e_mok2 : mOkM .extend (μ ++ [.lst xs]) (.cel μ.length) = true := by simp [mOkM, mOk]
@[simp] theorem e_asL : asL (μ ++ [.lst xs]) (.cel μ.length) = some xs := by simp [asL]
@[simp] theorem e_asR : asR (μ ++ [.lst xs]) (.cel μ.length) = some xs := by simp [asR, asL]
@[simp] theorem e_asSq : asSq (μ ++ [.lst xs]) (.cel μ.length) = some xs := by simp [asSq, asR, asL]
@[simp] theorem e_idx' : opIdx (.cel μ.length) (.int i) (μ ++ [.lst xs]) Q = (match atI xs i with | some d => Q d (μ ++ [.lst xs]) | none => False) := by
  simp only [opIdx, e_at] <;> (cases atI xs i <;> rfl)
@[simp] theorem e_put' : opPut (.cel μ.length) (.int i) d (μ ++ [.lst xs]) P = (match ixN xs.length i with | some j => P (μ ++ [.lst (xs.set j d)]) | none => False) := by
  simp only [opPut, e_at] <;> (cases ixN xs.length i <;> simp)
@[simp] theorem e_ext {ys : List D} : opMth .extend (.cel μ.length) [.lst ys] (μ ++ [.lst xs]) Q = (xs.length + ys.length ≤ sizeLine ∧ Q .non (μ ++ [.lst (xs ++ ys)])) := by
  simp only [opMth, e_at, asL] <;> simp
theorem r_addC {y : D} : opAdd (.cel n) y μ Q = (∃ xs ys, asL μ (.cel n) = some xs ∧ asL μ y = some ys ∧ newL (xs ++ ys) μ Q) := rfl
theorem toPs_strs : ∀ ts : List Str, toPs (ts.map .str) = some (ts.map PyData.str)
  | [] => rfl
  | t :: ts => by
    show toPs (D.str t :: ts.map .str) = _
    simp only [toPs, toP, toPs_strs ts]; rfl
theorem shaped_strs {ts : List Str} (h : ∀ t ∈ ts, PyData.strOk t = true) : SeqAt.shaped (.list (ts.map PyData.str)) = true := by
  have a : ∀ ts : List Str, (∀ t ∈ ts, PyData.strOk t = true) → PyData.canLayAll0 (ts.map PyData.str) = true ∧ PyData.depthAll (ts.map PyData.str) = 0 := by
    intro ts
    induction ts with
    | nil => intro _; exact ⟨by simp [PyData.canLayAll0], by simp [PyData.depthAll]⟩
    | cons t ts ih =>
      intro h
      obtain ⟨i1, i2⟩ := ih fun x hx => h x (List.mem_cons_of_mem _ hx)
      exact ⟨by simp [PyData.canLayAll0, PyData.canLay0, h t (by simp), i1], by simp [PyData.depthAll, PyData.depth, i2]⟩
  obtain ⟨i1, i2⟩ := a ts h
  simp [SeqAt.shaped, PyData.canLay0, PyData.depth, i1, i2]
theorem e_eqnil {ts : List Str} (h : ∀ t ∈ ts, PyData.strOk t = true) : eqD (μ ++ [.lst (ts.map .str)]) (.cel μ.length) (.lst []) = some ts.isEmpty := by
  have h1 : SeqAt.shaped (.list []) = true := by simp [SeqAt.shaped, PyData.canLay0, PyData.canLayAll0, PyData.depth, PyData.depthAll]
  simp only [eqD, eqP, toPm, e_at, toPs_strs, Option.map_some, toP, toPs, shaped_strs h, h1, Bool.and_self, if_true]
  cases ts <;> simp [PyData.eqv, PyData.eqvAll]
/-- a text, a number leaves a def that has cells of its own -/
theorem rt_cut {ν : M} (hd : d.frz μ.length (μ ++ ν) = some d) (h : Q d μ) : rtD μ Q d (μ ++ ν) := by
  refine .inr ⟨d, hd, fun i c hi e => .inl ?_, ?_⟩
  · rwa [List.getElem?_append_left hi] at e
  · rw [List.take_left']
    · exact h
    · rfl
/-! texts -/
/-- no longer than that, and of letters -/
def Tx (n : Nat) (s : Str) : Prop := s.length ≤ n ∧ PyData.strOk s = true
theorem Tx.mono {n m : Nat} {s : Str} (h : Tx n s) (l : n ≤ m) : Tx m s := ⟨Nat.le_trans h.1 l, h.2⟩
theorem Tx.append {n m : Nat} {s t : Str} (h : Tx n s) (k : Tx m t) : Tx (n + m) (s ++ t) := ⟨by rw [Str.length_append]; exact Nat.add_le_add h.1 k.1, by
  have h2 := h.2
  have k2 := k.2
  unfold PyData.strOk at *
  rw [Str.cps_append, Array.all_append, h2, k2]; rfl⟩
theorem ofS_ok (s : String) : PyData.strOk (Str.ofString s) = true := by
  unfold PyData.strOk
  rw [← Array.all_toList, signs_of s]
  rw [List.all_map, List.all_eq_true]
  intro c _
  have := c.valid
  show decide (c.toNat < 0x110000) = true
  rw [decide_eq_true_eq]
  rcases this with h | h
  · exact Nat.lt_trans h (by decide)
  · exact h.2
where signs_of (s : String) : (Str.ofString s).cps.toList = s.toList.map Char.toNat := PyProof.Rows.signs_ofString s
theorem tx_int {n : Nat} {i : Int} (hn : 0 < n) (h : i.natAbs < 2 ^ n) : Tx (n + 1) (toString i : Str) := by
  refine ⟨?_, ofS_ok _⟩
  have := int_text_length_le (a := i) hn (by
    by_cases h0 : i.natAbs = 0
    · rw [h0]; exact hn
    · exact (Nat.log2_lt h0).mpr h)
  rw [ofString_length]
  exact this
theorem log_lt {n : Nat} {i : Int} (hn : 0 < n) (h : i.natAbs < 2 ^ n) (h2 : n ≤ 1920) : i.natAbs.log2 < 1920 := by
  by_cases h0 : i.natAbs = 0
  · rw [h0]; decide
  · exact Nat.lt_of_lt_of_le ((Nat.log2_lt h0).mpr h) h2
theorem tx_join {sep : Str} {n m : Nat} (hs : Tx m sep) : ∀ {ts : List Str}, (∀ t ∈ ts, Tx n t) → Tx (ts.length * (n + m)) (Txt.join sep ts) := by
  intro ts h
  show Tx _ (Builtin.Str.glued sep ts)
  rw [StrLaws.glued_eq_join]
  induction ts with
  | nil => exact ⟨Nat.le_of_eq (by simp; rfl), by show PyData.strOk Str.empty = true; decide +kernel⟩
  | cons t ts ih =>
    cases ts with
    | nil =>
      show Tx _ t
      exact (h t (by simp)).mono (by simp)
    | cons u us =>
      have ih := ih (fun x hx => h x (List.mem_cons_of_mem _ hx))
      show Tx _ (t ++ sep ++ Str.join sep (u :: us))
      refine ((h t (by simp)).append hs |>.append ih).mono ?_
      simp only [List.length_cons]
      rw [Nat.add_mul (us.length + 1) 1]
      omega
theorem join_sum {sep : Str} {n m N : Nat} (hs : Tx m sep) : ∀ {ts : List Str}, (∀ t ∈ ts, Tx n t) → ts.length ≤ N → (ts.map (·.length)).sum + ts.length * sep.length ≤ N * (n + m) := by
  intro ts h hl
  have : (ts.map (·.length)).sum ≤ ts.length * n := by
    clear hl
    induction ts with
    | nil => simp
    | cons t ts ih =>
      have := ih (fun x hx => h x (List.mem_cons_of_mem _ hx))
      have := (h t (by simp)).1
      simp only [List.map_cons, List.sum_cons, List.length_cons, Nat.add_mul]
      omega
  have h2 : ts.length * sep.length ≤ ts.length * m := Nat.mul_le_mul_left _ hs.1
  have h3 : ts.length * (n + m) ≤ N * (n + m) := Nat.mul_le_mul_right _ hl
  rw [Nat.mul_add] at h3
  omega
end
end Rf

set_option Elab.async false
set_option linter.all false
set_option maxRecDepth 100000
namespace K68
open PySem L2 Rf
def topS (i : Nat) : Stmt := PySem.Challenge.pw_wholelines_k68_whole_texts_shown.main.body.getD i (.Pass ⟨0, 0, 0, 0⟩)
def ir_spaced : CSs :=
  (.cons (.ret (.mth .join (.cst (.str " ")) (.cons (.lc (.nm 1) (.sq (.var 0)) .nil (.fmt (.var 1)) [1]) .nil)))
  .nil)
def d_spaced : DefI := ⟨"spaced", topS 1, ["some"], ["some", "one"], ir_spaced⟩
def ir_show_fraction : CSs :=
  (.cons (.ret (.ife (.cmp .Eq (.idx (.var 0) (.cst (.int 1))) (.cst (.int 1))) (.fmt (.idx (.var 0) (.cst (.int 0)))) (.fst (.cons (.fmt (.idx (.var 0) (.cst (.int 0)))) (.cons (.cst (.str "/")) (.cons (.fmt (.idx (.var 0) (.cst (.int 1)))) .nil))))))
  .nil)
def d_show_fraction : DefI := ⟨"show_fraction", topS 2, ["x"], ["x"], ir_show_fraction⟩
def ir_show_numbers : CSs :=
  (.cons (.ret (.ife (.cmp .Gt (.blt .len (.cons (.var 0) .nil)) (.cst (.int 0))) (.mth .join (.cst (.str " ")) (.cons (.lc (.nm 1) (.sq (.var 0)) .nil (.cal 1 (.cons (.var 1) .nil)) [1]) .nil)) (.cst (.str "-"))))
  .nil)
def d_show_numbers : DefI := ⟨"show_numbers", topS 3, ["numbers"], ["numbers", "x"], ir_show_numbers⟩
def ir_show_saying : CSs :=
  (.cons (.set 1 (.lst .nil))
  (.cons (.for (.nm 2) (.sq (.var 0))
    (.cons (.iff (.not (.blt .isi (.cons (.var 2) (.cons (.typ "tuple") .nil))))
      (.cons (.drop (.mth .append (.var 1) (.cons (.fmt (.var 2)) .nil)))
      .nil)
      (.cons (.iff (.blt .isi (.cons (.idx (.var 2) (.cst (.int 0))) (.cons (.typ "str") .nil)))
        (.cons (.drop (.mth .append (.var 1) (.cons (.cal 3 (.cons (.var 2) .nil)) .nil)))
        .nil)
        (.cons (.drop (.mth .append (.var 1) (.cons (.cal 0 (.cons (.var 2) .nil)) .nil)))
        .nil))
      .nil))
    .nil))
  (.cons (.ret (.bin .Add (.bin .Add (.cst (.str "(")) (.mth .join (.cst (.str " ")) (.cons (.var 1) .nil))) (.cst (.str ")"))))
  .nil)))
def d_show_saying : DefI := ⟨"show_saying", topS 4, ["saying"], ["saying", "shown", "part"], ir_show_saying⟩
def ir_show_span : CSs :=
  (.cons (.unp [1, 2, 3, 4] (.var 0))
  (.cons (.par 5 6 (.ife (.cmp .Eq (.var 3) (.cst (.int 1))) (.cst (.str "[")) (.cst (.str "("))) (.ife (.cmp .Eq (.var 4) (.cst (.int 1))) (.cst (.str "]")) (.cst (.str ")"))))
  (.cons (.ret (.bin .Add (.bin .Add (.bin .Add (.bin .Add (.var 5) (.cal 1 (.cons (.var 1) .nil))) (.cst (.str " "))) (.cal 1 (.cons (.var 2) .nil))) (.var 6)))
  .nil)))
def d_show_span : DefI := ⟨"show_span", topS 5, ["span"], ["span", "low", "high", "low_in", "high_in", "first", "last"], ir_show_span⟩
def ir_show_spans : CSs :=
  (.cons (.ret (.ife (.cmp .Gt (.blt .len (.cons (.var 0) .nil)) (.cst (.int 0))) (.mth .join (.cst (.str " + ")) (.cons (.lc (.nm 1) (.sq (.var 0)) .nil (.cal 4 (.cons (.var 1) .nil)) [1]) .nil)) (.cst (.str "none"))))
  .nil)
def d_show_spans : DefI := ⟨"show_spans", topS 6, ["spans"], ["spans", "span"], ir_show_spans⟩
def ir_show_side : CSs :=
  (.cons (.ret (.fst (.cons (.fmt (.var 0)) (.cons (.cst (.str " ")) (.cons (.fmt (.cal 1 (.cons (.idx (.var 1) (.cst (.int 0))) .nil))) (.cons (.cst (.str " : ")) (.cons (.fmt (.cal 5 (.cons (.idx (.var 1) (.cst (.int 1))) .nil))) .nil)))))))
  .nil)
def d_show_side : DefI := ⟨"show_side", topS 7, ["word", "side"], ["word", "side"], ir_show_side⟩
def ir_show_middle : CSs :=
  (.cons (.iff (.cmp .Is (.var 0) (.cst .non))
    (.cons (.ret (.cst (.str "middle none")))
    .nil)
    .nil)
  (.cons (.unp [1, 2, 3] (.var 0))
  (.cons (.ret (.fst (.cons (.cst (.str "middle ")) (.cons (.fmt (.cal 1 (.cons (.var 1) .nil))) (.cons (.cst (.str " ")) (.cons (.fmt (.cal 1 (.cons (.var 2) .nil))) (.cons (.cst (.str " : ")) (.cons (.fmt (.cal 5 (.cons (.var 3) .nil))) .nil))))))))
  .nil)))
def d_show_middle : DefI := ⟨"show_middle", topS 8, ["middle"], ["middle", "start", "stop", "spans"], ir_show_middle⟩
def ir_show_band : CSs :=
  (.cons (.unp [1, 2, 3] (.var 0))
  (.cons (.ret (.mth .join (.cst (.str "\n")) (.cons (.lst (.cons (.cal 6 (.cons (.cst (.str "left")) (.cons (.var 1) .nil))) (.cons (.cal 7 (.cons (.var 2) .nil)) (.cons (.cal 6 (.cons (.cst (.str "right")) (.cons (.var 3) .nil))) .nil)))) .nil)))
  .nil))
def d_show_band : DefI := ⟨"show_band", topS 9, ["band"], ["band", "left", "middle", "right"], ir_show_band⟩
def ir_show_word : CSs :=
  (.cons (.unp [1, 2, 3] (.lc (.nm 4) (.sq (.var 0)) .nil (.mth .join (.cst (.str "")) (.cons (.lc (.nm 5) (.sq (.var 4)) .nil (.fmt (.var 5)) [5]) .nil)) [4]))
  (.cons (.ret (.fst (.cons (.fmt (.var 1)) (.cons (.cst (.str ".")) (.cons (.fmt (.var 2)) (.cons (.cst (.str "(")) (.cons (.fmt (.var 3)) (.cons (.cst (.str ")")) .nil))))))))
  .nil))
def d_show_word : DefI := ⟨"show_word", topS 10, ["word"], ["word", "head", "stem", "again", "part", "letter"], ir_show_word⟩
def ir_show_machine : CSs :=
  (.cons (.unp [1, 2, 3, 4, 5, 6] (.var 0))
  (.cons (.set 7 (.lst (.cons (.fst (.cons (.cst (.str "machine ")) (.cons (.fmt (.var 1)) (.cons (.cst (.str " : ")) (.cons (.fmt (.cal 0 (.cons (.var 2) .nil))) .nil))))) .nil)))
  (.cons (.drop (.mth .extend (.var 7) (.cons (.lc (.tp [8, 9]) (.zp (.var 4) (.var 3)) .nil (.fst (.cons (.cst (.str "head ")) (.cons (.fmt (.var 8)) (.cons (.cst (.str " : ")) (.cons (.fmt (.cal 0 (.cons (.var 9) .nil))) .nil))))) [8, 9]) .nil)))
  (.cons (.drop (.mth .extend (.var 7) (.cons (.lc (.tp [10, 9]) (.zp (.var 6) (.var 5)) .nil (.fst (.cons (.cst (.str "tail ")) (.cons (.fmt (.var 10)) (.cons (.cst (.str " : ")) (.cons (.fmt (.cal 0 (.cons (.var 9) .nil))) .nil))))) [9, 10]) .nil)))
  (.cons (.ret (.mth .join (.cst (.str "\n")) (.cons (.var 7) .nil)))
  .nil)))))
def d_show_machine : DefI := ⟨"show_machine", topS 11, ["machine"], ["machine", "n", "signs", "heads", "doors", "rows", "ends", "lines", "door", "row", "end"], ir_show_machine⟩
def ir_show_paper : CSs :=
  (.cons (.iff (.cmp .NotEq (.idx (.var 0) (.cst (.int 0))) (.cst (.str "some")))
    (.cons (.ret (.idx (.var 0) (.cst (.int 0))))
    .nil)
    .nil)
  (.cons (.ret (.fst (.cons (.cst (.str "some ")) (.cons (.fmt (.cal 2 (.cons (.idx (.var 0) (.cst (.int 1))) .nil))) (.cons (.cst (.str " / ")) (.cons (.fmt (.cal 2 (.cons (.idx (.var 0) (.cst (.int 2))) .nil))) .nil))))))
  .nil))
def d_show_paper : DefI := ⟨"show_paper", topS 12, ["paper"], ["paper"], ir_show_paper⟩
def ir__law_well : CSs :=
  (.cons (.set 2 (.bin .Add (.cst (.int 1442695040888963407)) (.bin .Mult (.var 1) (.cst (.int 2862933555777941757)))))
  (.cons (.for (.nm 3) (.sq (.slc (.var 0) .nil (.cons (.cst (.int 64)) .nil)))
    (.cons (.set 2 (.bin .Mod (.blt .int (.cons (.bin .Add (.bin .Add (.bin .Mult (.var 2) (.cst (.int 6364136223846793005))) (.bin .Mult (.var 3) (.cst (.int 3935559000370003845)))) (.cst (.int 1013904223))) .nil)) (.cst (.int 618970019642690137449562111))))
    .nil))
  (.cons (.set 4 (.ife (.cmp .Lt (.var 1) (.blt .len (.cons (.var 0) .nil))) (.blt .int (.cons (.idx (.var 0) (.var 1)) .nil)) (.cst (.int 0))))
  (.cons (.ret (.lst (.cons (.blt .max2 (.cons (.cst (.int 0)) (.cons (.bin .Sub (.blt .abs (.cons (.var 4) .nil)) (.bin .Pow (.cst (.int 10)) (.cst (.int 18)))) .nil))) (.cons (.var 2) (.cons (.cst (.int 0)) .nil)))))
  .nil))))
def d__law_well : DefI := ⟨"_law_well", topS 14, ["script", "place"], ["script", "place", "mixed", "one", "cell"], ir__law_well⟩
def ir__law_draw : CSs :=
  (.cons (.iff (.cmp .Gt (.idx (.var 0) (.cst (.int 0))) (.cst (.int 0)))
    (.cons (.set 2 (.bin .Mod (.blt .int (.cons (.idx (.var 0) (.cst (.int 0))) .nil)) (.var 1)))
    (.cons (.put (.var 0) (.cst (.int 0)) (.bin .FloorDiv (.idx (.var 0) (.cst (.int 0))) (.var 1)))
    (.cons (.ret (.var 2))
    .nil)))
    .nil)
  (.cons (.put (.var 0) (.cst (.int 2)) (.bin .Add (.idx (.var 0) (.cst (.int 2))) (.cst (.int 1))))
  (.cons (.set 3 (.bin .Mod (.blt .int (.cons (.bin .Pow (.bin .Add (.bin .Add (.idx (.var 0) (.cst (.int 1))) (.bin .Mult (.cst (.int 2654435761)) (.idx (.var 0) (.cst (.int 2))))) (.bin .Mult (.bin .Mult (.cst (.int 40503)) (.idx (.var 0) (.cst (.int 2)))) (.idx (.var 0) (.cst (.int 2))))) (.cst (.int 3))) .nil)) (.cst (.int 618970019642690137449562111))))
  (.cons (.set 3 (.bin .Mod (.blt .int (.cons (.bin .Pow (.bin .Add (.var 3) (.cst (.int 97))) (.cst (.int 5))) .nil)) (.cst (.int 170141183460469231731687303715884105727))))
  (.cons (.ret (.bin .Mod (.blt .int (.cons (.bin .FloorDiv (.var 3) (.cst (.int 65536))) .nil)) (.var 1)))
  .nil)))))
def d__law_draw : DefI := ⟨"_law_draw", topS 15, ["well", "many"], ["well", "many", "found", "mixed"], ir__law_draw⟩
def ir__law_same : CSs :=
  (.cons (.iff (.cmp .Is (.var 1) (.cst .non))
    (.cons (.ret (.cmp .Is (.var 0) (.cst .non)))
    .nil)
    .nil)
  (.cons (.iff (.blt .isi (.cons (.var 1) (.cons (.typ "bool") .nil)))
    (.cons (.ret (.ife (.var 1) (.cmp .Is (.var 0) (.cst (.bl true))) (.cmp .Is (.var 0) (.cst (.bl false)))))
    .nil)
    .nil)
  (.cons (.iff (.blt .isi (.cons (.var 1) (.cons (.typ "int") .nil)))
    (.cons (.ret (.and (.blt .isi (.cons (.var 0) (.cons (.typ "int") .nil))) (.and (.not (.blt .isi (.cons (.var 0) (.cons (.typ "bool") .nil)))) (.cmp .Eq (.var 0) (.var 1)))))
    .nil)
    .nil)
  (.cons (.iff (.blt .isi (.cons (.var 1) (.cons (.typ "str") .nil)))
    (.cons (.ret (.and (.blt .isi (.cons (.var 0) (.cons (.typ "str") .nil))) (.cmp .Eq (.var 0) (.var 1))))
    .nil)
    .nil)
  (.cons (.iff (.or (.cmp .NotEq (.blt .isi (.cons (.var 1) (.cons (.typ "tuple") .nil))) (.blt .isi (.cons (.var 0) (.cons (.typ "tuple") .nil)))) (.cmp .NotEq (.blt .isi (.cons (.var 1) (.cons (.typ "list") .nil))) (.blt .isi (.cons (.var 0) (.cons (.typ "list") .nil)))))
    (.cons (.ret (.cst (.bl false)))
    .nil)
    .nil)
  (.cons (.ret (.and (.cmp .Eq (.blt .len (.cons (.var 0) .nil)) (.blt .len (.cons (.var 1) .nil))) (.blt .all (.cons (.lc (.nm 2) (.r1 (.blt .len (.cons (.var 1) .nil))) .nil (.cal 14 (.cons (.idx (.var 0) (.var 2)) (.cons (.idx (.var 1) (.var 2)) .nil))) [2]) .nil))))
  .nil))))))
def d__law_same : DefI := ⟨"_law_same", topS 16, ["told", "due"], ["told", "due", "k"], ir__law_same⟩
def ir__law_made : CSs :=
  (.cons (.par 2 3 (.blt .abs (.cons (.var 0) .nil)) (.blt .abs (.cons (.var 1) .nil)))
  (.cons (.whl (.cmp .Gt (.var 3) (.cst (.int 0)))
    (.cons (.par 2 3 (.var 3) (.bin .Mod (.blt .int (.cons (.var 2) .nil)) (.var 3)))
    .nil))
  (.cons (.ret (.ife (.cmp .Gt (.var 1) (.cst (.int 0))) (.tup (.cons (.bin .FloorDiv (.var 0) (.var 2)) (.cons (.bin .FloorDiv (.var 1) (.var 2)) .nil))) (.tup (.cons (.bin .FloorDiv (.neg (.var 0)) (.var 2)) (.cons (.bin .FloorDiv (.neg (.var 1)) (.var 2)) .nil)))))
  .nil)))
def d__law_made : DefI := ⟨"_law_made", topS 17, ["top", "bottom"], ["top", "bottom", "one", "other"], ir__law_made⟩
def ir__law_plus : CSs :=
  (.cons (.ret (.cal 15 (.cons (.bin .Add (.bin .Mult (.idx (.var 0) (.cst (.int 0))) (.idx (.var 1) (.cst (.int 1)))) (.bin .Mult (.idx (.var 1) (.cst (.int 0))) (.idx (.var 0) (.cst (.int 1))))) (.cons (.bin .Mult (.idx (.var 0) (.cst (.int 1))) (.idx (.var 1) (.cst (.int 1)))) .nil))))
  .nil)
def d__law_plus : DefI := ⟨"_law_plus", topS 18, ["x", "y"], ["x", "y"], ir__law_plus⟩
def ir__law_times : CSs :=
  (.cons (.ret (.cal 15 (.cons (.bin .Mult (.idx (.var 0) (.cst (.int 0))) (.idx (.var 1) (.cst (.int 0)))) (.cons (.bin .Mult (.idx (.var 0) (.cst (.int 1))) (.idx (.var 1) (.cst (.int 1)))) .nil))))
  .nil)
def d__law_times : DefI := ⟨"_law_times", topS 19, ["x", "y"], ["x", "y"], ir__law_times⟩
def ir__law_minus : CSs :=
  (.cons (.ret (.cal 15 (.cons (.bin .Sub (.bin .Mult (.idx (.var 0) (.cst (.int 0))) (.idx (.var 1) (.cst (.int 1)))) (.bin .Mult (.idx (.var 1) (.cst (.int 0))) (.idx (.var 0) (.cst (.int 1))))) (.cons (.bin .Mult (.idx (.var 0) (.cst (.int 1))) (.idx (.var 1) (.cst (.int 1)))) .nil))))
  .nil)
def d__law_minus : DefI := ⟨"_law_minus", topS 20, ["x", "y"], ["x", "y"], ir__law_minus⟩
def ir__law_less : CSs :=
  (.cons (.ret (.cmp .Lt (.bin .Mult (.idx (.var 0) (.cst (.int 0))) (.idx (.var 1) (.cst (.int 1)))) (.bin .Mult (.idx (.var 1) (.cst (.int 0))) (.idx (.var 0) (.cst (.int 1))))))
  .nil)
def d__law_less : DefI := ⟨"_law_less", topS 21, ["x", "y"], ["x", "y"], ir__law_less⟩
def ir__law_spaced : CSs :=
  (.cons (.ret (.mth .join (.cst (.str " ")) (.cons (.lc (.nm 1) (.sq (.var 0)) .nil (.blt .str (.cons (.var 1) .nil)) [1]) .nil)))
  .nil)
def d__law_spaced : DefI := ⟨"_law_spaced", topS 22, ["some"], ["some", "one"], ir__law_spaced⟩
def ir__law_shown : CSs :=
  (.cons (.ret (.ife (.cmp .Eq (.idx (.var 0) (.cst (.int 1))) (.cst (.int 1))) (.blt .str (.cons (.idx (.var 0) (.cst (.int 0))) .nil)) (.bin .Add (.bin .Add (.blt .str (.cons (.idx (.var 0) (.cst (.int 0))) .nil)) (.cst (.str "/"))) (.blt .str (.cons (.idx (.var 0) (.cst (.int 1))) .nil)))))
  .nil)
def d__law_shown : DefI := ⟨"_law_shown", topS 23, ["x"], ["x"], ir__law_shown⟩
def ir__law_numbers : CSs :=
  (.cons (.ret (.ife (.cmp .Eq (.blt .len (.cons (.var 0) .nil)) (.cst (.int 0))) (.cst (.str "-")) (.mth .join (.cst (.str " ")) (.cons (.lc (.nm 1) (.sq (.var 0)) .nil (.cal 21 (.cons (.var 1) .nil)) [1]) .nil))))
  .nil)
def d__law_numbers : DefI := ⟨"_law_numbers", topS 24, ["some"], ["some", "x"], ir__law_numbers⟩
def ir__law_saying_text : CSs :=
  (.cons (.set 1 (.lst .nil))
  (.cons (.for (.nm 2) (.sq (.var 0))
    (.cons (.iff (.and (.blt .isi (.cons (.var 2) (.cons (.typ "tuple") .nil))) (.blt .isi (.cons (.idx (.var 2) (.cst (.int 0))) (.cons (.typ "str") .nil))))
      (.cons (.drop (.mth .append (.var 1) (.cons (.cal 23 (.cons (.var 2) .nil)) .nil)))
      .nil)
      (.cons (.drop (.mth .append (.var 1) (.cons (.ife (.blt .isi (.cons (.var 2) (.cons (.typ "tuple") .nil))) (.cal 20 (.cons (.var 2) .nil)) (.blt .str (.cons (.var 2) .nil))) .nil)))
      .nil))
    .nil))
  (.cons (.ret (.bin .Add (.bin .Add (.cst (.str "(")) (.mth .join (.cst (.str " ")) (.cons (.var 1) .nil))) (.cst (.str ")"))))
  .nil)))
def d__law_saying_text : DefI := ⟨"_law_saying_text", topS 25, ["saying"], ["saying", "found", "part"], ir__law_saying_text⟩
def ir__law_spans_text : CSs :=
  (.cons (.set 1 (.lst .nil))
  (.cons (.for (.tp [2, 3, 4, 5]) (.sq (.var 0))
    (.cons (.drop (.mth .append (.var 1) (.cons (.bin .Add (.bin .Add (.bin .Add (.bin .Add (.idx (.cst (.str "([")) (.var 4)) (.cal 21 (.cons (.var 2) .nil))) (.cst (.str " "))) (.cal 21 (.cons (.var 3) .nil))) (.idx (.cst (.str ")]")) (.var 5))) .nil)))
    .nil))
  (.cons (.ret (.ife (.cmp .Eq (.var 1) (.lst .nil)) (.cst (.str "none")) (.mth .join (.cst (.str " + ")) (.cons (.var 1) .nil))))
  .nil)))
def d__law_spans_text : DefI := ⟨"_law_spans_text", topS 26, ["spans"], ["spans", "found", "low", "high", "low_in", "high_in"], ir__law_spans_text⟩
def ir__law_band_text : CSs :=
  (.cons (.set 1 (.lst (.cons (.bin .Add (.bin .Add (.bin .Add (.cst (.str "left ")) (.cal 21 (.cons (.idx (.idx (.var 0) (.cst (.int 0))) (.cst (.int 0))) .nil))) (.cst (.str " : "))) (.cal 24 (.cons (.idx (.idx (.var 0) (.cst (.int 0))) (.cst (.int 1))) .nil))) (.cons (.cst (.str "middle none")) .nil))))
  (.cons (.iff (.cmp .IsNot (.idx (.var 0) (.cst (.int 1))) (.cst .non))
    (.cons (.set 2 (.bin .Add (.bin .Add (.cal 21 (.cons (.idx (.idx (.var 0) (.cst (.int 1))) (.cst (.int 0))) .nil)) (.cst (.str " "))) (.cal 21 (.cons (.idx (.idx (.var 0) (.cst (.int 1))) (.cst (.int 1))) .nil))))
    (.cons (.put (.var 1) (.cst (.int 1)) (.bin .Add (.bin .Add (.bin .Add (.cst (.str "middle ")) (.var 2)) (.cst (.str " : "))) (.cal 24 (.cons (.idx (.idx (.var 0) (.cst (.int 1))) (.cst (.int 2))) .nil))))
    .nil))
    .nil)
  (.cons (.ret (.mth .join (.cst (.str "\n")) (.cons (.bin .Add (.var 1) (.lst (.cons (.bin .Add (.bin .Add (.bin .Add (.cst (.str "right ")) (.cal 21 (.cons (.idx (.idx (.var 0) (.cst (.int 2))) (.cst (.int 0))) .nil))) (.cst (.str " : "))) (.cal 24 (.cons (.idx (.idx (.var 0) (.cst (.int 2))) (.cst (.int 1))) .nil))) .nil))) .nil)))
  .nil)))
def d__law_band_text : DefI := ⟨"_law_band_text", topS 27, ["band"], ["band", "found", "ends"], ir__law_band_text⟩
def ir__law_word_text : CSs :=
  (.cons (.unp [1, 2, 3] (.lc (.nm 4) (.sq (.var 0)) .nil (.mth .join (.cst (.str "")) (.cons (.lc (.nm 5) (.sq (.var 4)) .nil (.blt .str (.cons (.var 5) .nil)) [5]) .nil)) [4]))
  (.cons (.ret (.bin .Add (.bin .Add (.bin .Add (.bin .Add (.bin .Add (.var 1) (.cst (.str "."))) (.var 2)) (.cst (.str "("))) (.var 3)) (.cst (.str ")"))))
  .nil))
def d__law_word_text : DefI := ⟨"_law_word_text", topS 28, ["word"], ["word", "head", "stem", "again", "part", "one"], ir__law_word_text⟩
def ir__law_machine_text : CSs :=
  (.cons (.unp [1, 2, 3, 4, 5, 6] (.var 0))
  (.cons (.set 7 (.lst (.cons (.bin .Add (.bin .Add (.bin .Add (.cst (.str "machine ")) (.blt .str (.cons (.var 1) .nil))) (.cst (.str " : "))) (.cal 20 (.cons (.var 2) .nil))) .nil)))
  (.cons (.for (.nm 8) (.r1 (.blt .len (.cons (.var 3) .nil)))
    (.cons (.drop (.mth .append (.var 7) (.cons (.bin .Add (.bin .Add (.bin .Add (.cst (.str "head ")) (.blt .str (.cons (.idx (.var 4) (.var 8)) .nil))) (.cst (.str " : "))) (.cal 20 (.cons (.idx (.var 3) (.var 8)) .nil))) .nil)))
    .nil))
  (.cons (.for (.nm 8) (.r1 (.blt .len (.cons (.var 5) .nil)))
    (.cons (.drop (.mth .append (.var 7) (.cons (.bin .Add (.bin .Add (.bin .Add (.cst (.str "tail ")) (.blt .str (.cons (.idx (.var 6) (.var 8)) .nil))) (.cst (.str " : "))) (.cal 20 (.cons (.idx (.var 5) (.var 8)) .nil))) .nil)))
    .nil))
  (.cons (.ret (.mth .join (.cst (.str "\n")) (.cons (.var 7) .nil)))
  .nil)))))
def d__law_machine_text : DefI := ⟨"_law_machine_text", topS 29, ["machine"], ["machine", "n", "signs", "heads", "doors", "rows", "ends", "found", "at"], ir__law_machine_text⟩
def ir__law_paper_text : CSs :=
  (.cons (.ret (.ife (.cmp .Eq (.blt .len (.cons (.var 0) .nil)) (.cst (.int 1))) (.idx (.var 0) (.cst (.int 0))) (.bin .Add (.bin .Add (.bin .Add (.cst (.str "some ")) (.cal 22 (.cons (.idx (.var 0) (.cst (.int 1))) .nil))) (.cst (.str " / "))) (.cal 22 (.cons (.idx (.var 0) (.cst (.int 2))) .nil)))))
  .nil)
def d__law_paper_text : DefI := ⟨"_law_paper_text", topS 30, ["paper"], ["paper"], ir__law_paper_text⟩
def ir__law_big : CSs :=
  (.cons (.set 1 (.idx (.lst (.cons (.cst (.int 4)) (.cons (.cst (.int 60)) (.cons (.bin .Pow (.cst (.int 10)) (.cst (.int 9))) (.cons (.bin .Sub (.bin .Pow (.cst (.int 10)) (.cst (.int 30))) (.cst (.int 1))) .nil))))) (.cal 13 (.cons (.var 0) (.cons (.cst (.int 4)) .nil)))))
  (.cons (.ret (.bin .Sub (.cal 13 (.cons (.var 0) (.cons (.bin .Add (.bin .Mult (.cst (.int 2)) (.var 1)) (.cst (.int 1))) .nil))) (.var 1)))
  .nil))
def d__law_big : DefI := ⟨"_law_big", topS 31, ["well"], ["well", "size"], ir__law_big⟩
def ir__law_fraction : CSs :=
  (.cons (.ret (.cal 15 (.cons (.cal 29 (.cons (.var 0) .nil)) (.cons (.ife (.cmp .Gt (.cal 13 (.cons (.var 0) (.cons (.cst (.int 3)) .nil))) (.cst (.int 0))) (.blt .max2 (.cons (.cst (.int 1)) (.cons (.blt .abs (.cons (.cal 29 (.cons (.var 0) .nil)) .nil)) .nil))) (.cst (.int 1))) .nil))))
  .nil)
def d__law_fraction : DefI := ⟨"_law_fraction", topS 32, ["well"], ["well"], ir__law_fraction⟩
def ir__law_middling : CSs :=
  (.cons (.set 1 (.lst (.cons (.cst (.int 4)) (.cons (.cst (.int 60)) (.cons (.bin .Pow (.cst (.int 10)) (.cst (.int 6))) (.cons (.bin .Sub (.bin .Pow (.cst (.int 10)) (.cst (.int 10))) (.cst (.int 1))) .nil))))))
  (.cons (.par 2 3 (.idx (.var 1) (.cal 13 (.cons (.var 0) (.cons (.cst (.int 4)) .nil)))) (.idx (.var 1) (.cal 13 (.cons (.var 0) (.cons (.cst (.int 4)) .nil)))))
  (.cons (.ret (.cal 15 (.cons (.bin .Sub (.cal 13 (.cons (.var 0) (.cons (.bin .Add (.bin .Mult (.cst (.int 2)) (.var 2)) (.cst (.int 1))) .nil))) (.var 2)) (.cons (.bin .Add (.cst (.int 1)) (.cal 13 (.cons (.var 0) (.cons (.var 3) .nil)))) .nil))))
  .nil)))
def d__law_middling : DefI := ⟨"_law_middling", topS 33, ["well"], ["well", "sizes", "top", "bottom"], ir__law_middling⟩
def ir__law_any : CSs :=
  (.cons (.set 3 (.cal 13 (.cons (.var 0) (.cons (.cst (.int 5)) .nil))))
  (.cons (.iff (.or (.cmp .Lt (.var 1) (.cst (.int 2))) (.or (.cmp .Lt (.var 2) (.cst (.int 2))) (.cmp .Eq (.var 3) (.cst (.int 4)))))
    (.cons (.par 3 4 (.cal 13 (.cons (.var 0) (.cons (.cst (.int 5)) .nil))) (.cal 13 (.cons (.var 0) (.cons (.cst (.int 3)) .nil))))
    (.cons (.iff (.cmp .Eq (.var 3) (.cst (.int 0)))
      (.cons (.ret (.tup (.cons (.cst (.str "whole")) (.cons (.var 4) .nil))))
      .nil)
      .nil)
    (.cons (.iff (.cmp .Eq (.var 3) (.cst (.int 1)))
      (.cons (.set 5 (.bin .Add (.cst (.int 2)) (.cal 13 (.cons (.var 0) (.cons (.idx (.lst (.cons (.cst (.int 5)) (.cons (.bin .Sub (.bin .Pow (.cst (.int 10)) (.cst (.int 30))) (.cst (.int 3))) .nil))) (.cal 13 (.cons (.var 0) (.cons (.cst (.int 2)) .nil)))) .nil)))))
      (.cons (.ret (.tup (.cons (.cst (.str "rest")) (.cons (.var 4) (.cons (.var 5) (.cons (.cal 13 (.cons (.var 0) (.cons (.var 5) .nil))) .nil))))))
      .nil))
      .nil)
    (.cons (.set 6 (.blt .tuple (.cons (.lc (.nm 8) (.r1 (.cst (.int 3))) .nil (.cal 29 (.cons (.var 0) .nil)) [8]) .nil)))
    (.cons (.ret (.tup (.cons (.idx (.lst (.cons (.cst (.str "less")) (.cons (.cst (.str "most")) (.cons (.cst (.str "equal")) .nil)))) (.bin .Sub (.var 3) (.cst (.int 2)))) (.cons (.var 6) (.cons (.cal 29 (.cons (.var 0) .nil)) .nil)))))
    .nil)))))
    .nil)
  (.cons (.iff (.cmp .Eq (.var 3) (.cst (.int 0)))
    (.cons (.ret (.tup (.cons (.cst (.str "not")) (.cons (.cal 32 (.cons (.var 0) (.cons (.bin .Sub (.var 1) (.cst (.int 1))) (.cons (.bin .Sub (.var 2) (.cst (.int 1))) .nil)))) .nil))))
    .nil)
    .nil)
  (.cons (.iff (.cmp .Eq (.var 3) (.cst (.int 1)))
    (.cons (.ret (.tup (.cons (.idx (.lst (.cons (.cst (.str "some")) (.cons (.cst (.str "every")) .nil))) (.cal 13 (.cons (.var 0) (.cons (.cst (.int 2)) .nil)))) (.cons (.cal 13 (.cons (.var 0) (.cons (.cst (.int 3)) .nil))) (.cons (.cal 32 (.cons (.var 0) (.cons (.bin .Sub (.var 1) (.cst (.int 1))) (.cons (.bin .Sub (.var 2) (.cst (.int 1))) .nil)))) .nil)))))
    .nil)
    .nil)
  (.cons (.set 7 (.cal 32 (.cons (.var 0) (.cons (.bin .FloorDiv (.var 1) (.cst (.int 2))) (.cons (.bin .Sub (.var 2) (.cst (.int 1))) .nil)))))
  (.cons (.ret (.tup (.cons (.idx (.lst (.cons (.cst (.str "both")) (.cons (.cst (.str "either")) .nil))) (.cal 13 (.cons (.var 0) (.cons (.cst (.int 2)) .nil)))) (.cons (.var 7) (.cons (.cal 32 (.cons (.var 0) (.cons (.bin .Sub (.var 1) (.bin .FloorDiv (.var 1) (.cst (.int 2)))) (.cons (.bin .Sub (.var 2) (.cst (.int 1))) .nil)))) .nil)))))
  .nil))))))
def d__law_any : DefI := ⟨"_law_any", topS 34, ["well", "many", "left"], ["well", "many", "left", "way", "i", "modulus", "a", "one", "turn"], ir__law_any⟩
def ir__law_span_list : CSs :=
  (.cons (.par3 4 5 6 (.lst .nil) (.lst .nil) (.cal 18 (.cons (.var 2) (.cons (.var 1) .nil))))
  (.cons (.set 7 (.blt .sorted (.cons (.lc (.nm 13) (.r1 (.bin .Mult (.cst (.int 2)) (.cal 13 (.cons (.var 0) (.cons (.bin .Add (.var 3) (.cst (.int 1))) .nil))))) .nil (.cal 13 (.cons (.var 0) (.cons (.cst (.int 61)) .nil))) [13]) .nil)))
  (.cons (.for (.nm 8) (.sq (.var 7))
    (.cons (.drop (.mth .append (.var 4) (.cons (.cal 16 (.cons (.var 1) (.cons (.cal 17 (.cons (.var 6) (.cons (.tup (.cons (.var 8) (.cons (.cst (.int 61)) .nil))) .nil))) .nil))) .nil)))
    .nil))
  (.cons (.for (.nm 9) (.r1 (.bin .FloorDiv (.blt .len (.cons (.var 4) .nil)) (.cst (.int 2))))
    (.cons (.par 10 11 (.idx (.var 4) (.bin .Mult (.cst (.int 2)) (.var 9))) (.idx (.var 4) (.bin .Add (.bin .Mult (.cst (.int 2)) (.var 9)) (.cst (.int 1)))))
    (.cons (.set 12 (.ife (.cmp .Eq (.var 10) (.var 11)) (.lst (.cons (.cst (.int 1)) (.cons (.cst (.int 1)) .nil))) (.lst (.cons (.cal 13 (.cons (.var 0) (.cons (.cst (.int 2)) .nil))) (.cons (.cal 13 (.cons (.var 0) (.cons (.cst (.int 2)) .nil))) .nil)))))
    (.cons (.iff (.or (.cmp .Eq (.var 5) (.lst .nil)) (.cal 19 (.cons (.idx (.idx (.var 5) (.neg (.cst (.int 1)))) (.cst (.int 1))) (.cons (.var 10) .nil))))
      (.cons (.drop (.mth .append (.var 5) (.cons (.tup (.cons (.var 10) (.cons (.var 11) (.cons (.idx (.var 12) (.cst (.int 0))) (.cons (.idx (.var 12) (.cst (.int 1))) .nil))))) .nil)))
      .nil)
      .nil)
    .nil))))
  (.cons (.ret (.blt .tuple (.cons (.var 5) .nil)))
  .nil)))))
def d__law_span_list : DefI := ⟨"_law_span_list", topS 35, ["well", "low", "high", "many"], ["well", "low", "high", "many", "ends", "found", "step", "places", "place", "k", "first", "last", "flags", "turn"], ir__law_span_list⟩
def ir__law_word : CSs :=
  (.cons (.unp [2, 3] (.tup (.cons (.idx (.lst (.cons (.cst (.int 1)) (.cons (.cst (.int 2)) (.cons (.cst (.int 4)) (.cons (.cst (.int 8)) .nil))))) (.var 1)) (.cons (.lst .nil) .nil))))
  (.cons (.for (.nm 4) (.sq (.tup (.cons (.cst (.int 1)) (.cons (.cst (.int 0)) (.cons (.cst (.int 1)) .nil)))))
    (.cons (.set 5 (.bin .Add (.var 4) (.idx (.lst (.cons (.cal 13 (.cons (.var 0) (.cons (.cst (.int 4)) .nil))) (.cons (.cal 13 (.cons (.var 0) (.cons (.cst (.int 60)) .nil))) .nil))) (.cal 13 (.cons (.var 0) (.cons (.cst (.int 2)) .nil))))))
    (.cons (.drop (.mth .append (.var 3) (.cons (.blt .tuple (.cons (.lc (.nm 6) (.r1 (.var 5)) .nil (.cal 13 (.cons (.var 0) (.cons (.var 2) .nil))) [6]) .nil)) .nil)))
    .nil)))
  (.cons (.ret (.blt .tuple (.cons (.var 3) .nil)))
  .nil)))
def d__law_word : DefI := ⟨"_law_word", topS 36, ["well", "n"], ["well", "n", "letters", "parts", "least", "many", "turn"], ir__law_word⟩
def ir__law_period : CSs :=
  (.cons (.set 1 (.cal 31 (.cons (.var 0) .nil)))
  (.cons (.ret (.ife (.cmp .Eq (.idx (.var 1) (.cst (.int 0))) (.cst (.int 0))) (.tup (.cons (.cst (.int 1)) (.cons (.cst (.int 7)) .nil))) (.tup (.cons (.blt .abs (.cons (.idx (.var 1) (.cst (.int 0))) .nil)) (.cons (.idx (.var 1) (.cst (.int 1))) .nil)))))
  .nil))
def d__law_period : DefI := ⟨"_law_period", topS 37, ["well"], ["well", "x"], ir__law_period⟩
def ir__law_side : CSs :=
  (.cons (.set 1 (.cal 13 (.cons (.var 0) (.cons (.cst (.int 6)) .nil))))
  (.cons (.iff (.cmp .Lt (.var 1) (.cst (.int 2)))
    (.cons (.ret (.idx (.lst (.cons (.tup (.cons (.tup (.cons (.cst (.int 1)) (.cons (.cst (.int 1)) .nil))) (.cons (.tup (.cons (.tup (.cons (.tup (.cons (.cst (.int 0)) (.cons (.cst (.int 1)) .nil))) (.cons (.tup (.cons (.cst (.int 1)) (.cons (.cst (.int 1)) .nil))) (.cons (.cst (.int 1)) (.cons (.cst (.int 0)) .nil))))) .nil)) .nil))) (.cons (.tup (.cons (.tup (.cons (.cst (.int 1)) (.cons (.cst (.int 1)) .nil))) (.cons (.tup .nil) .nil))) .nil))) (.var 1)))
    .nil)
    .nil)
  (.cons (.set 2 (.cal 35 (.cons (.var 0) .nil)))
  (.cons (.set 3 (.blt .sorted (.cons (.lst (.cons (.cal 13 (.cons (.var 0) (.cons (.cst (.int 12)) .nil))) (.cons (.cal 13 (.cons (.var 0) (.cons (.cst (.int 12)) .nil))) .nil))) .nil)))
  (.cons (.par 4 5 (.cal 17 (.cons (.var 2) (.cons (.tup (.cons (.idx (.var 3) (.cst (.int 0))) (.cons (.cst (.int 12)) .nil))) .nil))) (.cal 17 (.cons (.var 2) (.cons (.tup (.cons (.idx (.var 3) (.cst (.int 1))) (.cons (.cst (.int 12)) .nil))) .nil))))
  (.cons (.iff (.cmp .Eq (.var 4) (.var 5))
    (.cons (.ret (.tup (.cons (.var 2) (.cons (.tup (.cons (.tup (.cons (.var 4) (.cons (.var 5) (.cons (.cst (.int 1)) (.cons (.cst (.int 1)) .nil))))) .nil)) .nil))))
    .nil)
    .nil)
  (.cons (.ret (.tup (.cons (.var 2) (.cons (.tup (.cons (.tup (.cons (.var 4) (.cons (.var 5) (.cons (.cal 13 (.cons (.var 0) (.cons (.cst (.int 2)) .nil))) (.cons (.cal 13 (.cons (.var 0) (.cons (.cst (.int 2)) .nil))) .nil))))) .nil)) .nil))))
  .nil)))))))
def d__law_side : DefI := ⟨"_law_side", topS 38, ["well"], ["well", "way", "period", "ends", "low", "high"], ir__law_side⟩
def ir__law_band : CSs :=
  (.cons (.set 1 (.cal 13 (.cons (.var 0) (.cons (.cst (.int 3)) .nil))))
  (.cons (.set 2 (.cal 36 (.cons (.var 0) .nil)))
  (.cons (.iff (.cmp .Eq (.var 1) (.cst (.int 0)))
    (.cons (.ret (.tup (.cons (.var 2) (.cons (.cst .non) (.cons (.var 2) .nil)))))
    .nil)
    .nil)
  (.cons (.unp [3, 4] (.tup (.cons (.tup (.cons (.tup (.cons (.cst (.int 1)) (.cons (.cst (.int 1)) .nil))) (.cons (.tup (.cons (.tup (.cons (.tup (.cons (.cst (.int 0)) (.cons (.cst (.int 1)) .nil))) (.cons (.tup (.cons (.cst (.int 1)) (.cons (.cst (.int 1)) .nil))) (.cons (.cst (.int 1)) (.cons (.cst (.int 0)) .nil))))) .nil)) .nil))) (.cons (.tup (.cons (.tup (.cons (.cst (.int 1)) (.cons (.cst (.int 1)) .nil))) (.cons (.tup .nil) .nil))) .nil))))
  (.cons (.iff (.cmp .Eq (.var 1) (.cst (.int 1)))
    (.cons (.par 5 6 (.cal 35 (.cons (.var 0) .nil)) (.cal 13 (.cons (.var 0) (.cons (.cst (.int 12)) .nil))))
    (.cons (.set 7 (.cal 17 (.cons (.var 5) (.cons (.tup (.cons (.var 6) (.cons (.cst (.int 12)) .nil))) .nil))))
    (.cons (.par 8 9 (.tup (.cons (.var 5) (.cons (.tup (.cons (.tup (.cons (.var 7) (.cons (.var 7) (.cons (.cst (.int 1)) (.cons (.cst (.int 1)) .nil))))) .nil)) .nil))) (.bin .Sub (.cal 13 (.cons (.var 0) (.cons (.cst (.int 2001)) .nil))) (.cst (.int 1000))))
    (.cons (.set 10 (.cal 16 (.cons (.var 7) (.cons (.cal 17 (.cons (.var 5) (.cons (.tup (.cons (.var 9) (.cons (.cst (.int 1)) .nil))) .nil))) .nil))))
    (.cons (.set 11 (.cal 16 (.cons (.var 10) (.cons (.var 5) .nil))))
    (.cons (.iff (.cmp .Eq (.cal 13 (.cons (.var 0) (.cons (.cst (.int 2)) .nil))) (.cst (.int 0)))
      (.cons (.ret (.tup (.cons (.var 4) (.cons (.tup (.cons (.var 10) (.cons (.var 11) (.cons (.tup (.cons (.tup (.cons (.var 11) (.cons (.var 11) (.cons (.cst (.int 1)) (.cons (.cst (.int 1)) .nil))))) .nil)) .nil)))) (.cons (.var 8) .nil)))))
      .nil)
      .nil)
    (.cons (.ret (.tup (.cons (.var 8) (.cons (.tup (.cons (.var 10) (.cons (.var 11) (.cons (.tup (.cons (.tup (.cons (.var 10) (.cons (.var 10) (.cons (.cst (.int 1)) (.cons (.cst (.int 1)) .nil))))) .nil)) .nil)))) (.cons (.var 4) .nil)))))
    .nil)))))))
    .nil)
  (.cons (.set 12 (.cal 31 (.cons (.var 0) .nil)))
  (.cons (.set 13 (.blt .list (.cons (.cal 33 (.cons (.var 0) (.cons (.var 12) (.cons (.cal 16 (.cons (.var 12) (.cons (.tup (.cons (.bin .Add (.cst (.int 1)) (.cal 13 (.cons (.var 0) (.cons (.cst (.int 99)) .nil)))) (.cons (.bin .Add (.cst (.int 1)) (.cal 13 (.cons (.var 0) (.cons (.cst (.int 9)) .nil)))) .nil))) .nil))) (.cons (.cst (.int 5)) .nil))))) .nil)))
  (.cons (.par 14 15 (.cmp .Eq (.cal 13 (.cons (.var 0) (.cons (.cst (.int 2)) .nil))) (.cst (.int 0))) (.cmp .Eq (.cal 13 (.cons (.var 0) (.cons (.cst (.int 2)) .nil))) (.cst (.int 0))))
  (.cons (.iff (.or (.cmp .Eq (.var 13) (.lst .nil)) (.and (.cmp .Eq (.blt .len (.cons (.var 13) .nil)) (.cst (.int 1))) (.and (.var 14) (.var 15))))
    (.cons (.set 2 (.ife (.cmp .Eq (.var 13) (.lst .nil)) (.var 4) (.var 3)))
    (.cons (.ret (.tup (.cons (.var 2) (.cons (.cst .non) (.cons (.var 2) .nil)))))
    .nil))
    .nil)
  (.cons (.set 16 (.ife (.var 14) (.idx (.idx (.var 13) (.cst (.int 0))) (.cst (.int 1))) (.idx (.idx (.var 13) (.cst (.int 0))) (.cst (.int 0)))))
  (.cons (.set 17 (.ife (.var 15) (.idx (.idx (.var 13) (.neg (.cst (.int 1)))) (.cst (.int 0))) (.idx (.idx (.var 13) (.neg (.cst (.int 1)))) (.cst (.int 1)))))
  (.cons (.iff (.cal 19 (.cons (.var 17) (.cons (.var 16) .nil)))
    (.cons (.par 16 17 (.var 17) (.var 16))
    .nil)
    .nil)
  (.cons (.set 18 (.lst .nil))
  (.cons (.for (.nm 7) (.r1 (.blt .len (.cons (.var 13) .nil)))
    (.cons (.set 19 (.idx (.var 13) (.var 7)))
    (.cons (.unp [20, 21] (.ife (.or (.and (.cmp .Eq (.var 7) (.cst (.int 0))) (.var 14)) (.cal 19 (.cons (.idx (.var 19) (.cst (.int 0))) (.cons (.var 16) .nil)))) (.tup (.cons (.var 16) (.cons (.cst (.int 1)) .nil))) (.tup (.cons (.idx (.var 19) (.cst (.int 0))) (.cons (.idx (.var 19) (.cst (.int 2))) .nil)))))
    (.cons (.unp [22, 23] (.ife (.or (.and (.cmp .Eq (.var 7) (.bin .Sub (.blt .len (.cons (.var 13) .nil)) (.cst (.int 1)))) (.var 15)) (.cal 19 (.cons (.var 17) (.cons (.idx (.var 19) (.cst (.int 1))) .nil)))) (.tup (.cons (.var 17) (.cons (.cst (.int 1)) .nil))) (.tup (.cons (.idx (.var 19) (.cst (.int 1))) (.cons (.idx (.var 19) (.cst (.int 3))) .nil)))))
    (.cons (.iff (.or (.cal 19 (.cons (.var 20) (.cons (.var 22) .nil))) (.and (.cmp .Eq (.var 20) (.var 22)) (.and (.cmp .Eq (.var 21) (.cst (.int 1))) (.cmp .Eq (.var 23) (.cst (.int 1))))))
      (.cons (.drop (.mth .append (.var 18) (.cons (.tup (.cons (.var 20) (.cons (.var 22) (.cons (.var 21) (.cons (.var 23) .nil))))) .nil)))
      .nil)
      .nil)
    .nil)))))
  (.cons (.ret (.tup (.cons (.ife (.var 14) (.var 3) (.var 4)) (.cons (.tup (.cons (.var 16) (.cons (.var 17) (.cons (.blt .tuple (.cons (.var 18) .nil)) .nil)))) (.cons (.ife (.var 15) (.var 3) (.var 4)) .nil)))))
  .nil)))))))))))))))
def d__law_band : DefI := ⟨"_law_band", topS 39, ["well"], ["well", "way", "side", "every", "none", "period", "first", "at", "points", "turns", "before", "after", "low", "spans", "left", "right", "start", "stop", "within", "one", "begin", "flag", "end", "last"], ir__law_band⟩
def ir__law_paper : CSs :=
  (.cons (.par 1 2 (.cal 13 (.cons (.var 0) (.cons (.cst (.int 4)) .nil))) (.blt .tuple (.cons (.lc (.nm 5) (.r1 (.bin .Add (.cst (.int 1)) (.cal 13 (.cons (.var 0) (.cons (.cst (.int 3)) .nil))))) .nil (.cal 30 (.cons (.var 0) .nil)) [5]) .nil)))
  (.cons (.iff (.or (.cmp .Lt (.var 1) (.cst (.int 2))) (.not (.blt .any (.cons (.lc (.nm 4) (.sq (.var 2)) .nil (.cmp .NotEq (.var 4) (.tup (.cons (.cst (.int 0)) (.cons (.cst (.int 1)) .nil)))) [4]) .nil))))
    (.cons (.ret (.idx (.lst (.cons (.tup (.cons (.cst (.str "all")) .nil)) (.cons (.tup (.cons (.cst (.str "none")) .nil)) .nil))) (.bin .Mod (.blt .int (.cons (.var 1) .nil)) (.cst (.int 2)))))
    .nil)
    .nil)
  (.cons (.set 3 (.blt .tuple (.cons (.lc (.nm 4) (.sq (.var 2)) .nil (.tup (.cons (.cst (.int 0)) (.cons (.cst (.int 1)) .nil))) [4]) .nil)))
  (.cons (.ret (.ife (.cmp .Eq (.var 1) (.cst (.int 2))) (.tup (.cons (.cst (.str "some")) (.cons (.var 2) (.cons (.var 3) .nil)))) (.tup (.cons (.cst (.str "some")) (.cons (.var 3) (.cons (.var 2) .nil))))))
  .nil))))
def d__law_paper : DefI := ⟨"_law_paper", topS 40, ["well"], ["well", "way", "some", "zeros", "x", "turn"], ir__law_paper⟩
def ir__law_machine : CSs :=
  (.cons (.unp [1, 2, 3] (.tup (.cons (.cal 13 (.cons (.var 0) (.cons (.cst (.int 4)) .nil))) (.cons (.bin .Add (.cst (.int 1)) (.cal 13 (.cons (.var 0) (.cons (.cst (.int 12)) .nil)))) (.cons (.bin .Add (.cst (.int 1)) (.cal 13 (.cons (.var 0) (.cons (.cst (.int 12)) .nil)))) .nil)))))
  (.cons (.par3 4 5 6 (.idx (.lst (.cons (.cst (.int 1)) (.cons (.cst (.int 2)) (.cons (.cst (.int 4)) (.cons (.cst (.int 8)) .nil))))) (.var 1)) (.lst .nil) (.lst .nil))
  (.cons (.for (.nm 7) (.r1 (.var 2))
    (.cons (.drop (.mth .append (.var 5) (.cons (.blt .tuple (.cons (.lc (.nm 10) (.r1 (.var 4)) .nil (.cal 13 (.cons (.var 0) (.cons (.var 2) .nil))) [10]) .nil)) .nil)))
    .nil))
  (.cons (.for (.nm 7) (.r1 (.var 3))
    (.cons (.drop (.mth .append (.var 6) (.cons (.blt .tuple (.cons (.lc (.nm 10) (.r1 (.var 4)) .nil (.bin .Add (.var 7) (.cal 13 (.cons (.var 0) (.cons (.bin .Sub (.var 3) (.var 7)) .nil)))) [10]) .nil)) .nil)))
    .nil))
  (.cons (.set 8 (.blt .tuple (.cons (.lc (.nm 7) (.r1 (.var 2)) .nil (.cal 13 (.cons (.var 0) (.cons (.var 3) .nil))) [7]) .nil)))
  (.cons (.set 9 (.blt .tuple (.cons (.lc (.nm 7) (.r1 (.var 3)) .nil (.cal 13 (.cons (.var 0) (.cons (.cst (.int 2)) .nil))) [7]) .nil)))
  (.cons (.ret (.tup (.cons (.var 1) (.cons (.blt .tuple (.cons (.lc (.nm 10) (.r1 (.var 4)) .nil (.cal 13 (.cons (.var 0) (.cons (.var 2) .nil))) [10]) .nil)) (.cons (.blt .tuple (.cons (.var 5) .nil)) (.cons (.var 8) (.cons (.blt .tuple (.cons (.var 6) .nil)) (.cons (.var 9) .nil))))))))
  .nil)))))))
def d__law_machine : DefI := ⟨"_law_machine", topS 41, ["well"], ["well", "n", "heads", "tails", "letters", "tops", "rows", "at", "doors", "ends", "letter"], ir__law_machine⟩
def ir_law : CSs :=
  (.cons (.for (.nm 1) (.r1 (.blt .max2 (.cons (.cst (.int 1)) (.cons (.blt .min2 (.cons (.cst (.int 3)) (.cons (.blt .len (.cons (.var 0) .nil)) .nil))) .nil))))
    (.cons (.set 2 (.cal 12 (.cons (.var 0) (.cons (.var 1) .nil))))
    (.cons (.par 3 4 (.cal 30 (.cons (.var 2) .nil)) (.blt .tuple (.cons (.lc (.nm 15) (.r1 (.cal 13 (.cons (.var 2) (.cons (.cst (.int 4)) .nil)))) .nil (.cal 30 (.cons (.var 2) .nil)) [15]) .nil)))
    (.cons (.par 5 6 (.cal 32 (.cons (.var 2) (.cons (.bin .Add (.cst (.int 1)) (.cal 13 (.cons (.var 2) (.cons (.cst (.int 12)) .nil)))) (.cons (.cst (.int 8)) .nil)))) (.cal 31 (.cons (.var 2) .nil)))
    (.cons (.set 7 (.cal 33 (.cons (.var 2) (.cons (.var 6) (.cons (.cal 16 (.cons (.var 6) (.cons (.tup (.cons (.bin .Add (.cst (.int 1)) (.cal 13 (.cons (.var 2) (.cons (.cst (.int 99)) .nil)))) (.cons (.bin .Add (.cst (.int 1)) (.cal 13 (.cons (.var 2) (.cons (.cst (.int 9)) .nil)))) .nil))) .nil))) (.cons (.cst (.int 8)) .nil))))))
    (.cons (.par3 8 9 10 (.cal 37 (.cons (.var 2) .nil)) (.cal 34 (.cons (.var 2) (.cons (.cal 13 (.cons (.var 2) (.cons (.cst (.int 4)) .nil))) .nil))) (.cal 39 (.cons (.var 2) .nil)))
    (.cons (.set 11 (.cal 38 (.cons (.var 2) .nil)))
    (.cons (.set 12 (.blt .repr (.cons (.lst (.cons (.var 3) (.cons (.var 4) (.cons (.var 5) (.cons (.var 7) (.cons (.var 8) (.cons (.var 9) (.cons (.var 10) (.cons (.var 11) .nil))))))))) .nil)))
    (.cons (.set 13 (.lst (.cons (.cal 1 (.cons (.var 3) .nil)) (.cons (.cal 2 (.cons (.var 4) .nil)) (.cons (.cal 3 (.cons (.var 5) .nil)) (.cons (.cal 5 (.cons (.var 7) .nil)) (.cons (.cal 8 (.cons (.var 8) .nil)) .nil)))))))
    (.cons (.set 13 (.bin .Add (.var 13) (.lst (.cons (.cal 9 (.cons (.var 9) .nil)) (.cons (.cal 10 (.cons (.var 10) .nil)) (.cons (.cal 11 (.cons (.var 11) .nil)) .nil))))))
    (.cons (.set 14 (.lst (.cons (.cal 21 (.cons (.var 3) .nil)) (.cons (.cal 22 (.cons (.var 4) .nil)) (.cons (.cal 23 (.cons (.var 5) .nil)) (.cons (.cal 24 (.cons (.var 7) .nil)) .nil))))))
    (.cons (.set 14 (.bin .Add (.var 14) (.lst (.cons (.cal 25 (.cons (.var 8) .nil)) (.cons (.cal 26 (.cons (.var 9) .nil)) (.cons (.cal 27 (.cons (.var 10) .nil)) (.cons (.cal 28 (.cons (.var 11) .nil)) .nil)))))))
    (.cons (.iff (.not (.cal 14 (.cons (.var 13) (.cons (.var 14) .nil))))
      (.cons (.ret (.cst (.bl false)))
      .nil)
      .nil)
    (.cons (.set 13 (.lst (.cons (.cak 1 .nil ["x"] (.cons (.var 3) .nil) [0] 0) (.cons (.cak 2 .nil ["numbers"] (.cons (.var 4) .nil) [0] 0) (.cons (.cak 3 .nil ["saying"] (.cons (.var 5) .nil) [0] 0) (.cons (.cak 5 .nil ["spans"] (.cons (.var 7) .nil) [0] 0) .nil))))))
    (.cons (.set 13 (.bin .Add (.var 13) (.lst (.cons (.cak 8 .nil ["band"] (.cons (.var 8) .nil) [0] 0) (.cons (.cak 9 .nil ["word"] (.cons (.var 9) .nil) [0] 0) (.cons (.cak 10 .nil ["machine"] (.cons (.var 10) .nil) [0] 0) (.cons (.cak 11 .nil ["paper"] (.cons (.var 11) .nil) [0] 0) .nil)))))))
    (.cons (.iff (.or (.not (.cal 14 (.cons (.var 13) (.cons (.var 14) .nil)))) (.cmp .NotEq (.blt .repr (.cons (.lst (.cons (.var 3) (.cons (.var 4) (.cons (.var 5) (.cons (.var 7) (.cons (.var 8) (.cons (.var 9) (.cons (.var 10) (.cons (.var 11) .nil))))))))) .nil)) (.var 12)))
      (.cons (.ret (.cst (.bl false)))
      .nil)
      .nil)
    .nil))))))))))))))))
  (.cons (.ret (.cst (.bl true)))
  .nil))
def d_law : DefI := ⟨"law", topS 42, ["script"], ["script", "place", "well", "x", "numbers", "saying", "low", "spans", "band", "word", "machine", "paper", "kept", "told", "due", "turn"], ir_law⟩
def KW : List (Nat × Nat × List Str × List Nat) := [(1, 0, ["x"], [0]), (2, 0, ["numbers"], [0]), (3, 0, ["saying"], [0]), (5, 0, ["spans"], [0]), (8, 0, ["band"], [0]), (9, 0, ["word"], [0]), (10, 0, ["machine"], [0]), (11, 0, ["paper"], [0])]
def BN : List Str := ["abs", "all", "any", "bool", "int", "isinstance", "len", "list", "max", "min", "range", "repr", "sorted", "str", "tuple", "zip"]
def GC : Bool := false
def GD : Bool := true
def Ds : List DefI := [d_spaced, d_show_fraction, d_show_numbers, d_show_saying, d_show_span, d_show_spans, d_show_side, d_show_middle, d_show_band, d_show_word, d_show_machine, d_show_paper, d__law_well, d__law_draw, d__law_same, d__law_made, d__law_plus, d__law_times, d__law_minus, d__law_less, d__law_spaced, d__law_shown, d__law_numbers, d__law_saying_text, d__law_spans_text, d__law_band_text, d__law_word_text, d__law_machine_text, d__law_paper_text, d__law_big, d__law_fraction, d__law_middling, d__law_any, d__law_span_list, d__law_word, d__law_period, d__law_side, d__law_band, d__law_paper, d__law_machine]
-- 0:spaced 1:show_fraction 2:show_numbers 3:show_saying 4:show_span 5:show_spans 6:show_side 7:show_middle 8:show_band 9:show_word 10:show_machine 11:show_paper 12:_law_well 13:_law_draw 14:_law_same 15:_law_made 16:_law_plus 17:_law_times 18:_law_minus 19:_law_less 20:_law_spaced 21:_law_shown 22:_law_numbers 23:_law_saying_text 24:_law_spans_text 25:_law_band_text 26:_law_word_text 27:_law_machine_text 28:_law_paper_text 29:_law_big 30:_law_fraction 31:_law_middling 32:_law_any 33:_law_span_list 34:_law_word 35:_law_period 36:_law_side 37:_law_band 38:_law_paper 39:_law_machine 40:law
theorem ds_ok : Ds.all (fun d => d.ok (Ds.map (·.name)) KW BN GC) = true := by decide +kernel
theorem law_okB : d_law.ok (Ds.map (·.name)) KW BN GC true = true := by decide +kernel
end K68

set_option Elab.async false
set_option linter.all false
set_option maxRecDepth 100000
namespace K68
open PySem L2 Rf
def gg (t b : Int) : Int := ((Nat.gcd t.natAbs b.natAbs : Nat) : Int)
def fr (a b : Int) : D := .tup [.int a, .int b]
def FrN (n : Nat) (d : D) : Prop := ∃ a b : Int, d = fr a b ∧ 1 ≤ b ∧ b.natAbs < 2 ^ n ∧ a.natAbs < 2 ^ n
def lowD (t b : Int) : D := .tup [.int (t / gg t b), .int (b / gg t b)]
def WellOk (n b : Nat) (μ : M) : Prop := ∃ (μ0 : M) (a m t : Int), n < μ0.length ∧ μ = μ0.set n (.lst [.int a, .int m, .int t]) ∧ 0 ≤ a ∧ 0 ≤ m ∧ m < 2 ^ 90 ∧ 0 ≤ t ∧ t ≤ b
theorem WellOk.mono {n b c : Nat} {μ : M} (h : WellOk n b μ) (l : b ≤ c) : WellOk n c μ := by
  obtain ⟨μ0, a, m, t, h1, h2, h3, h4, h5, h6, h7⟩ := h
  exact ⟨μ0, a, m, t, h1, h2, h3, h4, h5, h6, by omega⟩
/-- the well alone is another one -/
def Wl (n b : Nat) (μ μ' : M) : Prop := (∃ c, μ' = μ.set n c) ∧ WellOk n b μ'
theorem WellOk.lt {n b : Nat} {μ : M} (h : WellOk n b μ) : n < μ.length := by
  obtain ⟨μ0, a, m, t, h1, rfl, _⟩ := h
  simpa using h1
theorem Wl.ok {n b : Nat} {μ μ' : M} (h : Wl n b μ μ') : WellOk n b μ' := h.2
theorem Wl.refl {n b : Nat} {μ : M} (h : WellOk n b μ) : Wl n b μ μ := by
  refine ⟨?_, h⟩
  obtain ⟨μ0, a, m, t, h1, rfl, _⟩ := h
  exact ⟨.lst [.int a, .int m, .int t], by rw [List.set_set]⟩
theorem Wl.trans {n b c : Nat} {μ μ1 μ2 : M} (h : Wl n b μ μ1) (g : Wl n c μ1 μ2) : Wl n c μ μ2 := by
  obtain ⟨⟨x, rfl⟩, _⟩ := h
  obtain ⟨⟨y, rfl⟩, g2⟩ := g
  exact ⟨⟨y, by rw [List.set_set]⟩, g2⟩
theorem Wl.mono {n b c : Nat} {μ μ' : M} (h : Wl n b μ μ') (l : b ≤ c) : Wl n c μ μ' := ⟨h.1, h.2.mono l⟩
theorem WellOk.app {n b : Nat} {μ : M} (h : WellOk n b μ) (ν : M) : WellOk n b (μ ++ ν) := by
  obtain ⟨μ0, a, m, t, h1, rfl, h2⟩ := h
  exact ⟨μ0 ++ ν, a, m, t, by simp; omega, by rw [List.set_append_left _ _ h1], h2⟩
theorem WellOk.unapp {n b : Nat} {μ ν : M} (hn : n < μ.length) (h : WellOk n b (μ ++ ν)) : WellOk n b μ := by
  obtain ⟨μ0, a, m, t, h1, h2, h3⟩ := h
  refine ⟨μ, a, m, t, hn, ?_, h3⟩
  have e : (μ ++ ν)[n]? = (μ0.set n (.lst [.int a, .int m, .int t]))[n]? := by rw [h2]
  rw [List.getElem?_append_left hn, List.getElem?_set_self h1] at e
  apply List.ext_getElem?
  intro i
  by_cases hi : n = i
  · subst hi
    rw [e, List.getElem?_set_self hn]
  · rw [List.getElem?_set_ne hi]
theorem Wl.app {n b : Nat} {μ ν μ' : M} (hn : n < μ.length) (h : Wl n b (μ ++ ν) μ') : ∃ μ1, μ' = μ1 ++ ν ∧ Wl n b μ μ1 ∧ μ1.length = μ.length := by
  obtain ⟨⟨c, rfl⟩, h2⟩ := h
  rw [List.set_append_left _ _ hn] at h2 ⊢
  exact ⟨μ.set n c, rfl, ⟨⟨c, rfl⟩, h2.unapp (by simpa using hn)⟩, by simp⟩
/-- how many draws there are at most -/
def BIG : Nat := 1000000000
def frT (a b : Int) : Str := if b = 1 then toString a else (toString a : Str) ++ "/" ++ (toString b : Str)
def Sm : Nat → D → Prop
  | 0, _ => False
  | _ + 1, .non => True
  | _ + 1, .bl _ => True
  | _ + 1, .int _ => True
  | _ + 1, .str _ => True
  | n + 1, .tup xs => xs.length ≤ 1000 ∧ ∀ x ∈ xs, Sm n x
  | n + 1, .lst xs => xs.length ≤ 1000 ∧ ∀ x ∈ xs, Sm n x
  | _ + 1, _ => False
section
variable {Γ : Tab} {μ : M} {Q : WQ}
theorem dv {i j : Int} {n : Nat} (h : 0 < j) (h2 : j.natAbs < 2 ^ n) (hn : n ≤ 9000) : CDivW i j := ⟨h, by
  by_cases h0 : j.natAbs = 0
  · omega
  · exact Nat.lt_of_lt_of_le ((Nat.log2_lt h0).mpr h2) hn⟩
theorem cpw {i : Int} {j n : Nat} (h : i.natAbs < 2 ^ n) (hn : (n + 1) * j ≤ 2 ^ 27) : CPowW i (j : Int) := by
  refine ⟨by omega, ?_⟩
  have h2 : Builtin.Int.intBits i ≤ n + 1 := by
    unfold Builtin.Int.intBits
    by_cases h0 : i.natAbs = 0
    · simp [h0]
      split <;> omega
    · have := (Nat.log2_lt h0).mpr h
      split <;> omega
  have h3 : Builtin.Int.intBits i * j ≤ (n + 1) * j := Nat.mul_le_mul_right _ h2
  have h4 : ((Builtin.Int.intBits i : Nat) : Int) * (j : Int) = ((Builtin.Int.intBits i * j : Nat) : Int) := by simp
  rw [h4]
  omega
theorem b13 {n b : Nat} {many : Int} (hw : WellOk n b μ) (hb : b ≤ BIG) (h0 : 0 < many) (h1 : many.natAbs < 2 ^ 400) (hq : ∀ r μ', Wl n (b + 1) μ μ' → 0 ≤ r → r < many → Q (.int r) μ') : wDef Γ 4 ir__law_draw [.cel n, .int many] μ Q := by
  obtain ⟨μ0, a, m, t, hn, rfl, ha, hm, hm2, ht, htb⟩ := hw
  unfold BIG at hb
  have hd : ∀ i, CDivW i many := fun i => dv h0 h1 (by decide)
  have q : ∀ (r a m t : Int) , 0 ≤ a → 0 ≤ m → m < 2 ^ 90 → 0 ≤ t → t ≤ (b + 1 : Nat) → 0 ≤ r → r < many → Q (.int r) (μ0.set n (.lst [.int a, .int m, .int t])) := fun r a m t h1 h2 h3 h4 h5 h6 h7 => hq _ _ ⟨⟨.lst [.int a, .int m, .int t], by rw [List.set_set]⟩, μ0, a, m, t, hn, rfl, h1, h2, h3, h4, h5⟩ h6 h7
  simp only [wDef, ir__law_draw, startD]
  rw [wS1]; simp [wS, wE, wEs, wT, wI, wO, wF, ofE, wCmp, opCmp, setsD, hn]
  split
  · rw [wS1]; simp [wS, wE, wEs, wT, wI, wO, wF, ofE, wCmp, opCmp, setsD, hn, h0]
    rw [wS1]; simp [wS, wE, wEs, wT, wI, wO, wF, ofE, wCmp, opCmp, setsD, hn]
    refine ⟨hd _, ?_⟩
    rw [wS1]; simp [wS, wE, wEs, wT, wI, wO, wF, ofE, wCmp, opCmp, setsD, hn]
    exact rt_here (q _ _ _ _ (Int.ediv_nonneg ha (by omega)) hm hm2 ht (by omega) (Int.emod_nonneg _ (by omega)) (Int.emod_lt_of_pos _ h0))
  · rw [wS1]; simp [wS, wE, wEs, wT, wI, wO, wF, ofE, wCmp, opCmp, setsD, hn]
    rw [wS1]; simp [wS, wE, wEs, wT, wI, wO, wF, ofE, wCmp, opCmp, setsD, hn]
    have c1 : ∀ i : Int, CMul 2654435761 i ∨ CMulW 2654435761 i := fun i => .inl (.inl ⟨by decide, by decide⟩)
    have c2 : ∀ i : Int, CMul 40503 i ∨ CMulW 40503 i := fun i => .inl (.inl ⟨by decide, by decide⟩)
    have e0 : 0 ≤ 40503 * (t + 1) * (t + 1) := Int.mul_nonneg (by omega) (by omega)
    have e1 : 40503 * (t + 1) * (t + 1) ≤ (40503 * 1000000001) * 1000000001 := Int.mul_le_mul (by omega) (by omega) (by omega) (by omega)
    refine ⟨c1 _, c2 _, .inl (.inr ⟨by omega, by omega⟩), .inr (cpw (n := 92) (j := 3) (by omega) (by decide)), ?_⟩
    have m0 := Int.emod_nonneg ((m + 2654435761 * (t + 1) + 40503 * (t + 1) * (t + 1)) ^ 3) (b := 618970019642690137449562111) (by decide)
    have m1 := Int.emod_lt_of_pos ((m + 2654435761 * (t + 1) + 40503 * (t + 1) * (t + 1)) ^ 3) (b := 618970019642690137449562111) (by decide)
    generalize (m + 2654435761 * (t + 1) + 40503 * (t + 1) * (t + 1)) ^ 3 % 618970019642690137449562111 = x at m0 m1 ⊢
    rw [wS1]; simp [wS, wE, wEs, wT, wI, wO, wF, ofE, wCmp, opCmp, setsD, hn]
    refine ⟨.inr (cpw (n := 92) (j := 5) (by omega) (by decide)), ?_⟩
    rw [wS1]; simp [wS, wE, wEs, wT, wI, wO, wF, ofE, wCmp, opCmp, setsD, hn, h0]
    exact ⟨dv (n := 20) (by decide) (by decide) (by decide), rt_here (q _ _ _ _ ha hm hm2 (by omega) (by omega) (Int.emod_nonneg _ (by omega)) (Int.emod_lt_of_pos _ h0))⟩
theorem well_new {a m : Int} (ha : 0 ≤ a) (h0 : 0 ≤ m) (h1 : m < 2 ^ 90) : WellOk μ.length 0 (μ ++ [.lst [.int a, .int m, .int 0]]) :=
  ⟨μ ++ [.lst []], a, m, 0, by simp, by simp, ha, h0, h1, by decide, by decide⟩
theorem b12 {ns : List Int} {place : Int} (hl : ns.length ≤ 63) (hp : 0 ≤ place ∧ place < 3) (hq : ∀ μ', WellOk μ.length 0 μ' → Q (.cel μ.length) μ') : wDef Γ 5 ir__law_well [.scr (ns.map .int), .int place] μ Q := by
  simp only [wDef, ir__law_well, startD]
  rw [wS1]; simp [wS, wE, wEs, wT, wI, wO, wF, ofE, wCmp, opCmp, setsD]
  refine ⟨.inl (.inr ⟨by decide, by decide⟩), ?_⟩
  rw [wS1]; simp [wS, wE, wEs, wT, wI, wO, wF, ofE, wCmp, opCmp, setsD]
  have hc : cutD (ns.map D.int) none (some 64) = ((ns.drop (HT.sIx (ns.map D.int).length 0 none)).take (HT.sIx (ns.map D.int).length (ns.map D.int).length (some 64) - HT.sIx (ns.map D.int).length 0 none)).map D.int := by
    unfold cutD
    rw [← List.map_drop, ← List.map_take]
  have hlc : (cutD (ns.map D.int) none (some 64)).length ≤ 63 := by
    unfold cutD
    simp
    omega
  refine new_l (line_le (by omega)) ?_
  simp [srcOf]
  refine ⟨fun _ ρ μ' => μ' = μ ∧ ∃ m o, ρ = [some (.scr (ns.map .int)), some (.int place), some (.int m), o, none] ∧ 0 ≤ m ∧ m < 2 ^ 90, ⟨rfl, _, _, rfl, by omega, by omega⟩, fun _ _ _ _ _ _ h => (by cases h), ?_, ?_⟩
  · rintro i x ρ μ' hx ⟨rfl, m, o, rfl, h0, h1⟩
    have hx := List.mem_of_getElem? hx
    rw [hc] at hx
    obtain ⟨z, _, rfl⟩ := List.mem_map.mp hx
    refine ⟨_, rfl, ?_⟩
    rw [wS1]; simp [wS, wE, wEs, wT, wI, wO, wF, ofE, wCmp, opCmp, setsD]
    refine ⟨.inl (.inr ⟨by decide, by decide⟩), .inl (.inr ⟨by decide, by decide⟩), ?_, ?_⟩
    · exact Int.emod_nonneg _ (by decide)
    · exact Int.lt_of_lt_of_le (Int.emod_lt_of_pos _ (by decide)) (by decide)
  · rintro ρ μ' ⟨rfl, m, o, rfl, h0, h1⟩
    rw [wS1]
    refine set_val' (fun d => ∃ c, d = .int c) (fun P hP => ?_) ?_
    · simp [wE, wEs, wT, wCmp, opCmp]
      split
      · obtain ⟨p, rfl⟩ : ∃ p : Nat, place = p := ⟨place.toNat, by omega⟩
        have hp2 : p < (ns.map D.int).length := by simp; omega
        rw [at_nat hp2]
        simp
        exact hP _ ⟨_, rfl⟩
      · exact hP _ ⟨_, rfl⟩
    · rintro d ⟨c, rfl⟩
      simp only [List.set]
      rw [wS1]; simp [wS, wE, wEs, wT, wI, wO, wF, ofE, wCmp, opCmp, setsD]
      refine ⟨.inl ⟨by decide, by decide, by decide⟩, new_c (line_le (by simp)) (rt_here (hq _ (well_new ?_ h0 h1)))⟩
      split <;> split <;> omega
/-! the same -/
theorem bls : ∀ n : Nat, blsD (List.replicate n (D.bl true)) = some (List.replicate n true)
  | 0 => rfl
  | n + 1 => by
    show blsD (D.bl true :: List.replicate n (D.bl true)) = _
    simp only [blsD, bls n]
    rfl
theorem same_items {xs : List D} {Γ : Tab} {ρ : Rho} {a b : D} (hl : xs.length ≤ 1000) (ha : ρ.length = 3) (h0 : getV ρ 0 = some a) (h1 : getV ρ 1 = some b)
    (ea : ∀ (i : Nat) (x : D), xs[i]? = some x → ∀ P : WQ, P x μ → opIdx a (.int i) μ P) (eb : ∀ (i : Nat) (x : D), xs[i]? = some x → ∀ P : WQ, P x μ → opIdx b (.int i) μ P)
    (hr : ∀ x ∈ xs, ∀ P : WQ, P (.bl true) μ → Γ 14 [x, x] μ P) (hq : Q (.bl true) μ) :
    wLc (.nm 2) (wF Γ .nil) (wE Γ (.cal 14 (.cons (.idx (.var 0) (.var 2)) (.cons (.idx (.var 1) (.var 2)) .nil)))) [2] ⟨none, rangeD 0 xs.length⟩ ρ μ
      fun d μ1 => opBlt .all [d] μ1 Q := by
  obtain ⟨r0, r1, r2, rfl⟩ : ∃ r0 r1 r2, ρ = [r0, r1, r2] := by
    match ρ, ha with
    | [r0, r1, r2], _ => exact ⟨_, _, _, rfl⟩
  simp at h0 h1
  subst h0 h1
  refine lc_pure (fun n h => by cases h) (by simp; exact line_le (by omega)) (fun _ => .bl true) ?_ ?_
  · intro i x hx
    obtain ⟨hi, rfl⟩ := r_rangeD hx
    refine ⟨_, rfl, fun P hP => ?_⟩
    have hx := List.getElem?_eq_getElem hi
    simp [wE, wEs, wipeD]
    exact ea _ _ hx _ (eb _ _ hx _ (hr _ (List.getElem_mem hi) _ hP))
  · refine new_l (by simp; exact line_le (by omega)) ?_
    have e : (rangeD 0 xs.length).map (fun _ => D.bl true) = List.replicate xs.length (D.bl true) := by
      rw [List.map_const']; simp
    simp [e, bls]
    exact hq
theorem b14 {k : Nat} {d : D} (hd : Sm (k + 1) d) (hr : ∀ x, Sm k x → ∀ P : WQ, P (.bl true) μ → Γ 14 [x, x] μ P) (hq : Q (.bl true) μ) : wDef Γ 3 ir__law_same [d, d] μ Q := by
  have h := rt_here (μ0 := μ) hq
  cases d with
  | non => simpa [wDef, ir__law_same, wSs, wS, wE, wEs, wT, startD, ofE, wCmp, opCmp, setsD] using h
  | bl b => cases b <;> simpa [wDef, ir__law_same, wSs, wS, wE, wEs, wT, startD, ofE, wCmp, opCmp, setsD] using h
  | int i => simpa [wDef, ir__law_same, wSs, wS, wE, wEs, wT, startD, ofE, wCmp, opCmp, setsD] using h
  | str i => simpa [wDef, ir__law_same, wSs, wS, wE, wEs, wT, startD, ofE, wCmp, opCmp, setsD] using h
  | tup xs =>
    simp [Sm] at hd
    simp [wDef, ir__law_same, wSs, wS, wE, wEs, wT, startD, ofE, wCmp, opCmp, setsD, wI]
    refine ⟨⟨by omega, by omega⟩, ?_⟩
    refine same_items hd.1 rfl rfl rfl (fun i x hx P hP => ?_) (fun i x hx P hP => ?_) (fun x hx => hr x (hd.2 x hx)) h
    · simp [atI_nat hx, hP]
    · simp [atI_nat hx, hP]
  | lst xs =>
    simp [Sm] at hd
    simp [wDef, ir__law_same, wSs, wS, wE, wEs, wT, startD, ofE, wCmp, opCmp, setsD, wI]
    refine ⟨⟨by omega, by omega⟩, ?_⟩
    refine same_items hd.1 rfl rfl rfl (fun i x hx P hP => ?_) (fun i x hx P hP => ?_) (fun x hx => hr x (hd.2 x hx)) h
    · simp [atI_nat hx, hP]
    · simp [atI_nat hx, hP]
  | _ => simp [Sm] at hd
/-! fractions -/
@[simp] theorem fr0 {p q : Int} : opIdx (fr p q) (.int 0) μ Q = Q (.int p) μ := by simp [fr]
@[simp] theorem fr1 {p q : Int} : opIdx (fr p q) (.int 1) μ Q = Q (.int q) μ := by simp [fr]
theorem g1 {t b : Int} (hb : 1 ≤ b) : 1 ≤ gg t b := by
  have : 0 < Nat.gcd t.natAbs b.natAbs := Nat.gcd_pos_of_pos_right _ (by omega)
  simp only [gg]; omega
theorem g2 {t b : Int} (hb : 1 ≤ b) : gg t b ≤ b := by
  have : Nat.gcd t.natAbs b.natAbs ≤ b.natAbs := Nat.gcd_le_right _ (by omega)
  simp only [gg]; omega
theorem low_fr {t b : Int} {n : Nat} (hb : 1 ≤ b) (h1 : b.natAbs < 2 ^ n) (h2 : t.natAbs < 2 ^ n) : FrN n (lowD t b) := by
  have p := g1 (t := t) hb
  have d1 : gg t b ∣ t := Int.ofNat_dvd_left.mpr (Nat.gcd_dvd_left _ _)
  have d2 : gg t b ∣ b := Int.ofNat_dvd_left.mpr (Nat.gcd_dvd_right _ _)
  refine ⟨_, _, rfl, ?_, ?_, ?_⟩
  · obtain ⟨k, hk⟩ := d2
    have : b / gg t b = k := Int.ediv_eq_of_eq_mul_right (by omega) hk
    rw [this]
    by_cases hk0 : k ≤ 0
    · exfalso
      have : gg t b * k ≤ 0 := Int.mul_nonpos_of_nonneg_of_nonpos (by omega) hk0
      rw [← hk] at this
      omega
    · omega
  · rw [Int.natAbs_ediv_of_dvd d2]
    exact Nat.lt_of_le_of_lt (Nat.div_le_self _ _) h1
  · rw [Int.natAbs_ediv_of_dvd d1]
    exact Nat.lt_of_le_of_lt (Nat.div_le_self _ _) h2
theorem FrN.mono {n m : Nat} {d : D} (h : FrN n d) (l : n ≤ m) : FrN m d := by
  obtain ⟨a, b, h1, h2, h3, h4⟩ := h
  have := Nat.pow_le_pow_right (n := 2) (by decide) l
  exact ⟨a, b, h1, h2, by omega, by omega⟩
theorem mul_lt {i j : Int} {n m : Nat} (h1 : i.natAbs < 2 ^ n) (h2 : j.natAbs < 2 ^ m) : (i * j).natAbs < 2 ^ (n + m) := by
  rw [Int.natAbs_mul, Nat.pow_add]
  by_cases h : j.natAbs = 0
  · rw [h, Nat.mul_zero]
    exact Nat.mul_pos (Nat.two_pow_pos _) (Nat.two_pow_pos _)
  · exact Nat.lt_of_lt_of_le ((Nat.mul_lt_mul_right (by omega)).mpr h1) (Nat.mul_le_mul_left _ (Nat.le_of_lt h2))
theorem mw {i j : Int} {n m : Nat} (h1 : i.natAbs < 2 ^ n) (h2 : j.natAbs < 2 ^ m) (h : n + m ≤ 2000) : CMul i j ∨ CMulW i j := by
  refine .inr ?_
  have a : ∀ {i : Int} {n : Nat}, i.natAbs < 2 ^ n → i.natAbs.log2 ≤ n := fun {i n} h => by
    by_cases h0 : i.natAbs = 0
    · rw [h0]; exact Nat.zero_le _
    · exact Nat.le_of_lt ((Nat.log2_lt h0).mpr h)
  have := a h1
  have := a h2
  show i.natAbs.log2 + j.natAbs.log2 < 1000000
  omega
theorem b15 {t b : Int} {n : Nat} (hb : b ≠ 0) (h1 : t.natAbs < 2 ^ n) (h2 : b.natAbs < 2 ^ n) (hn : n ≤ 900) (hq : ∀ d, FrN n d → Q d μ) : wDef Γ 4 ir__law_made [.int t, .int b] μ Q := by
  have ea : ∀ i : Int, (if i < 0 then -i else i) = (i.natAbs : Int) := fun i => by split <;> omega
  have gp : 0 < Nat.gcd t.natAbs b.natAbs := Nat.gcd_pos_of_pos_right _ (by omega)
  have gl : Nat.gcd t.natAbs b.natAbs ≤ b.natAbs := Nat.gcd_le_right _ (by omega)
  simp only [wDef, ir__law_made, startD]
  rw [wS1]; simp [wS, wE, wEs, wT, wI, wO, wF, ofE, wCmp, opCmp, setsD]
  simp only [ea]
  rw [wS1]
  refine ⟨fun m ρ μ' => μ' = μ ∧ ∃ x y : Nat, ρ = [some (.int t), some (.int b), some (.int x), some (.int y)] ∧ y = m ∧ Nat.gcd x y = Nat.gcd t.natAbs b.natAbs, ⟨_, rfl, _, _, rfl, rfl, rfl⟩, ?_⟩
  rintro m ρ μ' ⟨rfl, x, y, rfl, rfl, hg⟩
  simp [wT, wE, wCmp, opCmp]
  split
  · rename_i hy
    rw [wS1]; simp [wS, wE, wEs, wT, wI, wO, wF, ofE, wCmp, opCmp, setsD]
    refine ⟨hy, x % y, Nat.mod_lt _ hy, y, x % y, ⟨rfl, by simp⟩, rfl, ?_⟩
    rw [← hg, Nat.gcd_comm y, ← Nat.gcd_rec, Nat.gcd_comm]
  · rename_i hy
    have hy : y = 0 := by omega
    subst hy
    have ex : (x : Int) = gg t b := by
      unfold gg; rw [← hg]; simp
    have hd : ∀ i, CDivW i (x : Int) := fun i => by
      rw [ex]
      exact dv (n := n) (by unfold gg; omega) (by unfold gg; simp; omega) (by omega)
    rw [wS1]; simp [wS, wE, wEs, wT, wI, wO, wF, ofE, wCmp, opCmp, setsD]
    split
    · rename_i hb0
      refine ⟨hd _, hd _, rt_here ?_⟩
      rw [ex]
      exact hq _ (low_fr (by omega) h2 h1)
    · rename_i hb0
      refine ⟨hd _, hd _, rt_here ?_⟩
      rw [ex]
      have e : gg t b = gg (-t) (-b) := by simp [gg]
      rw [e]
      exact hq _ (low_fr (by omega) (by simpa using h2) (by simpa using h1))
end
end K68

set_option Elab.async false
set_option linter.all false
set_option maxRecDepth 100000
namespace K68
open PySem L2 Rf
abbrev iS (i : Int) : Str := toString i
def SmI (i : Int) : Prop := i.natAbs < 2 ^ 130
inductive All2 (R : D → Str → Prop) : List D → List Str → Prop
  | nil : All2 R [] []
  | cons {x : D} {t : Str} {xs : List D} {ts : List Str} (h : R x t) (r : All2 R xs ts) : All2 R (x :: xs) (t :: ts)
def R_fr (d : D) (t : Str) : Prop := ∃ a b, d = fr a b ∧ SmI a ∧ SmI b ∧ t = frT a b
def R_frs (d : D) (t : Str) : Prop := ∃ xs ts, d = .tup xs ∧ xs.length ≤ 10 ∧ All2 R_fr xs ts ∧ t = if xs.length = 0 then ("-" : Str) else Txt.join " " ts
def spT (l : Int) (f g : Str) (h : Int) : Str := (if l = 1 then ("[" : Str) else "(") ++ f ++ " " ++ g ++ (if h = 1 then ("]" : Str) else ")")
def R_span (d : D) (t : Str) : Prop := ∃ x y f g l h, d = .tup [x, y, .int l, .int h] ∧ FrN 125 x ∧ FrN 125 y ∧ R_fr x f ∧ R_fr y g ∧ (l = 0 ∨ l = 1) ∧ (h = 0 ∨ h = 1) ∧ t = spT l f g h
def R_spans (d : D) (t : Str) : Prop := ∃ xs ts, d = .tup xs ∧ xs.length ≤ 10 ∧ All2 R_span xs ts ∧ t = if xs.length = 0 then ("none" : Str) else Txt.join " + " ts
def R_side (d : D) (f s : Str) : Prop := ∃ x sp, d = .tup [x, sp] ∧ R_fr x f ∧ R_spans sp s
def R_mid (d : D) (t : Str) : Prop := (d = .non ∧ t = "middle none") ∨ ∃ x y sp f g s, d = .tup [x, y, sp] ∧ R_fr x f ∧ R_fr y g ∧ R_spans sp s ∧ t = "middle " ++ (f ++ " " ++ g) ++ " : " ++ s
def R_band (d : D) (t : Str) : Prop := ∃ l m r f1 s1 tm f2 s2, d = .tup [l, m, r] ∧ R_side l f1 s1 ∧ R_mid m tm ∧ R_side r f2 s2 ∧ t = Txt.join "\n" ["left " ++ f1 ++ " : " ++ s1, tm, "right " ++ f2 ++ " : " ++ s2]
def R_ints (sep : Str) (d : D) (t : Str) : Prop := ∃ zs : List Int, d = .tup (zs.map .int) ∧ zs.length ≤ 100 ∧ (∀ z ∈ zs, SmI z) ∧ t = Txt.join sep (zs.map iS)
def R_word (d : D) (t : Str) : Prop := ∃ p q r a b c, d = .tup [p, q, r] ∧ R_ints "" p a ∧ R_ints "" q b ∧ R_ints "" r c ∧ t = a ++ "." ++ b ++ "(" ++ c ++ ")"
def lineT (w : Str) (z : Int) (t : Str) : Str := w ++ iS z ++ " : " ++ t
def R_mach (d : D) (t : Str) : Prop := ∃ n sg hs dr rows en tsg ths trs, d = .tup [.int n, sg, .tup hs, .tup (List.map D.int dr), .tup rows, .tup (List.map D.int en)] ∧ SmI n ∧ R_ints " " sg tsg ∧ All2 (R_ints " ") hs ths ∧ All2 (R_ints " ") rows trs ∧
  hs.length = dr.length ∧ rows.length = en.length ∧ hs.length ≤ 20 ∧ rows.length ≤ 20 ∧ (∀ z ∈ dr, SmI z) ∧ (∀ z ∈ en, SmI z) ∧
  t = Txt.join "\n" (("machine " ++ iS n ++ " : " ++ tsg) :: (List.zipWith (lineT "head ") dr ths ++ List.zipWith (lineT "tail ") en trs))
def R_paper (d : D) (t : Str) : Prop := (∃ w, d = .tup [.str w] ∧ (w = "all" ∨ w = "none") ∧ t = w) ∨ ∃ x y f g, d = .tup [.str "some", x, y] ∧ R_frs x f ∧ R_frs y g ∧ t = "some " ++ f ++ " / " ++ g
/-- a saying's part that is no saying -/
def R_leaf (d : D) (t : Str) : Prop := (∃ i, d = .int i ∧ SmI i ∧ t = iS i) ∨ ∃ z zs, d = .tup (.int z :: List.map D.int zs) ∧ zs.length ≤ 2 ∧ SmI z ∧ (∀ z ∈ zs, SmI z) ∧ t = Txt.join " " ((z :: zs).map iS)
def SayTx : Nat → D → Str → Prop
  | 0, _, _ => False
  | L + 1, d, t => ∃ w ps ts, d = .tup (.str w :: ps) ∧ ps.length ≤ 3 ∧ w ∈ (["whole", "rest", "less", "most", "equal", "not", "some", "every", "both", "either"] : List Str) ∧ All2 (fun x s => R_leaf x s ∨ SayTx L x s) ps ts ∧ t = "(" ++ Txt.join " " (w :: ts) ++ ")"
def tx1 (R : D → Str → Prop) : DSpec := fun ds μ Q => ∃ d t, ds = [d] ∧ R d t ∧ Q (.str t) μ
def op2 (n : Nat) : DSpec := fun ds μ Q => ∃ x y a b, ds = [x, y] ∧ FrN a x ∧ FrN b y ∧ a + b ≤ 800 ∧ ∀ d, FrN (a + b + n) d → Q d μ
def sp (k : Nat) : Nat → DSpec
  | 0 | 20 => tx1 (R_ints " ")
  | 1 | 21 => tx1 R_fr
  | 2 | 22 => tx1 R_frs
  | 3 | 23 => tx1 fun d t => ∃ L, L + 1 ≤ k ∧ L ≤ 8 ∧ SayTx L d t
  | 4 => tx1 R_span
  | 5 | 24 => tx1 R_spans
  | 6 => fun ds μ Q => ∃ w d f s, ds = [.str w, d] ∧ (w = "left" ∨ w = "right") ∧ R_side d f s ∧ Q (.str (w ++ " " ++ f ++ " : " ++ s)) μ
  | 7 => tx1 R_mid
  | 8 | 25 => tx1 R_band
  | 9 | 26 => tx1 R_word
  | 10 | 27 => tx1 R_mach
  | 11 | 28 => tx1 R_paper
  | 12 => fun ds μ Q => ∃ (ns : List Int) (place : Int), ds = [.scr (ns.map .int), .int place] ∧ ns.length ≤ 63 ∧ (0 ≤ place ∧ place < 3) ∧ ∀ μ', WellOk μ.length 0 μ' → Q (.cel μ.length) μ'
  | 13 => fun ds μ Q => ∃ (n b : Nat) (many : Int), ds = [.cel n, .int many] ∧ WellOk n b μ ∧ b ≤ BIG ∧ 0 < many ∧ many.natAbs < 2 ^ 400 ∧ ∀ r μ', Wl n (b + 1) μ μ' → 0 ≤ r → r < many → Q (.int r) μ'
  | 14 => fun ds μ Q => ∃ d, ds = [d, d] ∧ Sm k d ∧ Q (.bl true) μ
  | 15 => fun ds μ Q => ∃ (t b : Int) (n : Nat), ds = [.int t, .int b] ∧ b ≠ 0 ∧ t.natAbs < 2 ^ n ∧ b.natAbs < 2 ^ n ∧ n ≤ 900 ∧ ∀ d, FrN n d → Q d μ
  | 16 => op2 1
  | 17 => op2 0
  | 18 => op2 1
  | 19 => fun ds μ Q => ∃ x y, ds = [x, y] ∧ FrN 400 x ∧ FrN 400 y ∧ ∀ b, Q (.bl b) μ
  | 29 => fun ds μ Q => ∃ n b : Nat, ds = [.cel n] ∧ WellOk n b μ ∧ b ≤ 900000000 ∧ ∀ r μ', Wl n (b + 2) μ μ' → r.natAbs < 2 ^ 100 → Q (.int r) μ'
  | 30 => fun ds μ Q => ∃ n b : Nat, ds = [.cel n] ∧ WellOk n b μ ∧ b ≤ 800000000 ∧ ∀ d μ', Wl n (b + 5) μ μ' → FrN 100 d → Q d μ'
  | 31 => fun ds μ Q => ∃ n b : Nat, ds = [.cel n] ∧ WellOk n b μ ∧ b ≤ 900000000 ∧ ∀ d μ', Wl n (b + 4) μ μ' → FrN 34 d → Q d μ'
  | 32 => fun ds μ Q => ∃ (n b L : Nat) (many left : Int), ds = [.cel n, .int many, .int left] ∧ WellOk n b μ ∧ b + 16 * 2 ^ L ≤ 800000000 ∧ L + 2 ≤ k ∧ 1 ≤ L ∧ L ≤ 8 ∧ left ≤ L ∧ ∀ d t μ', Wl n (b + (16 * 2 ^ L - 4)) μ μ' → SayTx L d t → Q d μ'
  | 33 => fun ds μ Q => ∃ (n b : Nat) (low high : D) (many : Int), ds = [.cel n, low, high, .int many] ∧ WellOk n b μ ∧ b ≤ 800000000 ∧ FrN 34 low ∧ FrN 45 high ∧ 0 ≤ many ∧ many ≤ 8 ∧ ∀ d t μ', Wl n (b + 40) μ μ' → R_spans d t → Q d μ'
  | 34 => fun ds μ Q => ∃ (n b : Nat) (j : Int), ds = [.cel n, .int j] ∧ WellOk n b μ ∧ b ≤ 900000000 ∧ 0 ≤ j ∧ j < 4 ∧ ∀ d t μ', Wl n (b + 200) μ μ' → R_word d t → Q d μ'
  | 35 => fun ds μ Q => ∃ n b : Nat, ds = [.cel n] ∧ WellOk n b μ ∧ b ≤ 800000000 ∧ ∀ d μ', Wl n (b + 4) μ μ' → FrN 34 d → Q d μ'
  | 36 => fun ds μ Q => ∃ n b : Nat, ds = [.cel n] ∧ WellOk n b μ ∧ b ≤ 700000000 ∧ ∀ d f s μ', Wl n (b + 12) μ μ' → R_side d f s → Q d μ'
  | 37 => fun ds μ Q => ∃ n b : Nat, ds = [.cel n] ∧ WellOk n b μ ∧ b ≤ 600000000 ∧ ∀ d t μ', Wl n (b + 100) μ μ' → R_band d t → Q d μ'
  | 38 => fun ds μ Q => ∃ n b : Nat, ds = [.cel n] ∧ WellOk n b μ ∧ b ≤ 700000000 ∧ ∀ d t μ', Wl n (b + 30) μ μ' → R_paper d t → Q d μ'
  | 39 => fun ds μ Q => ∃ n b : Nat, ds = [.cel n] ∧ WellOk n b μ ∧ b ≤ 700000000 ∧ ∀ d t μ', Wl n (b + 300) μ μ' → R_mach d t → Q d μ'
  | _ => fun _ _ _ => False
def lv : Nat → Nat
  | 2 | 22 | 3 | 23 | 4 | 24 | 10 | 27 | 16 | 17 | 18 | 29 | 31 | 34 | 39 => 2
  | 5 | 25 | 28 | 11 | 30 | 32 | 33 | 35 => 3
  | 6 | 7 | 36 | 38 => 4
  | 8 | 37 => 5
  | _ => 1
def T (k : Nat) : Tab := fun f ds μ Q => lv f ≤ k ∧ sp k f ds μ Q
def LV : Nat := 20
theorem tc {k f m : Nat} {ds : List D} {μ : M} {Q : WQ} (hk : m ≤ k) (h : lv f ≤ m) (s : sp k f ds μ Q) : T k f ds μ Q := ⟨Nat.le_trans h hk, s⟩
section
variable {k : Nat} {μ : M} {Q : WQ}
theorem tln {n : Nat} {s : Str} (h : Tx n s) (l : n ≤ 16777216) : s.length ≤ sizeLine := by
  rw [sizeLine_eq]; exact Nat.le_trans h.1 l
theorem tla {n m : Nat} {s t : Str} (h : Tx n s) (j : Tx m t) (l : n + m ≤ 16777216) : s.length + t.length ≤ sizeLine := by
  rw [sizeLine_eq]; have := h.1; have := j.1; omega
theorem SmI.log {i : Int} (h : SmI i) : i.natAbs.log2 < 1920 := log_lt (n := 130) (by decide) h (by decide)
theorem SmI.tx {i : Int} (h : SmI i) : Tx 131 (iS i) := tx_int (by decide) h
theorem tx_lit {n : Nat} {s : String} (h : s.length ≤ n) : Tx n (Str.ofString s) := ⟨by rw [ofString_length]; exact h, ofS_ok s⟩
theorem R_fr.tx {d : D} {t : Str} (h : R_fr d t) : Tx 263 t := by
  obtain ⟨a, b, rfl, h1, h2, rfl⟩ := h
  unfold frT
  split
  · exact h1.tx.mono (by decide)
  · exact (h1.tx.append (tx_lit (n := 1) (by decide))).append h2.tx
theorem All2.len {R : D → Str → Prop} : ∀ {xs : List D} {ts : List Str}, All2 R xs ts → xs.length = ts.length
  | _, _, .nil => rfl
  | _, _, .cons _ r => by simp [r.len]
theorem All2.tx {R : D → Str → Prop} {n : Nat} (h : ∀ x t, R x t → Tx n t) : ∀ {xs : List D} {ts : List Str}, All2 R xs ts → ∀ t ∈ ts, Tx n t
  | _, _, .nil, t, ht => by cases ht
  | _, _, .cons h1 r, t, ht => by
    rcases List.mem_cons.mp ht with rfl | ht
    · exact h _ _ h1
    · exact r.tx h t ht
theorem All2.get {R : D → Str → Prop} : ∀ {xs : List D} {ts : List Str}, All2 R xs ts → ∀ {i : Nat} {x : D}, xs[i]? = some x → ∃ t, ts[i]? = some t ∧ R x t
  | _, _, .nil, i, x, h => by cases h
  | _, _, .cons h1 r, i, x, h => by
    cases i with
    | zero => cases h; exact ⟨_, rfl, h1⟩
    | succ i => exact r.get h
/-- a comprehension that makes texts -/
theorem lc_txt {tg : CT} {elt : WE} {own : List Nat} {s : Src} {ρ : Rho} {Γ : Tab} {ts : List Str} (hs : s.ok μ) (hl : s.items.length = ts.length) (hl2 : ts.length ≤ 1000)
    (h : ∀ (i : Nat) x t, s.items[i]? = some x → ts[i]? = some t → ∃ ρ2, bindT μ tg x (wipeD ρ own) = some ρ2 ∧ ∀ P : WQ, P (.str t) μ → elt ρ2 μ P)
    (hq : Q (.lst (ts.map .str)) μ) : wLc tg (wF Γ .nil) elt own s ρ μ Q := by
  refine ⟨fun i acc μ' => acc = (ts.take i).map .str ∧ μ' = μ, ⟨by simp, rfl⟩, fun i acc μ' h _ => h.2 ▸ hs, ?_, ?_⟩
  · rintro i x acc μ' hx ⟨rfl, rfl⟩
    have hi : i < s.items.length := (List.getElem?_eq_some_iff.mp hx).1
    have ht : ts[i]? = some (ts[i]'(by omega)) := List.getElem?_eq_getElem (by omega)
    obtain ⟨ρ2, hb, hh⟩ := h i x _ hx ht
    refine ⟨ρ2, hb, ?_⟩
    simp only [wF, if_true]
    refine hh _ ⟨line_lt (by simp; omega), ?_, rfl⟩
    rw [List.take_add_one, ht, List.map_append]
    rfl
  · rintro acc μ' ⟨rfl, rfl⟩
    refine new_l (line_le (by simp; omega)) ?_
    rw [hl, List.take_length]
    exact hq
theorem b1 {d : D} {t : Str} (h : R_fr d t) (hq : Q (.str t) μ) : wDef (T k) 1 ir_show_fraction [d] μ Q := by
  have htx := h.tx
  obtain ⟨a, b, rfl, h1, h2, rfl⟩ := h
  unfold frT at hq htx
  simp only [wDef, ir_show_fraction, startD]
  rw [wS1]; simp [wS, wE, wEs, wT, wCmp, opCmp, wJ, Str.empty_append]
  split
  · rename_i e
    rw [if_pos e] at hq
    exact ⟨h1.log, rt_here hq⟩
  · rename_i e
    rw [if_neg e] at hq htx
    exact ⟨h1.log, tln h1.tx (by decide), tln (h1.tx.append (tx_lit (n := 1) (by decide))) (by decide), h2.log, tln htx (by decide), rt_here hq⟩
theorem b21 {d : D} {t : Str} (h : R_fr d t) (hq : Q (.str t) μ) : wDef (T k) 1 ir__law_shown [d] μ Q := by
  have htx := h.tx
  obtain ⟨a, b, rfl, h1, h2, rfl⟩ := h
  unfold frT at hq htx
  simp only [wDef, ir__law_shown, startD]
  rw [wS1]; simp [wS, wE, wEs, wT, wCmp, opCmp]
  split
  · rename_i e
    rw [if_pos e] at hq
    exact ⟨h1.log, rt_here hq⟩
  · rename_i e
    rw [if_neg e] at hq htx
    exact ⟨h1.log, tla h1.tx (tx_lit (n := 1) (by decide)) (by decide), h2.log, tla (h1.tx.append (tx_lit (n := 1) (by decide))) h2.tx (by decide), rt_here hq⟩
theorem R_frs.tx {d : D} {t : Str} (h : R_frs d t) : Tx 3000 t := by
  obtain ⟨xs, ts, rfl, h1, h2, rfl⟩ := h
  split
  · exact tx_lit (by decide)
  · refine (tx_join (tx_lit (n := 1) (s := " ") (by decide)) (h2.tx fun _ _ => R_fr.tx)).mono ?_
    rw [← h2.len]; omega
theorem b2 {d : D} {t : Str} (hk : 1 ≤ k) (h : R_frs d t) (hq : Q (.str t) μ) : wDef (T k) 2 ir_show_numbers [d] μ Q := by
  obtain ⟨xs, ts, rfl, h1, h2, rfl⟩ := h
  simp only [wDef, ir_show_numbers, startD]
  rw [wS1]; simp [wS, wE, wEs, wT, wCmp, opCmp, wI, srcOf]
  split
  · rename_i e
    rw [if_neg (by cases xs <;> simp_all)] at hq
    refine lc_txt (ts := ts) (fun n h => by cases h) h2.len (by rw [← h2.len]; omega) ?_ ?_
    · intro i x t hx ht
      obtain ⟨t', e1, e2⟩ := h2.get hx
      rw [ht] at e1
      cases e1
      refine ⟨_, rfl, fun P hP => ?_⟩
      simp [wE, wEs, wipeD]
      exact tc hk (by decide) ⟨_, _, rfl, e2, hP⟩
    · simp [strsD_map]
      exact ⟨Nat.le_trans (join_sum (N := 10) (tx_lit (n := 1) (s := " ") (by decide)) (h2.tx fun _ _ => R_fr.tx) (by rw [← h2.len]; exact h1)) (by decide), rt_here hq⟩
  · rename_i e
    rw [if_pos (by cases xs <;> simp_all)] at hq
    exact rt_here hq
theorem b22 {d : D} {t : Str} (hk : 1 ≤ k) (h : R_frs d t) (hq : Q (.str t) μ) : wDef (T k) 2 ir__law_numbers [d] μ Q := by
  obtain ⟨xs, ts, rfl, h1, h2, rfl⟩ := h
  simp only [wDef, ir__law_numbers, startD]
  rw [wS1]; simp [wS, wE, wEs, wT, wCmp, opCmp, wI, srcOf]
  split
  · rename_i e
    rw [if_pos (by simp [e])] at hq
    exact rt_here hq
  · rename_i e
    rw [if_neg (by cases xs <;> simp_all)] at hq
    refine lc_txt (ts := ts) (fun n h => by cases h) h2.len (by rw [← h2.len]; omega) ?_ ?_
    · intro i x t hx ht
      obtain ⟨t', e1, e2⟩ := h2.get hx
      rw [ht] at e1
      cases e1
      refine ⟨_, rfl, fun P hP => ?_⟩
      simp [wE, wEs, wipeD]
      exact tc hk (by decide) ⟨_, _, rfl, e2, hP⟩
    · simp [strsD_map]
      exact ⟨Nat.le_trans (join_sum (N := 10) (tx_lit (n := 1) (s := " ") (by decide)) (h2.tx fun _ _ => R_fr.tx) (by rw [← h2.len]; exact h1)) (by decide), rt_here hq⟩
theorem ints_tx {sep : Str} {m : Nat} {zs : List Int} (hs : Tx m sep) (hm : m ≤ 9) (hl : zs.length ≤ 100) (h : ∀ z ∈ zs, SmI z) : Tx 14000 (Txt.join sep (zs.map iS)) := by
  refine (tx_join (n := 131) hs fun t ht => ?_).mono ?_
  · obtain ⟨z, hz, rfl⟩ := List.mem_map.mp ht
    exact (h z hz).tx
  · rw [List.length_map]
    calc zs.length * (131 + m) ≤ 100 * (131 + 9) := Nat.mul_le_mul hl (by omega)
      _ ≤ 14000 := by decide
theorem ints_sum {sep : Str} {m : Nat} {zs : List Int} (hs : Tx m sep) (hm : m ≤ 9) (hl : zs.length ≤ 100) (h : ∀ z ∈ zs, SmI z) : ((zs.map iS).map (·.length)).sum + (zs.map iS).length * sep.length ≤ 16777216 := by
  refine Nat.le_trans (join_sum (N := 100) (n := 131) hs (fun t ht => ?_) (by simpa using hl)) ?_
  · obtain ⟨z, hz, rfl⟩ := List.mem_map.mp ht
    exact (h z hz).tx
  · calc 100 * (131 + m) ≤ 100 * (131 + 9) := Nat.mul_le_mul (Nat.le_refl _) (by omega)
      _ ≤ 16777216 := by decide
theorem b0 {d : D} {t : Str} (h : R_ints " " d t) (hq : Q (.str t) μ) : wDef (T k) 2 ir_spaced [d] μ Q := by
  obtain ⟨zs, rfl, h1, h2, rfl⟩ := h
  simp only [wDef, ir_spaced, startD]
  rw [wS1]; simp [wS, wE, wEs, wT, wCmp, opCmp, wI, srcOf]
  refine lc_txt (ts := zs.map iS) (fun n h => by cases h) (by simp) (by simp; omega) ?_ ?_
  · intro i x t hx ht
    simp only [List.getElem?_map, Option.map_eq_some_iff] at hx ht
    obtain ⟨z, hz, rfl⟩ := hx
    obtain ⟨z', hz', rfl⟩ := ht
    rw [hz] at hz'
    cases hz'
    refine ⟨_, rfl, fun P hP => ?_⟩
    simp [wE, wEs, wipeD]
    exact ⟨(h2 z (List.mem_of_getElem? hz)).log, hP⟩
  · have := ints_sum (tx_lit (n := 1) (s := " ") (by decide)) (by decide) h1 h2
    simp only [r_join, r_asSql, Option.bind_some, strsD_map]
    exact ⟨this, rt_here hq⟩
theorem b20 {d : D} {t : Str} (h : R_ints " " d t) (hq : Q (.str t) μ) : wDef (T k) 2 ir__law_spaced [d] μ Q := by
  obtain ⟨zs, rfl, h1, h2, rfl⟩ := h
  simp only [wDef, ir__law_spaced, startD]
  rw [wS1]; simp [wS, wE, wEs, wT, wCmp, opCmp, wI, srcOf]
  refine lc_txt (ts := zs.map iS) (fun n h => by cases h) (by simp) (by simp; omega) ?_ ?_
  · intro i x t hx ht
    simp only [List.getElem?_map, Option.map_eq_some_iff] at hx ht
    obtain ⟨z, hz, rfl⟩ := hx
    obtain ⟨z', hz', rfl⟩ := ht
    rw [hz] at hz'
    cases hz'
    refine ⟨_, rfl, fun P hP => ?_⟩
    simp [wE, wEs, wipeD]
    exact ⟨(h2 z (List.mem_of_getElem? hz)).log, hP⟩
  · have := ints_sum (tx_lit (n := 1) (s := " ") (by decide)) (by decide) h1 h2
    simp only [r_join, r_asSql, Option.bind_some, strsD_map]
    exact ⟨this, rt_here hq⟩
/-! sayings -/
theorem leaf_tx {d : D} {t : Str} (h : R_leaf d t) : Tx 480 t := by
  rcases h with ⟨i, rfl, h, rfl⟩ | ⟨z, zs, rfl, h1, h2, h3, rfl⟩
  · exact h.tx.mono (by decide)
  · refine (tx_join (tx_lit (n := 1) (s := " ") (by decide)) (n := 131) fun t ht => ?_).mono ?_
    · obtain ⟨y, hy, rfl⟩ := List.mem_map.mp ht
      rcases List.mem_cons.mp hy with rfl | hy
      · exact h2.tx
      · exact (h3 y hy).tx
    · simp
      omega
theorem word_tx : ∀ w ∈ (["whole", "rest", "less", "most", "equal", "not", "some", "every", "both", "either"] : List Str), Tx 6 w := by
  intro w hw
  have h : ∀ w ∈ (["whole", "rest", "less", "most", "equal", "not", "some", "every", "both", "either"] : List Str), w.length ≤ 6 ∧ PyData.strOk w = true := by decide +kernel
  exact h w hw
theorem say_tx : ∀ {L : Nat} {d : D} {t : Str}, SayTx L d t → Tx (500 * 3 ^ L - 20) t
  | 0, _, _, h => h.elim
  | L + 1, d, t, h => by
    obtain ⟨w, ps, ts, rfl, h1, h2, h3, rfl⟩ := h
    have e : 3 ^ (L + 1) = 3 * 3 ^ L := by rw [Nat.pow_succ, Nat.mul_comm]
    have p : 1 ≤ 3 ^ L := by have := Nat.pow_le_pow_right (n := 3) (by decide) (Nat.zero_le L); simpa using this
    have ht : ∀ t ∈ ts, Tx (500 * 3 ^ L - 20) t := h3.tx fun x s h => by
      rcases h with h | h
      · exact (leaf_tx h).mono (by omega)
      · exact say_tx h
    have hj : Tx ((6 + 1) + ts.length * ((500 * 3 ^ L - 20) + 1)) (Txt.join " " (w :: ts)) := by
      cases ts with
      | nil => exact (word_tx w h2).mono (by simp)
      | cons u us =>
        show Tx _ (Builtin.Str.glued " " (w :: u :: us))
        rw [StrLaws.glued_eq_join]
        show Tx _ (w ++ " " ++ Str.join " " (u :: us))
        rw [← StrLaws.glued_eq_join]
        exact ((word_tx w h2).append (tx_lit (n := 1) (by decide))).append (tx_join (tx_lit (n := 1) (by decide)) ht)
    refine (((tx_lit (n := 1) (s := "(") (by decide)).append hj).append (tx_lit (n := 1) (s := ")") (by decide))).mono ?_
    have : ts.length ≤ 3 := by rw [← h3.len]; exact h1
    have : ts.length * (500 * 3 ^ L - 20 + 1) ≤ 3 * (500 * 3 ^ L - 20 + 1) := Nat.mul_le_mul_right _ this
    rw [e]
    omega
theorem say_mono : ∀ {L : Nat} {d : D} {t : Str}, SayTx L d t → SayTx (L + 1) d t
  | 0, _, _, h => h.elim
  | L + 1, d, t, h => by
    obtain ⟨w, ps, ts, e, h1, h2, h3, e2⟩ := h
    refine ⟨w, ps, ts, e, h1, h2, ?_, e2⟩
    clear e h1 e2
    induction h3 with
    | nil => exact .nil
    | cons h r ih => exact .cons (h.imp id say_mono) ih
theorem say_le {L M : Nat} {d : D} {t : Str} (h : SayTx L d t) (l : L ≤ M) : SayTx M d t := by
  induction l with
  | refl => exact h
  | step _ ih => exact say_mono ih
/-- a part of a saying, the word too -/
def R_part (L : Nat) (d : D) (t : Str) : Prop := (d = .str t ∧ Tx 6 t) ∨ R_leaf d t ∨ SayTx L d t
theorem part_tx {L : Nat} {d : D} {t : Str} (hL : L ≤ 7) (h : R_part L d t) : Tx 1100000 t := by
  rcases h with ⟨_, h⟩ | h | h
  · exact h.mono (by decide)
  · exact (leaf_tx h).mono (by decide)
  · have : 3 ^ L ≤ 3 ^ 7 := Nat.pow_le_pow_right (by decide) hL
    exact (say_tx h).mono (by have e : 3 ^ 7 = 2187 := by decide
                              omega)
theorem parts_sum {L : Nat} {xs : List D} {ts : List Str} (hL : L ≤ 7) (hl : ts.length ≤ 4) (h : All2 (R_part L) xs ts) : (ts.map (·.length)).sum + ts.length * (" " : Str).length ≤ 16777216 :=
  Nat.le_trans (join_sum (N := 4) (tx_lit (n := 1) (s := " ") (by decide)) (h.tx fun _ _ => part_tx hL) hl) (by decide)
theorem b3 {L : Nat} {d : D} {t : Str} (hk : L + 1 ≤ k + 1) (hk2 : 1 ≤ k) (hL : L ≤ 8) (h : SayTx L d t) (hq : Q (.str t) μ) : wDef (T k) 3 ir_show_saying [d] μ Q := by
  have htx := say_tx h
  cases L with
  | zero => exact h.elim
  | succ L =>
    obtain ⟨w, ps, ts, rfl, h1, h2, h3, rfl⟩ := h
    have hw := word_tx w h2
    have ha : All2 (R_part L) (.str w :: ps) (w :: ts) := by
      refine .cons (.inl ⟨rfl, hw⟩) ?_
      clear htx hq h1 h2
      induction h3 with
      | nil => exact .nil
      | cons h r ih => exact .cons (.inr h) ih
    have hl4 : (w :: ts).length ≤ 4 := by rw [← ha.len]; simp; omega
    generalize hxs : (D.str w :: ps) = xs at ha
    generalize hts : (w :: ts) = us at ha hl4 htx hq
    simp only [wDef, ir_show_saying, startD]
    rw [wS1]; simp [wS, wE, wEs, wT, wI, wO, wF, ofE, wCmp, opCmp, setsD]
    refine new_c (line_le (by simp)) ?_
    rw [wS1]; simp [wS, wE, wEs, wT, wI, wO, wF, ofE, wCmp, opCmp, setsD]
    simp only [srcOf, asSq, Option.map_some]
    refine ⟨fun i ρ μ' => μ' = μ ++ [.lst ((us.map .str).take i)] ∧ ∃ o, ρ = [some (.tup xs), some (.cel μ.length), o], ⟨by simp, _, rfl⟩, fun _ _ _ _ _ _ h => (by cases h), ?_, ?_⟩
    · rintro i x ρ μ' hx ⟨rfl, o, rfl⟩
      obtain ⟨t, ht, hp⟩ := ha.get hx
      have hi : i < us.length := (List.getElem?_eq_some_iff.mp ht).1
      have et : (us.map D.str).take i ++ [.str t] = (us.map D.str).take (i + 1) := by
        rw [List.take_add_one, List.getElem?_map, ht]; rfl
      have hll : ((us.map D.str).take i).length < sizeLine := line_lt (by simp; omega)
      refine ⟨_, rfl, ?_⟩
      rcases hp with ⟨rfl, h6⟩ | (⟨z, rfl, hz, rfl⟩ | ⟨z, zs, rfl, g1, g2, g3, rfl⟩) | hp
      · rw [wS1]; simp [wS, wE, wEs, wT, wI, wO, wF, ofE, wCmp, opCmp, setsD]
        rw [wS1]; simp [wS, wE, wEs, wT, wI, wO, wF, ofE, wCmp, opCmp, setsD]
        exact ⟨tln h6 (by decide), by simpa using hll, et⟩
      · rw [wS1]; simp [wS, wE, wEs, wT, wI, wO, wF, ofE, wCmp, opCmp, setsD]
        rw [wS1]; simp [wS, wE, wEs, wT, wI, wO, wF, ofE, wCmp, opCmp, setsD]
        exact ⟨hz.log, by simpa using hll, et⟩
      · rw [wS1]; simp [wS, wE, wEs, wT, wI, wO, wF, ofE, wCmp, opCmp, setsD]
        rw [wS1]; simp [wS, wE, wEs, wT, wI, wO, wF, ofE, wCmp, opCmp, setsD]
        rw [wS1]; simp [wS, wE, wEs, wT, wI, wO, wF, ofE, wCmp, opCmp, setsD]
        refine tc hk2 (by decide) ⟨_, _, rfl, ⟨z :: zs, rfl, by simp; omega, ?_, rfl⟩, ?_⟩
        · intro y hy
          rcases List.mem_cons.mp hy with rfl | hy
          · exact g2
          · exact g3 y hy
        · simp
          exact ⟨by simpa using hll, et⟩
      · cases L with
        | zero => exact hp.elim
        | succ L =>
          obtain ⟨w', ps', ts', rfl, j1, j2, j3, rfl⟩ := id hp
          rw [wS1]; simp [wS, wE, wEs, wT, wI, wO, wF, ofE, wCmp, opCmp, setsD]
          rw [wS1]; simp [wS, wE, wEs, wT, wI, wO, wF, ofE, wCmp, opCmp, setsD]
          rw [wS1]; simp [wS, wE, wEs, wT, wI, wO, wF, ofE, wCmp, opCmp, setsD]
          refine tc (m := 2) (by omega) (by decide) ⟨_, _, rfl, ⟨L + 1, by omega, by omega, hp⟩, ?_⟩
          simp
          exact ⟨by simpa using hll, et⟩
    · rintro ρ μ' ⟨rfl, o, rfl⟩
      have e : (us.map D.str).take xs.length = us.map D.str := by rw [ha.len, ← List.length_map (f := D.str), List.take_length]
      simp only [e]
      rw [wS1]; simp [wS, wE, wEs, wT, wI, wO, wF, ofE, wCmp, opCmp, setsD]
      simp only [strsD_map]
      have hB : 3 ^ (L + 1) ≤ 3 ^ 8 := Nat.pow_le_pow_right (by decide) hL
      have hB2 : 3 ^ 8 = 6561 := by decide
      have hlen := htx.1
      rw [Str.length_append, Str.length_append] at hlen
      refine ⟨parts_sum (by omega) hl4 ha, ?_, ?_, rt_cut rfl hq⟩
      · rw [sizeLine_eq]; omega
      · rw [sizeLine_eq, Str.length_append]; omega
theorem b23 {L : Nat} {d : D} {t : Str} (hk : L + 1 ≤ k + 1) (hk2 : 1 ≤ k) (hL : L ≤ 8) (h : SayTx L d t) (hq : Q (.str t) μ) : wDef (T k) 3 ir__law_saying_text [d] μ Q := by
  have htx := say_tx h
  cases L with
  | zero => exact h.elim
  | succ L =>
    obtain ⟨w, ps, ts, rfl, h1, h2, h3, rfl⟩ := h
    have hw := word_tx w h2
    have ha : All2 (R_part L) (.str w :: ps) (w :: ts) := by
      refine .cons (.inl ⟨rfl, hw⟩) ?_
      clear htx hq h1 h2
      induction h3 with
      | nil => exact .nil
      | cons h r ih => exact .cons (.inr h) ih
    have hl4 : (w :: ts).length ≤ 4 := by rw [← ha.len]; simp; omega
    generalize hxs : (D.str w :: ps) = xs at ha
    generalize hts : (w :: ts) = us at ha hl4 htx hq
    simp only [wDef, ir__law_saying_text, startD]
    rw [wS1]; simp [wS, wE, wEs, wT, wI, wO, wF, ofE, wCmp, opCmp, setsD]
    refine new_c (line_le (by simp)) ?_
    rw [wS1]; simp [wS, wE, wEs, wT, wI, wO, wF, ofE, wCmp, opCmp, setsD]
    simp only [srcOf, asSq, Option.map_some]
    refine ⟨fun i ρ μ' => μ' = μ ++ [.lst ((us.map .str).take i)] ∧ ∃ o, ρ = [some (.tup xs), some (.cel μ.length), o], ⟨by simp, _, rfl⟩, fun _ _ _ _ _ _ h => (by cases h), ?_, ?_⟩
    · rintro i x ρ μ' hx ⟨rfl, o, rfl⟩
      obtain ⟨t, ht, hp⟩ := ha.get hx
      have hi : i < us.length := (List.getElem?_eq_some_iff.mp ht).1
      have et : (us.map D.str).take i ++ [.str t] = (us.map D.str).take (i + 1) := by
        rw [List.take_add_one, List.getElem?_map, ht]; rfl
      have hll : ((us.map D.str).take i).length < sizeLine := line_lt (by simp; omega)
      refine ⟨_, rfl, ?_⟩
      rcases hp with ⟨rfl, h6⟩ | (⟨z, rfl, hz, rfl⟩ | ⟨z, zs, rfl, g1, g2, g3, rfl⟩) | hp
      · rw [wS1]; simp [wS, wE, wEs, wT, wI, wO, wF, ofE, wCmp, opCmp, setsD]
        rw [wS1]; simp [wS, wE, wEs, wT, wI, wO, wF, ofE, wCmp, opCmp, setsD]
        exact ⟨by simpa using hll, et⟩
      · rw [wS1]; simp [wS, wE, wEs, wT, wI, wO, wF, ofE, wCmp, opCmp, setsD]
        rw [wS1]; simp [wS, wE, wEs, wT, wI, wO, wF, ofE, wCmp, opCmp, setsD]
        exact ⟨hz.log, by simpa using hll, et⟩
      · rw [wS1]; simp [wS, wE, wEs, wT, wI, wO, wF, ofE, wCmp, opCmp, setsD]
        rw [wS1]; simp [wS, wE, wEs, wT, wI, wO, wF, ofE, wCmp, opCmp, setsD]
        refine tc hk2 (by decide) ⟨_, _, rfl, ⟨z :: zs, rfl, by simp; omega, ?_, rfl⟩, ?_⟩
        · intro y hy
          rcases List.mem_cons.mp hy with rfl | hy
          · exact g2
          · exact g3 y hy
        · simp
          exact ⟨by simpa using hll, et⟩
      · cases L with
        | zero => exact hp.elim
        | succ L =>
          obtain ⟨w', ps', ts', rfl, j1, j2, j3, rfl⟩ := id hp
          rw [wS1]; simp [wS, wE, wEs, wT, wI, wO, wF, ofE, wCmp, opCmp, setsD]
          rw [wS1]; simp [wS, wE, wEs, wT, wI, wO, wF, ofE, wCmp, opCmp, setsD]
          refine tc (m := 2) (by omega) (by decide) ⟨_, _, rfl, ⟨L + 1, by omega, by omega, hp⟩, ?_⟩
          simp
          exact ⟨by simpa using hll, et⟩
    · rintro ρ μ' ⟨rfl, o, rfl⟩
      have e : (us.map D.str).take xs.length = us.map D.str := by rw [ha.len, ← List.length_map (f := D.str), List.take_length]
      simp only [e]
      rw [wS1]; simp [wS, wE, wEs, wT, wI, wO, wF, ofE, wCmp, opCmp, setsD]
      simp only [strsD_map]
      have hB : 3 ^ (L + 1) ≤ 3 ^ 8 := Nat.pow_le_pow_right (by decide) hL
      have hB2 : 3 ^ 8 = 6561 := by decide
      have hlen := htx.1
      rw [Str.length_append, Str.length_append] at hlen
      refine ⟨parts_sum (by omega) hl4 ha, ?_, ?_, rt_cut rfl hq⟩
      · rw [sizeLine_eq]; omega
      · rw [sizeLine_eq, Str.length_append]; omega
/-! spans -/
theorem R_span.tx {d : D} {t : Str} (h : R_span d t) : Tx 600 t := by
  obtain ⟨x, y, f, g, l, h', rfl, _, _, h3, h4, _, _, rfl⟩ := h
  unfold spT
  have a : Tx 1 (if l = 1 then ("[" : Str) else "(") := by split <;> exact tx_lit (by decide)
  have b : Tx 1 (if h' = 1 then ("]" : Str) else ")") := by split <;> exact tx_lit (by decide)
  exact ((((a.append h3.tx).append (tx_lit (n := 1) (by decide))).append h4.tx).append b).mono (by decide)
theorem b4 {d : D} {t : Str} (hk : 1 ≤ k) (h : R_span d t) (hq : Q (.str t) μ) : wDef (T k) 7 ir_show_span [d] μ Q := by
  obtain ⟨x, y, f, g, l, h', rfl, _, _, h3, h4, h5, h6, rfl⟩ := h
  have a : Tx 1 (if l = 1 then ("[" : Str) else "(") := by split <;> exact tx_lit (by decide)
  have b : Tx 1 (if h' = 1 then ("]" : Str) else ")") := by split <;> exact tx_lit (by decide)
  simp only [wDef, ir_show_span, startD]
  rw [wS1]; simp [wS, wE, wEs, wT, wI, wO, wF, ofE, wCmp, opCmp, setsD]
  have key : wSs (T k) (.cons (.ret (.bin .Add (.bin .Add (.bin .Add (.bin .Add (.var 5) (.cal 1 (.cons (.var 1) .nil))) (.cst (.str " "))) (.cal 1 (.cons (.var 2) .nil))) (.var 6))) .nil)
      { nx := fun x μ' => rtD μ Q D.non μ', rt := rtD μ Q } [some (.tup [x, y, .int l, .int h']), some x, some y, some (.int l), some (.int h'), some (.str (if l = 1 then ("[" : Str) else "(")), some (.str (if h' = 1 then ("]" : Str) else ")"))] μ := by
    rw [wS1]
    simp only [wS, wE, wEs]
    simp
    refine tc hk (by decide) ⟨_, _, rfl, h3, ?_⟩
    simp
    refine ⟨tla a h3.tx (by decide), tla (a.append h3.tx) (tx_lit (n := 1) (by decide)) (by decide), tc hk (by decide) ⟨_, _, rfl, h4, ?_⟩⟩
    simp
    exact ⟨tla ((a.append h3.tx).append (tx_lit (n := 1) (by decide))) h4.tx (by decide), tla (((a.append h3.tx).append (tx_lit (n := 1) (by decide))).append h4.tx) b (by decide), rt_here hq⟩
  rw [wS1]
  simp only [wS, wE, wT, wCmp, opCmp]
  simp
  rcases h5 with rfl | rfl <;> rcases h6 with rfl | rfl <;> exact key
theorem R_spans.tx {d : D} {t : Str} (h : R_spans d t) : Tx 7000 t := by
  obtain ⟨xs, ts, rfl, h1, h2, rfl⟩ := h
  split
  · exact tx_lit (by decide)
  · refine (tx_join (tx_lit (n := 3) (s := " + ") (by decide)) (h2.tx fun _ _ => R_span.tx)).mono ?_
    rw [← h2.len]; omega
theorem b5 {d : D} {t : Str} (hk : 2 ≤ k) (h : R_spans d t) (hq : Q (.str t) μ) : wDef (T k) 2 ir_show_spans [d] μ Q := by
  obtain ⟨xs, ts, rfl, h1, h2, rfl⟩ := h
  simp only [wDef, ir_show_spans, startD]
  rw [wS1]; simp [wS, wE, wEs, wT, wCmp, opCmp, wI, srcOf]
  split
  · rename_i e
    rw [if_neg (by cases xs <;> simp_all)] at hq
    refine lc_txt (ts := ts) (fun n h => by cases h) h2.len (by rw [← h2.len]; omega) ?_ ?_
    · intro i x t hx ht
      obtain ⟨t', e1, e2⟩ := h2.get hx
      rw [ht] at e1
      cases e1
      refine ⟨_, rfl, fun P hP => ?_⟩
      simp [wE, wEs, wipeD]
      exact tc hk (by decide) ⟨_, _, rfl, e2, hP⟩
    · simp [strsD_map]
      exact ⟨Nat.le_trans (join_sum (N := 10) (tx_lit (n := 3) (s := " + ") (by decide)) (h2.tx fun _ _ => R_span.tx) (by rw [← h2.len]; exact h1)) (by decide), rt_here hq⟩
  · rename_i e
    rw [if_pos (by cases xs <;> simp_all)] at hq
    exact rt_here hq
end
end K68

set_option Elab.async false
set_option linter.all false
set_option maxRecDepth 100000
namespace K68
open PySem L2 Rf
section
variable {k : Nat} {μ : M} {Q : WQ}
theorem at01 {a b : Nat} : atI (⟨#[a, b]⟩ : Str).cps.toList 0 = some a := rfl
theorem b24 {d : D} {t : Str} (hk : 1 ≤ k) (h : R_spans d t) (hq : Q (.str t) μ) : wDef (T k) 6 ir__law_spans_text [d] μ Q := by
  have htx := h.tx
  obtain ⟨xs, ts, rfl, h1, h2, rfl⟩ := h
  simp only [wDef, ir__law_spans_text, startD]
  rw [wS1]; simp [wS, wE, wEs, wT, wI, wO, wF, ofE, wCmp, opCmp, setsD]
  refine new_c (line_le (by simp)) ?_
  rw [wS1]; simp [wS, wE, wEs, wT, wI, wO, wF, ofE, wCmp, opCmp, setsD]
  simp only [srcOf, asSq, Option.map_some]
  refine ⟨fun i ρ μ' => μ' = μ ++ [.lst ((ts.map .str).take i)] ∧ ∃ o2 o3 o4 o5, ρ = [some (.tup xs), some (.cel μ.length), o2, o3, o4, o5], ⟨by simp, _, _, _, _, rfl⟩, fun _ _ _ _ _ _ h => (by cases h), ?_, ?_⟩
  · rintro i x ρ μ' hx ⟨rfl, o2, o3, o4, o5, rfl⟩
    obtain ⟨t, ht, x, y, f, g, l, h', rfl, _, _, h3, h4, h5, h6, rfl⟩ := h2.get hx
    have hi : i < ts.length := (List.getElem?_eq_some_iff.mp ht).1
    have et : (ts.map D.str).take i ++ [.str (spT l f g h')] = (ts.map D.str).take (i + 1) := by
      rw [List.take_add_one, List.getElem?_map, ht]; rfl
    have hll : ((ts.map D.str).take i).length < sizeLine := line_lt (by rw [h2.len] at h1; simp; omega)
    refine ⟨_, rfl, ?_⟩
    have a : Tx 1 (if l = 1 then ("[" : Str) else "(") := by split <;> exact tx_lit (by decide)
    have b : Tx 1 (if h' = 1 then ("]" : Str) else ")") := by split <;> exact tx_lit (by decide)
    have ea : ∀ P : WQ, ∀ ν, P (.str (if l = 1 then ("[" : Str) else "(")) ν → opIdx (.str "([") (.int l) ν P := by
      intro P ν hP
      rcases h5 with rfl | rfl
      · exact ⟨by decide, hP⟩
      · exact ⟨by decide, hP⟩
    have eb : ∀ P : WQ, ∀ ν, P (.str (if h' = 1 then ("]" : Str) else ")")) ν → opIdx (.str ")]") (.int h') ν P := by
      intro P ν hP
      rcases h6 with rfl | rfl
      · exact ⟨by decide, hP⟩
      · exact ⟨by decide, hP⟩
    rw [wS1]
    simp only [wS, wE, wEs, opBin]
    simp
    refine ea _ _ (tc hk (by decide) ⟨_, _, rfl, h3, ?_⟩)
    simp
    refine ⟨tla a h3.tx (by decide), tla (a.append h3.tx) (tx_lit (n := 1) (by decide)) (by decide), tc hk (by decide) ⟨_, _, rfl, h4, ?_⟩⟩
    simp
    refine ⟨tla ((a.append h3.tx).append (tx_lit (n := 1) (by decide))) h4.tx (by decide), eb _ _ ?_⟩
    simp
    exact ⟨tla (((a.append h3.tx).append (tx_lit (n := 1) (by decide))).append h4.tx) b (by decide), by simpa using hll, et⟩
  · rintro ρ μ' ⟨rfl, o2, o3, o4, o5, rfl⟩
    have e : (ts.map D.str).take xs.length = ts.map D.str := by rw [h2.len, ← List.length_map (f := D.str), List.take_length]
    simp only [e]
    rw [wS1]
    simp only [wS, wE, wEs, wT]
    simp
    refine new_l (line_le (by simp)) ?_
    simp only [wCmp, opCmp]
    rw [e_eqnil (fun t ht => (h2.tx (fun _ _ => R_span.tx) t ht).2)]
    cases hts : ts with
    | nil =>
      subst hts
      have : xs = [] := by
        have := h2.len
        simpa using this
      subst this
      simp
      exact rt_cut rfl hq
    | cons u us =>
      rw [← hts]
      have : xs.length ≠ 0 := by rw [h2.len, hts]; simp
      rw [if_neg this] at hq
      simp only [hts, List.isEmpty_cons]
      simp only [← hts]
      simp [strsD_map]
      exact ⟨Nat.le_trans (join_sum (N := 10) (tx_lit (n := 3) (s := " + ") (by decide)) (h2.tx fun _ _ => R_span.tx) (by rw [← h2.len]; exact h1)) (by decide), rt_cut rfl hq⟩
theorem b6 {w : Str} {d : D} {f s : Str} (hk : 3 ≤ k) (hw : w = "left" ∨ w = "right") (h : R_side d f s) (hq : Q (.str (w ++ " " ++ f ++ " : " ++ s)) μ) : wDef (T k) 2 ir_show_side [.str w, d] μ Q := by
  obtain ⟨x, sp, rfl, h1, h2⟩ := h
  have a : Tx 5 w := by rcases hw with rfl | rfl <;> exact tx_lit (by decide)
  have l1 : Tx 1 (" " : Str) := tx_lit (by decide)
  have l3 : Tx 3 (" : " : Str) := tx_lit (by decide)
  simp only [wDef, ir_show_side, startD]
  rw [wS1]
  simp only [wS, wE, wEs, wJ]
  simp [Str.empty_append]
  refine ⟨tln a (by decide), tln (a.append l1) (by decide), tc hk (by decide) ⟨_, _, rfl, h1, ?_⟩⟩
  simp
  refine ⟨tln h1.tx (by decide), tln ((a.append l1).append h1.tx) (by decide), tln (((a.append l1).append h1.tx).append l3) (by decide), tc hk (by decide) ⟨_, _, rfl, h2, ?_⟩⟩
  simp
  exact ⟨tln h2.tx (by decide), tln ((((a.append l1).append h1.tx).append l3).append h2.tx) (by decide), rt_here hq⟩
theorem b7 {d : D} {t : Str} (hk : 3 ≤ k) (h : R_mid d t) (hq : Q (.str t) μ) : wDef (T k) 4 ir_show_middle [d] μ Q := by
  have l1 : Tx 1 (" " : Str) := tx_lit (by decide)
  have l3 : Tx 3 (" : " : Str) := tx_lit (by decide)
  have l7 : Tx 7 ("middle " : Str) := tx_lit (by decide)
  simp only [wDef, ir_show_middle, startD]
  rcases h with ⟨rfl, rfl⟩ | ⟨x, y, sp, f, g, s, rfl, h1, h2, h3, rfl⟩
  · rw [wS1]; simp [wS, wE, wEs, wT, wI, wO, wF, ofE, wCmp, opCmp, setsD]
    rw [wS1]; simp [wS, wE, wEs, wT, wI, wO, wF, ofE, wCmp, opCmp, setsD]
    exact rt_here hq
  · rw [wS1]; simp [wS, wE, wEs, wT, wI, wO, wF, ofE, wCmp, opCmp, setsD]
    rw [wS1]; simp [wS, wE, wEs, wT, wI, wO, wF, ofE, wCmp, opCmp, setsD]
    rw [wS1]
    simp only [wS, wE, wEs, wJ]
    simp [Str.empty_append]
    refine ⟨tln l7 (by decide), tc hk (by decide) ⟨_, _, rfl, h1, ?_⟩⟩
    simp
    refine ⟨tln h1.tx (by decide), tln (l7.append h1.tx) (by decide), tln ((l7.append h1.tx).append l1) (by decide), tc hk (by decide) ⟨_, _, rfl, h2, ?_⟩⟩
    simp
    refine ⟨tln h2.tx (by decide), tln (((l7.append h1.tx).append l1).append h2.tx) (by decide), tln ((((l7.append h1.tx).append l1).append h2.tx).append l3) (by decide), tc hk (by decide) ⟨_, _, rfl, h3, ?_⟩⟩
    simp
    refine ⟨tln h3.tx (by decide), tln (((((l7.append h1.tx).append l1).append h2.tx).append l3).append h3.tx) (by decide), rt_here ?_⟩
    simpa [Str.append_assoc] using hq
theorem R_mid.tx {d : D} {t : Str} (h : R_mid d t) : Tx 9000 t := by
  rcases h with ⟨rfl, rfl⟩ | ⟨x, y, sp, f, g, s, rfl, h1, h2, h3, rfl⟩
  · exact tx_lit (by decide)
  · exact ((((tx_lit (n := 7) (s := "middle ") (by decide)).append ((h1.tx.append (tx_lit (n := 1) (by decide))).append h2.tx)).append (tx_lit (n := 3) (by decide))).append h3.tx).mono (by decide)
theorem side_tx {w : Str} {d : D} {f s : Str} (hw : Tx 6 w) (h : R_side d f s) : Tx 9000 (w ++ f ++ " : " ++ s) := by
  obtain ⟨x, sp, rfl, h1, h2⟩ := h
  exact (((hw.append h1.tx).append (tx_lit (n := 3) (by decide))).append h2.tx).mono (by decide)
theorem band_sum {a b c : Str} (h1 : Tx 9000 a) (h2 : Tx 9000 b) (h3 : Tx 9000 c) : (([a, b, c] : List Str).map (·.length)).sum + ([a, b, c] : List Str).length * ("\n" : Str).length ≤ 16777216 := by
  refine Nat.le_trans (join_sum (N := 3) (n := 9000) (tx_lit (n := 1) (s := "\n") (by decide)) (fun t ht => ?_) (Nat.le_refl 3)) (by decide)
  simp at ht
  rcases ht with rfl | rfl | rfl
  · exact h1
  · exact h2
  · exact h3
theorem b8 {d : D} {t : Str} (hk : 4 ≤ k) (h : R_band d t) (hq : Q (.str t) μ) : wDef (T k) 4 ir_show_band [d] μ Q := by
  obtain ⟨l, m, r, f1, s1, tm, f2, s2, rfl, h1, h2, h3, rfl⟩ := h
  simp only [wDef, ir_show_band, startD]
  rw [wS1]; simp [wS, wE, wEs, wT, wI, wO, wF, ofE, wCmp, opCmp, setsD]
  rw [wS1]; simp [wS, wE, wEs, wT, wI, wO, wF, ofE, wCmp, opCmp, setsD]
  refine tc hk (by decide) ⟨_, _, _, _, rfl, .inl rfl, h1, ?_⟩
  refine tc hk (by decide) ⟨_, _, rfl, h2, ?_⟩
  refine tc hk (by decide) ⟨_, _, _, _, rfl, .inr rfl, h3, ?_⟩
  refine new_l (line_le (by simp)) ?_
  have e1 : ("left" : Str) ++ " " = "left " := by decide +kernel
  have e2 : ("right" : Str) ++ " " = "right " := by decide +kernel
  rw [e1, e2]
  refine ⟨band_sum (side_tx (tx_lit (by decide)) h1) h2.tx (side_tx (tx_lit (by decide)) h3), rt_here hq⟩
theorem b25 {d : D} {t : Str} (hk : 2 ≤ k) (hk2 : 3 ≤ k + 1) (h : R_band d t) (hq : Q (.str t) μ) : wDef (T k) 3 ir__law_band_text [d] μ Q := by
  obtain ⟨l, m, r, f1, s1, tm, f2, s2, rfl, ⟨x, sp, rfl, h1, h1'⟩, h2, ⟨y, sq, rfl, h3, h3'⟩, rfl⟩ := h
  have L5 : Tx 5 ("left " : Str) := tx_lit (by decide)
  have L6 : Tx 6 ("right " : Str) := tx_lit (by decide)
  have l1 : Tx 1 (" " : Str) := tx_lit (by decide)
  have l3 : Tx 3 (" : " : Str) := tx_lit (by decide)
  have l7 : Tx 7 ("middle " : Str) := tx_lit (by decide)
  have sd1 : R_side (.tup [x, sp]) f1 s1 := ⟨x, sp, rfl, h1, h1'⟩
  have sd2 : R_side (.tup [y, sq]) f2 s2 := ⟨y, sq, rfl, h3, h3'⟩
  simp only [wDef, ir__law_band_text, startD]
  rw [wS1]
  simp only [wS, wE, wEs, opBin]
  simp
  refine tc hk (by decide) ⟨_, _, rfl, h1, ?_⟩
  simp
  refine ⟨tla L5 h1.tx (by decide), tla (L5.append h1.tx) l3 (by decide), tc hk (by decide) ⟨_, _, rfl, h1', ?_⟩⟩
  simp
  refine ⟨tla ((L5.append h1.tx).append l3) h1'.tx (by decide), new_c (line_le (by simp)) ?_⟩
  have fin : ∀ o, Tx 9000 tm → wSs (T k) (.cons (.ret (.mth .join (.cst (.str "\n")) (.cons (.bin .Add (.var 1) (.lst (.cons (.bin .Add (.bin .Add (.bin .Add (.cst (.str "right ")) (.cal 21 (.cons (.idx (.idx (.var 0) (.cst (.int 2))) (.cst (.int 0))) .nil))) (.cst (.str " : "))) (.cal 24 (.cons (.idx (.idx (.var 0) (.cst (.int 2))) (.cst (.int 1))) .nil))) .nil))) .nil))) .nil)
      { nx := fun x μ' => rtD μ Q D.non μ', rt := rtD μ Q } [some (.tup [.tup [x, sp], m, .tup [y, sq]]), some (.cel μ.length), o] (μ ++ [.lst [.str ("left " ++ f1 ++ " : " ++ s1), .str tm]]) := by
    intro o htm
    rw [wS1]
    simp only [wS, wE, wEs, opBin]
    simp
    refine tc hk (by decide) ⟨_, _, rfl, h3, ?_⟩
    simp
    refine ⟨tla L6 h3.tx (by decide), tla (L6.append h3.tx) l3 (by decide), tc hk (by decide) ⟨_, _, rfl, h3', ?_⟩⟩
    simp
    refine ⟨tla ((L6.append h3.tx).append l3) h3'.tx (by decide), new_l (line_le (by simp)) ?_⟩
    simp [r_addC]
    refine new_l (line_le (by simp)) ?_
    show _ ∧ _
    exact ⟨band_sum (side_tx (L5.mono (by decide)) sd1) htm (side_tx L6 sd2), rt_cut rfl hq⟩
  rw [wS1]
  simp only [wS, wT, wE, wEs, opBin, wCmp, opCmp]
  have htm := h2.tx
  rcases h2 with ⟨rfl, rfl⟩ | ⟨u, v, sp', f, g, s, rfl, j1, j2, j3, rfl⟩
  · simp
    exact fin _ htm
  · simp
    rw [wS1]
    simp only [wS, wE, wEs, opBin]
    simp
    refine tc hk (by decide) ⟨_, _, rfl, j1, ?_⟩
    simp
    refine ⟨tla j1.tx l1 (by decide), tc hk (by decide) ⟨_, _, rfl, j2, ?_⟩⟩
    simp
    refine ⟨tla (j1.tx.append l1) j2.tx (by decide), ?_⟩
    rw [wS1]
    simp only [wS, wE, wEs, opBin]
    simp
    refine ⟨tla l7 ((j1.tx.append l1).append j2.tx) (by decide), tla (l7.append ((j1.tx.append l1).append j2.tx)) l3 (by decide), tc hk (by decide) ⟨_, _, rfl, j3, ?_⟩⟩
    simp
    refine ⟨tla ((l7.append ((j1.tx.append l1).append j2.tx)).append l3) j3.tx (by decide), ?_⟩
    exact fin _ htm
/-! words -/
theorem part_txt {R : D → Str → Prop} : True := trivial
theorem b9 {d : D} {t : Str} (h : R_word d t) (hq : Q (.str t) μ) : wDef (T k) 6 ir_show_word [d] μ Q := by
  obtain ⟨p, q, r, a, b, c, rfl, h1, h2, h3, rfl⟩ := h
  have tx : ∀ {d t}, R_ints "" d t → Tx 14000 t := fun ⟨zs, _, g1, g2, e⟩ => e ▸ ints_tx (tx_lit (n := 0) (by decide)) (by decide) g1 g2
  have l1 : Tx 1 ("." : Str) := tx_lit (by decide)
  have l2 : Tx 1 ("(" : Str) := tx_lit (by decide)
  have l3 : Tx 1 (")" : Str) := tx_lit (by decide)
  simp only [wDef, ir_show_word, startD]
  rw [wS1]; simp [wS, wE, wEs, wT, wI, wO, wF, ofE, wCmp, opCmp, setsD]
  simp only [srcOf, asSq, Option.map_some]
  have ha : All2 (R_ints "") [p, q, r] [a, b, c] := .cons h1 (.cons h2 (.cons h3 .nil))
  refine lc_txt (Γ := T k) (ts := [a, b, c]) (fun n h => by cases h) rfl (by simp) ?_ ?_
  · intro i x t hx ht
    obtain ⟨t', e1, zs, rfl, g1, g2, rfl⟩ := ha.get hx
    rw [ht] at e1
    cases e1
    refine ⟨_, rfl, fun P hP => ?_⟩
    simp [wipeD, srcOf]
    refine lc_txt (Γ := T k) (ts := zs.map iS) (fun n h => by cases h) (by simp) (by simp; omega) ?_ ?_
    · intro i x t hx ht
      simp only [List.getElem?_map, Option.map_eq_some_iff] at hx ht
      obtain ⟨z, hz, rfl⟩ := hx
      obtain ⟨z', hz', rfl⟩ := ht
      rw [hz] at hz'
      cases hz'
      refine ⟨_, rfl, fun P hP => ?_⟩
      simp [wE, wEs, wipeD]
      exact ⟨(g2 z (List.mem_of_getElem? hz)).log, hP⟩
    · simp only [r_join, r_asSql, r_asRl, Option.bind_some, strsD_map]
      exact ⟨ints_sum (tx_lit (n := 0) (by decide)) (by decide) g1 g2, hP⟩
  · simp [setsD]
    rw [wS1]
    simp only [wS, wE, wEs, wJ]
    simp [Str.empty_append]
    exact ⟨tln (tx h1) (by decide), tln ((tx h1).append l1) (by decide), tln (tx h2) (by decide), tln (((tx h1).append l1).append (tx h2)) (by decide), tln ((((tx h1).append l1).append (tx h2)).append l2) (by decide), tln (tx h3) (by decide),
      tln (((((tx h1).append l1).append (tx h2)).append l2).append (tx h3)) (by decide), tln ((((((tx h1).append l1).append (tx h2)).append l2).append (tx h3)).append l3) (by decide), rt_here hq⟩
theorem b26 {d : D} {t : Str} (h : R_word d t) (hq : Q (.str t) μ) : wDef (T k) 6 ir__law_word_text [d] μ Q := by
  obtain ⟨p, q, r, a, b, c, rfl, h1, h2, h3, rfl⟩ := h
  have tx : ∀ {d t}, R_ints "" d t → Tx 14000 t := fun ⟨zs, _, g1, g2, e⟩ => e ▸ ints_tx (tx_lit (n := 0) (by decide)) (by decide) g1 g2
  have l1 : Tx 1 ("." : Str) := tx_lit (by decide)
  have l2 : Tx 1 ("(" : Str) := tx_lit (by decide)
  have l3 : Tx 1 (")" : Str) := tx_lit (by decide)
  simp only [wDef, ir__law_word_text, startD]
  rw [wS1]; simp [wS, wE, wEs, wT, wI, wO, wF, ofE, wCmp, opCmp, setsD]
  simp only [srcOf, asSq, Option.map_some]
  have ha : All2 (R_ints "") [p, q, r] [a, b, c] := .cons h1 (.cons h2 (.cons h3 .nil))
  refine lc_txt (Γ := T k) (ts := [a, b, c]) (fun n h => by cases h) rfl (by simp) ?_ ?_
  · intro i x t hx ht
    obtain ⟨t', e1, zs, rfl, g1, g2, rfl⟩ := ha.get hx
    rw [ht] at e1
    cases e1
    refine ⟨_, rfl, fun P hP => ?_⟩
    simp [wipeD, srcOf]
    refine lc_txt (Γ := T k) (ts := zs.map iS) (fun n h => by cases h) (by simp) (by simp; omega) ?_ ?_
    · intro i x t hx ht
      simp only [List.getElem?_map, Option.map_eq_some_iff] at hx ht
      obtain ⟨z, hz, rfl⟩ := hx
      obtain ⟨z', hz', rfl⟩ := ht
      rw [hz] at hz'
      cases hz'
      refine ⟨_, rfl, fun P hP => ?_⟩
      simp [wE, wEs, wipeD]
      exact ⟨(g2 z (List.mem_of_getElem? hz)).log, hP⟩
    · simp only [r_join, r_asSql, r_asRl, Option.bind_some, strsD_map]
      exact ⟨ints_sum (tx_lit (n := 0) (by decide)) (by decide) g1 g2, hP⟩
  · simp [setsD]
    rw [wS1]
    simp only [wS, wE, wEs, opBin]
    simp
    exact ⟨tla (tx h1) l1 (by decide), tla ((tx h1).append l1) (tx h2) (by decide), tla (((tx h1).append l1).append (tx h2)) l2 (by decide), tla ((((tx h1).append l1).append (tx h2)).append l2) (tx h3) (by decide),
      tla (((((tx h1).append l1).append (tx h2)).append l2).append (tx h3)) l3 (by decide), rt_here hq⟩
theorem paper_tx {x : D} {f : Str} (h : R_frs x f) : Tx 3000 f := h.tx
theorem b11 {d : D} {t : Str} (hk : 2 ≤ k) (h : R_paper d t) (hq : Q (.str t) μ) : wDef (T k) 1 ir_show_paper [d] μ Q := by
  have l1 : Tx 5 ("some " : Str) := tx_lit (by decide)
  have l2 : Tx 3 (" / " : Str) := tx_lit (by decide)
  have n1 : ("all" : Str) ≠ "some" := by decide +kernel
  have n2 : ("none" : Str) ≠ "some" := by decide +kernel
  simp only [wDef, ir_show_paper, startD]
  rcases h with ⟨w, rfl, hw, rfl⟩ | ⟨x, y, f, g, rfl, h1, h2, rfl⟩
  · rcases hw with rfl | rfl
    · rw [wS1]; simp [wS, wE, wEs, wT, wI, wO, wF, ofE, wCmp, opCmp, setsD]
      simp [n1]
      rw [wS1]; simp [wS, wE, wEs, wT, wI, wO, wF, ofE, wCmp, opCmp, setsD]
      exact rt_here hq
    · rw [wS1]; simp [wS, wE, wEs, wT, wI, wO, wF, ofE, wCmp, opCmp, setsD]
      simp [n2]
      rw [wS1]; simp [wS, wE, wEs, wT, wI, wO, wF, ofE, wCmp, opCmp, setsD]
      exact rt_here hq
  · rw [wS1]; simp [wS, wE, wEs, wT, wI, wO, wF, ofE, wCmp, opCmp, setsD]
    rw [wS1]
    simp only [wS, wE, wEs, wJ]
    simp [Str.empty_append]
    refine ⟨tln l1 (by decide), tc hk (by decide) ⟨_, _, rfl, h1, ?_⟩⟩
    simp
    refine ⟨tln h1.tx (by decide), tln (l1.append h1.tx) (by decide), tln ((l1.append h1.tx).append l2) (by decide), tc hk (by decide) ⟨_, _, rfl, h2, ?_⟩⟩
    simp
    exact ⟨tln h2.tx (by decide), tln (((l1.append h1.tx).append l2).append h2.tx) (by decide), rt_here hq⟩
theorem b28 {d : D} {t : Str} (hk : 2 ≤ k) (h : R_paper d t) (hq : Q (.str t) μ) : wDef (T k) 1 ir__law_paper_text [d] μ Q := by
  have l1 : Tx 5 ("some " : Str) := tx_lit (by decide)
  have l2 : Tx 3 (" / " : Str) := tx_lit (by decide)
  simp only [wDef, ir__law_paper_text, startD]
  rw [wS1]
  simp only [wS, wE, wEs, wT, wCmp, opCmp, opBin]
  rcases h with ⟨w, rfl, hw, rfl⟩ | ⟨x, y, f, g, rfl, h1, h2, rfl⟩
  · simp
    exact rt_here hq
  · simp
    refine tc hk (by decide) ⟨_, _, rfl, h1, ?_⟩
    simp
    refine ⟨tla l1 h1.tx (by decide), tla (l1.append h1.tx) l2 (by decide), tc hk (by decide) ⟨_, _, rfl, h2, ?_⟩⟩
    simp
    exact ⟨tla ((l1.append h1.tx).append l2) h2.tx (by decide), rt_here hq⟩
end
end K68

set_option Elab.async false
set_option linter.all false
set_option maxRecDepth 100000
namespace K68
open PySem L2 Rf
section
variable {k : Nat} {μ : M} {Q : WQ}
theorem rints_tx {d : D} {t : Str} (h : R_ints " " d t) : Tx 14000 t := by
  obtain ⟨zs, _, g1, g2, rfl⟩ := h
  exact ints_tx (tx_lit (n := 1) (by decide)) (by decide) g1 g2
theorem line_tx {w : Str} {z : Int} {t : Str} (hw : Tx 8 w) (hz : SmI z) (ht : Tx 14000 t) : Tx 15000 (lineT w z t) :=
  (((hw.append hz.tx).append (tx_lit (n := 3) (by decide))).append ht).mono (by decide)
/-- the lines of one sort -/
theorem lines_get {w : Str} {dr : List Int} {hs : List D} {ths : List Str} (ha : All2 (R_ints " ") hs ths) (hl : hs.length = dr.length) {i : Nat} {t : Str} (ht : (List.zipWith (lineT w) dr ths)[i]? = some t) :
    ∃ z x s, dr[i]? = some z ∧ hs[i]? = some x ∧ ths[i]? = some s ∧ R_ints " " x s ∧ t = lineT w z s := by
  rw [List.getElem?_zipWith] at ht
  cases e1 : dr[i]? with
  | none => rw [e1] at ht; cases ht
  | some z =>
    cases e2 : ths[i]? with
    | none => rw [e1, e2] at ht; cases ht
    | some s =>
      rw [e1, e2] at ht
      cases ht
      have hi : i < hs.length := by
        have := (List.getElem?_eq_some_iff.mp e2).1
        rw [ha.len]; exact this
      have e3 := List.getElem?_eq_getElem hi
      obtain ⟨s', q1, q2⟩ := ha.get e3
      rw [e2] at q1
      cases q1
      exact ⟨z, _, s, rfl, e3, rfl, q2, rfl⟩
theorem lines_len {w : Str} {dr : List Int} {hs : List D} {ths : List Str} (ha : All2 (R_ints " ") hs ths) (hl : hs.length = dr.length) : (List.zipWith (lineT w) dr ths).length = hs.length := by
  rw [List.length_zipWith, ← hl, ← ha.len]; simp
theorem mach_sum {a : Str} {xs ys : List Str} (ha : Tx 15000 a) (h1 : ∀ t ∈ xs, Tx 15000 t) (h2 : ∀ t ∈ ys, Tx 15000 t) (l1 : xs.length ≤ 20) (l2 : ys.length ≤ 20) : ((a :: (xs ++ ys)).map (·.length)).sum + (a :: (xs ++ ys)).length * ("\n" : Str).length ≤ 16777216 := by
  refine Nat.le_trans (join_sum (N := 41) (n := 15000) (tx_lit (n := 1) (s := "\n") (by decide)) (fun t ht => ?_) (by simp; omega)) (by decide)
  rcases List.mem_cons.mp ht with rfl | ht
  · exact ha
  · rcases List.mem_append.mp ht with ht | ht
    · exact h1 t ht
    · exact h2 t ht
theorem lines_tx {w : Str} {dr : List Int} {hs : List D} {ths : List Str} (hw : Tx 8 w) (ha : All2 (R_ints " ") hs ths) (hl : hs.length = dr.length) (hd : ∀ z ∈ dr, SmI z) : ∀ t ∈ List.zipWith (lineT w) dr ths, Tx 15000 t := by
  intro t ht
  obtain ⟨i, hi⟩ := List.getElem?_of_mem ht
  obtain ⟨z, x, s, e1, e2, e3, r, rfl⟩ := lines_get ha hl hi
  exact line_tx hw (hd z (List.mem_of_getElem? e1)) (rints_tx r)
/-- the end of both -/
theorem mach_end {a : Str} {xs ys : List Str} {ρ : Rho} (ha : Tx 15000 a) (h1 : ∀ t ∈ xs, Tx 15000 t) (h2 : ∀ t ∈ ys, Tx 15000 t) (l1 : xs.length ≤ 20) (l2 : ys.length ≤ 20) (hv : getV ρ 7 = some (.cel μ.length)) (hq : Q (.str (Txt.join "\n" (a :: (xs ++ ys)))) μ) :
    wSs (T k) (.cons (.ret (.mth .join (.cst (.str "\n")) (.cons (.var 7) .nil))) .nil) { nx := fun x μ' => rtD μ Q D.non μ', rt := rtD μ Q } ρ (μ ++ [.lst ((a :: (xs ++ ys)).map D.str)]) := by
  rw [wS1]
  simp only [wS, wE, wEs, hv, r_mokJ, true_and, r_join, e_asSq, Option.bind_some, strsD_map]
  exact ⟨mach_sum ha h1 h2 l1 l2, rt_cut rfl hq⟩
theorem b10 {d : D} {t : Str} (hk : 1 ≤ k) (h : R_mach d t) (hq : Q (.str t) μ) : wDef (T k) 11 ir_show_machine [d] μ Q := by
  obtain ⟨n, sg, hs, dr, rows, en, tsg, ths, trs, rfl, hn, hsg, ha, hb, hl1, hl2, hl3, hl4, hd1, hd2, rfl⟩ := h
  have lm : Tx 8 ("machine " : Str) := tx_lit (by decide)
  have lh : Tx 5 ("head " : Str) := tx_lit (by decide)
  have lt : Tx 5 ("tail " : Str) := tx_lit (by decide)
  have l3 : Tx 3 (" : " : Str) := tx_lit (by decide)
  have zipi : ∀ (dr : List Int) (hs : List D) (i : Nat) (x : D), (List.zipWith (fun x y => D.tup [x, y]) (dr.map D.int) hs)[i]? = some x → ∃ z y, dr[i]? = some z ∧ hs[i]? = some y ∧ x = .tup [.int z, y] := by
    intro dr hs i x hx
    obtain ⟨a, b, e1, e2, rfl⟩ := zip_get hx
    rw [List.getElem?_map, Option.map_eq_some_iff] at e1
    obtain ⟨z, e1, rfl⟩ := e1
    exact ⟨z, b, e1, e2, rfl⟩
  simp only [wDef, ir_show_machine, startD]
  rw [wS1]; simp [wS, wE, wEs, wT, wI, wO, wF, ofE, wCmp, opCmp, setsD]
  rw [wS1]
  simp only [wS, wE, wEs, wJ]
  simp [Str.empty_append]
  refine ⟨tln lm (by decide), hn.log, tln (lm.append hn.tx) (by decide), tln ((lm.append hn.tx).append l3) (by decide), tc hk (by decide) ⟨_, _, rfl, hsg, ?_⟩⟩
  simp
  refine ⟨tln (rints_tx hsg) (by decide), tln (((lm.append hn.tx).append l3).append (rints_tx hsg)) (by decide), new_c (line_le (by simp)) ?_⟩
  have first := line_tx lm hn (rints_tx hsg)
  rw [wS1]
  simp only [wS, wE, wEs, wI]
  simp
  refine lc_txt (Γ := T k) (ts := List.zipWith (lineT "head ") dr ths) (fun n h => by cases h) (by simp [← hl1, ← ha.len]) (by rw [lines_len ha hl1]; omega) ?_ ?_
  · intro i x t hx ht
    obtain ⟨z, y, s, e1, e2, e3, r, rfl⟩ := lines_get ha hl1 ht
    obtain ⟨z', y', q1, q2, rfl⟩ := zipi dr hs i x hx
    rw [e1] at q1; cases q1
    rw [e2] at q2; cases q2
    have hz := hd1 z (List.mem_of_getElem? e1)
    refine ⟨_, rfl, fun P hP => ?_⟩
    simp [wJ, wE, wEs, wipeD, Str.empty_append]
    refine ⟨tln lh (by decide), hz.log, tln (lh.append hz.tx) (by decide), tln ((lh.append hz.tx).append l3) (by decide), tc hk (by decide) ⟨_, _, rfl, r, ?_⟩⟩
    simp
    exact ⟨tln (rints_tx r) (by decide), tln (((lh.append hz.tx).append l3).append (rints_tx r)) (by decide), hP⟩
  simp
  refine ⟨line_le (by have := lines_len (w := "head ") ha hl1; rw [List.length_zipWith] at this; omega), ?_⟩
  rw [wS1]
  simp only [wS, wE, wEs, wI]
  simp
  refine lc_txt (Γ := T k) (ts := List.zipWith (lineT "tail ") en trs) (fun n h => by cases h) (by simp [← hl2, ← hb.len]) (by rw [lines_len hb hl2]; omega) ?_ ?_
  · intro i x t hx ht
    obtain ⟨z, y, s, e1, e2, e3, r, rfl⟩ := lines_get hb hl2 ht
    obtain ⟨z', y', q1, q2, rfl⟩ := zipi en rows i x hx
    rw [e1] at q1; cases q1
    rw [e2] at q2; cases q2
    have hz := hd2 z (List.mem_of_getElem? e1)
    refine ⟨_, rfl, fun P hP => ?_⟩
    simp [wJ, wE, wEs, wipeD, Str.empty_append]
    refine ⟨tln lt (by decide), hz.log, tln (lt.append hz.tx) (by decide), tln ((lt.append hz.tx).append l3) (by decide), tc hk (by decide) ⟨_, _, rfl, r, ?_⟩⟩
    simp
    exact ⟨tln (rints_tx r) (by decide), tln (((lt.append hz.tx).append l3).append (rints_tx r)) (by decide), hP⟩
  have ez : ∀ (w : Str) (dr : List Int) (ths : List Str), List.zipWith (fun x y => D.str (lineT w x y)) dr ths = (List.zipWith (lineT w) dr ths).map D.str := fun w dr ths => by rw [List.map_zipWith]
  rw [ez, e_ext]
  refine ⟨line_le (by have := lines_len (w := "head ") ha hl1; have := lines_len (w := "tail ") hb hl2; simp only [List.length_cons, List.length_map]; omega), ?_⟩
  rw [show (D.str (("machine " : Str) ++ Str.ofString n.repr ++ " : " ++ tsg) :: (List.zipWith (lineT "head ") dr ths).map D.str) ++ (List.zipWith (lineT "tail ") en trs).map D.str = ((("machine " : Str) ++ iS n ++ " : " ++ tsg) :: (List.zipWith (lineT "head ") dr ths ++ List.zipWith (lineT "tail ") en trs)).map D.str from by rw [List.map_cons, List.map_append]; rfl]
  exact mach_end first (lines_tx (lh.mono (by decide)) ha hl1 hd1) (lines_tx (lt.mono (by decide)) hb hl2 hd2) (by rw [lines_len ha hl1]; exact hl3) (by rw [lines_len hb hl2]; exact hl4) rfl hq
theorem b27 {d : D} {t : Str} (hk : 1 ≤ k) (h : R_mach d t) (hq : Q (.str t) μ) : wDef (T k) 9 ir__law_machine_text [d] μ Q := by
  obtain ⟨n, sg, hs, dr, rows, en, tsg, ths, trs, rfl, hn, hsg, ha, hb, hl1, hl2, hl3, hl4, hd1, hd2, rfl⟩ := h
  have lm : Tx 8 ("machine " : Str) := tx_lit (by decide)
  have lh : Tx 5 ("head " : Str) := tx_lit (by decide)
  have lt : Tx 5 ("tail " : Str) := tx_lit (by decide)
  have l3 : Tx 3 (" : " : Str) := tx_lit (by decide)
  have first : Tx 15000 (("machine " : Str) ++ iS n ++ " : " ++ tsg) := line_tx lm hn (rints_tx hsg)
  have len1 := lines_len (w := "head ") ha hl1
  have len2 := lines_len (w := "tail ") hb hl2
  simp only [wDef, ir__law_machine_text, startD]
  rw [wS1]; simp [wS, wE, wEs, wT, wI, wO, wF, ofE, wCmp, opCmp, setsD]
  rw [wS1]
  simp only [wS, wE, wEs, opBin]
  simp
  refine ⟨hn.log, tla lm hn.tx (by decide), tla (lm.append hn.tx) l3 (by decide), tc hk (by decide) ⟨_, _, rfl, hsg, ?_⟩⟩
  simp
  refine ⟨tla ((lm.append hn.tx).append l3) (rints_tx hsg) (by decide), new_c (line_le (by simp)) ?_⟩
  have step : ∀ (w : Str) (lw : Tx 5 w) (dr : List Int) (hs : List D) (ths : List Str) (ha : All2 (R_ints " ") hs ths) (hl : hs.length = dr.length) (hd : ∀ z ∈ dr, SmI z) (hsl : hs.length ≤ 20) (pre : List D) (hp : pre.length ≤ 40) (i : Nat) (P : WQ), i < hs.length →
      P .non (μ ++ [.lst (pre ++ ((List.zipWith (lineT w) dr ths).map D.str).take (i + 1))]) →
      opIdx (.tup (dr.map D.int)) (.int i) (μ ++ [.lst (pre ++ ((List.zipWith (lineT w) dr ths).map D.str).take i)]) fun d μ1 => opBlt .str [d] μ1 fun y μ1 => opAdd (.str w) y μ1 fun x μ1 => opAdd x (.str " : ") μ1 fun x μ1 =>
        opIdx (.tup hs) (.int i) μ1 fun d μ1 => T k 20 [d] μ1 fun y μ2 => opAdd x y μ2 fun d μ2 => opMth .append (.cel μ.length) [d] μ2 P := by
    intro w lw dr hs ths ha hl hd hsl pre hp i P hi hP
    have len := lines_len (w := w) ha hl
    obtain ⟨z, y, s, e1, e2, e3, r, et⟩ := lines_get (w := w) ha hl (List.getElem?_eq_getElem (l := List.zipWith (lineT w) dr ths) (by omega : i < _))
    have hz := hd z (List.mem_of_getElem? e1)
    have e1' : (dr.map D.int)[i]? = some (.int z) := by rw [List.getElem?_map, e1]; rfl
    have take : ((List.zipWith (lineT w) dr ths).map D.str).take i ++ [.str (lineT w z s)] = ((List.zipWith (lineT w) dr ths).map D.str).take (i + 1) := by
      rw [List.take_add_one, List.getElem?_map, List.getElem?_eq_getElem (by omega : i < (List.zipWith (lineT w) dr ths).length), et]; rfl
    rw [r_idxT, r_ixT, atI_nat e1']
    simp only [r_strI, r_addS]
    refine ⟨hz.log, tla lw hz.tx (by decide), tla (lw.append hz.tx) l3 (by decide), ?_⟩
    rw [r_idxT, r_ixT, atI_nat e2]
    refine tc hk (by decide) ⟨_, _, rfl, r, ?_⟩
    simp only [r_addS, e_app]
    refine ⟨tla ((lw.append hz.tx).append l3) (rints_tx r) (by decide), line_lt (by simp only [List.length_append, List.length_take, List.length_map]; omega), ?_⟩
    rw [List.append_assoc]
    exact take ▸ hP
  have fin := @mach_end k μ Q ("machine " ++ iS n ++ " : " ++ tsg) (List.zipWith (lineT "head ") dr ths) (List.zipWith (lineT "tail ") en trs)
  have first1 : D.str (("machine " : Str) ++ Str.ofString n.repr ++ " : " ++ tsg) = .str (("machine " : Str) ++ iS n ++ " : " ++ tsg) := rfl
  rw [first1]
  generalize hf : (("machine " : Str) ++ iS n ++ " : " ++ tsg) = f at fin first hq ⊢
  rw [wS1]
  simp only [wS, wE, wEs, wI]
  simp
  refine ⟨⟨by omega, by omega⟩, fun i ρ μ' => μ' = μ ++ [.lst ([.str f] ++ ((List.zipWith (lineT "head ") dr ths).map D.str).take i)] ∧ ∃ o, ρ = [some (.tup [.int n, sg, .tup hs, .tup (dr.map .int), .tup rows, .tup (en.map .int)]), some (.int n), some sg, some (.tup hs), some (.tup (dr.map .int)), some (.tup rows), some (.tup (en.map .int)), some (.cel μ.length), o], ⟨by simp, _, rfl⟩, fun _ _ _ _ _ _ h => (by cases h), ?_, ?_⟩
  · rintro i x ρ μ' hx ⟨rfl, o, rfl⟩
    obtain ⟨hi, rfl⟩ := r_rangeD hx
    refine ⟨_, rfl, ?_⟩
    rw [wS1]
    show mOkM .append _ (.cel μ.length) = true ∧ _
    refine ⟨e_mok, ?_⟩
    have e0 : (0 : Int) + (i : Int) = i := by omega
    simp only [wE, wEs, opBin, List.set, r_getV0, r_getVs, e0]
    refine step "head " lh dr hs ths ha hl1 hd1 hl3 [.str f] (by simp) i _ hi ?_
    exact ⟨rfl, _, rfl⟩
  · rintro ρ μ' ⟨rfl, o, rfl⟩
    have e : ((List.zipWith (lineT "head ") dr ths).map D.str).take hs.length = (List.zipWith (lineT "head ") dr ths).map D.str := by
      rw [← len1, ← List.length_map (f := D.str), List.take_length]
    simp only [r_rangeL, e]
    rw [wS1]
    simp only [wS, wE, wEs, wI]
    simp only [r_getV0, r_getVs, r_len, r_lenT]
    refine ⟨⟨by omega, by omega⟩, fun i ρ μ' => μ' = μ ++ [.lst (([.str f] ++ (List.zipWith (lineT "head ") dr ths).map D.str) ++ ((List.zipWith (lineT "tail ") en trs).map D.str).take i)] ∧ ∃ o, ρ = [some (.tup [.int n, sg, .tup hs, .tup (dr.map .int), .tup rows, .tup (en.map .int)]), some (.int n), some sg, some (.tup hs), some (.tup (dr.map .int)), some (.tup rows), some (.tup (en.map .int)), some (.cel μ.length), o], ⟨by simp only [List.take_zero, List.append_nil], _, rfl⟩, fun _ _ _ _ _ _ h => (by cases h), ?_, ?_⟩
    · rintro i x ρ μ' hx ⟨rfl, o, rfl⟩
      obtain ⟨hi, rfl⟩ := r_rangeD hx
      refine ⟨_, rfl, ?_⟩
      rw [wS1]
      show mOkM .append _ (.cel μ.length) = true ∧ _
      refine ⟨e_mok, ?_⟩
      have e0 : (0 : Int) + (i : Int) = i := by omega
      simp only [wE, wEs, opBin, List.set, r_getV0, r_getVs, e0]
      have hi : i < rows.length := by simpa using hi
      refine step "tail " lt en rows trs hb hl2 hd2 hl4 ([.str f] ++ (List.zipWith (lineT "head ") dr ths).map D.str) (by simp only [List.length_append, List.length_map, len1]; simp; omega) i _ hi ?_
      exact ⟨rfl, _, rfl⟩
    · rintro ρ μ' ⟨rfl, o, rfl⟩
      have e2 : ((List.zipWith (lineT "tail ") en trs).map D.str).take rows.length = (List.zipWith (lineT "tail ") en trs).map D.str := by
        rw [← len2, ← List.length_map (f := D.str), List.take_length]
      simp only [r_rangeL, Int.toNat_natCast, e2]
      have := fin (ρ := [some (.tup [.int n, sg, .tup hs, .tup (dr.map .int), .tup rows, .tup (en.map .int)]), some (.int n), some sg, some (.tup hs), some (.tup (dr.map .int)), some (.tup rows), some (.tup (en.map .int)), some (.cel μ.length), o]) first (lines_tx (lh.mono (by decide)) ha hl1 hd1) (lines_tx (lt.mono (by decide)) hb hl2 hd2) (by rw [len1]; exact hl3) (by rw [len2]; exact hl4) rfl hq
      rw [List.map_cons, List.map_append] at this
      rw [show ([D.str f] ++ (List.zipWith (lineT "head ") dr ths).map D.str) ++ (List.zipWith (lineT "tail ") en trs).map D.str = D.str f :: ((List.zipWith (lineT "head ") dr ths).map D.str ++ (List.zipWith (lineT "tail ") en trs).map D.str) by simp only [List.cons_append, List.nil_append]]
      exact this
end
end K68

set_option Elab.async false
set_option linter.all false
set_option maxRecDepth 100000
namespace K68
open PySem L2 Rf
section
variable {k : Nat} {μ : M} {Q : WQ}
theorem b16 {x y : D} {a b : Nat} (hk : 1 ≤ k) (hx : FrN a x) (hy : FrN b y) (hab : a + b ≤ 800) (hq : ∀ d, FrN (a + b + 1) d → Q d μ) : wDef (T k) 2 ir__law_plus [x, y] μ Q := by
  obtain ⟨p, q, rfl, x1, x2, x3⟩ := hx
  obtain ⟨r, s, rfl, y1, y2, y3⟩ := hy
  simp only [wDef, ir__law_plus, startD]
  rw [wS1]; simp [wS, wE, wEs]
  refine ⟨mw x3 y2 (by omega), mw y3 x2 (by omega), mw x2 y2 (by omega), ?_⟩
  have m1 := mul_lt x3 y2
  have m2 := mul_lt y3 x2
  have m3 := mul_lt x2 y2
  rw [Nat.add_comm b a] at m2
  have e : 2 ^ (a + b + 1) = 2 * 2 ^ (a + b) := by rw [Nat.pow_succ, Nat.mul_comm]
  refine tc hk (by decide) ⟨_, _, a + b + 1, rfl, Int.mul_ne_zero (by omega) (by omega), by rw [e]; omega, by rw [e]; omega, by omega, fun d hd => rt_here (hq d hd)⟩
theorem b18 {x y : D} {a b : Nat} (hk : 1 ≤ k) (hx : FrN a x) (hy : FrN b y) (hab : a + b ≤ 800) (hq : ∀ d, FrN (a + b + 1) d → Q d μ) : wDef (T k) 2 ir__law_minus [x, y] μ Q := by
  obtain ⟨p, q, rfl, x1, x2, x3⟩ := hx
  obtain ⟨r, s, rfl, y1, y2, y3⟩ := hy
  simp only [wDef, ir__law_minus, startD]
  rw [wS1]; simp [wS, wE, wEs]
  refine ⟨mw x3 y2 (by omega), mw y3 x2 (by omega), mw x2 y2 (by omega), ?_⟩
  have m1 := mul_lt x3 y2
  have m2 := mul_lt y3 x2
  have m3 := mul_lt x2 y2
  rw [Nat.add_comm b a] at m2
  have e : 2 ^ (a + b + 1) = 2 * 2 ^ (a + b) := by rw [Nat.pow_succ, Nat.mul_comm]
  refine tc hk (by decide) ⟨_, _, a + b + 1, rfl, Int.mul_ne_zero (by omega) (by omega), by rw [e]; omega, by rw [e]; omega, by omega, fun d hd => rt_here (hq d hd)⟩
theorem b17 {x y : D} {a b : Nat} (hk : 1 ≤ k) (hx : FrN a x) (hy : FrN b y) (hab : a + b ≤ 800) (hq : ∀ d, FrN (a + b) d → Q d μ) : wDef (T k) 2 ir__law_times [x, y] μ Q := by
  obtain ⟨p, q, rfl, x1, x2, x3⟩ := hx
  obtain ⟨r, s, rfl, y1, y2, y3⟩ := hy
  simp only [wDef, ir__law_times, startD]
  rw [wS1]; simp [wS, wE, wEs]
  refine ⟨mw x3 y3 (by omega), mw x2 y2 (by omega), ?_⟩
  have m1 := mul_lt x3 y3
  have m3 := mul_lt x2 y2
  refine tc hk (by decide) ⟨_, _, a + b, rfl, Int.mul_ne_zero (by omega) (by omega), m1, m3, by omega, fun d hd => rt_here (hq d hd)⟩
theorem b19 {x y : D} (hx : FrN 400 x) (hy : FrN 400 y) (hq : ∀ b, Q (.bl b) μ) : wDef (T k) 2 ir__law_less [x, y] μ Q := by
  obtain ⟨p, q, rfl, x1, x2, x3⟩ := hx
  obtain ⟨r, s, rfl, y1, y2, y3⟩ := hy
  simp only [wDef, ir__law_less, startD]
  rw [wS1]; simp [wS, wE, wEs, wCmp, opCmp]
  exact ⟨mw x3 y2 (by decide), mw y3 x2 (by decide), rt_here (hq _)⟩
/-- a draw -/
theorem dr {n b : Nat} {many : Int} (hk : 1 ≤ k) (hw : WellOk n b μ) (hb : b ≤ BIG) (h0 : 0 < many) (h1 : many.natAbs < 2 ^ 400) (hq : ∀ r μ', Wl n (b + 1) μ μ' → 0 ≤ r → r < many → Q (.int r) μ') : T k 13 [.cel n, .int many] μ Q :=
  tc hk (by decide) ⟨n, b, many, rfl, hw, hb, h0, h1, hq⟩
theorem b29 {n b : Nat} (hk : 1 ≤ k) (hw : WellOk n b μ) (hb : b ≤ 900000000) (hq : ∀ r μ', Wl n (b + 2) μ μ' → r.natAbs < 2 ^ 100 → Q (.int r) μ') : wDef (T k) 2 ir__law_big [.cel n] μ Q := by
  have p1 : CPow 10 9 := ⟨by decide, by decide, by decide⟩
  have p2 : CPow 10 30 := ⟨by decide, by decide, by decide⟩
  simp only [wDef, ir__law_big, startD]
  rw [wS1]; simp [wS, wE, wEs, wT, wI, wO, wF, ofE, wCmp, opCmp, setsD]
  refine ⟨.inl p1, .inl p2, new_l (line_le (by simp)) (dr hk hw (by unfold BIG; omega) (by decide) (by decide) ?_)⟩
  intro r μ1 w1 r0 r1
  have hz : ∃ z : Int, atI ([D.int 4, D.int 60, D.int 1000000000, D.int 999999999999999999999999999999]) r = some (.int z) ∧ 0 < z ∧ z < 10 ^ 30 := by
    have : r = 0 ∨ r = 1 ∨ r = 2 ∨ r = 3 := by omega
    rcases this with rfl | rfl | rfl | rfl <;> simp
  obtain ⟨z, hz, z0, z1⟩ := hz
  simp [hz]
  rw [wS1]; simp [wS, wE, wEs, wT, wI, wO, wF, ofE, wCmp, opCmp, setsD]
  refine ⟨.inl (.inl ⟨by decide, by decide⟩), dr hk w1.ok (by unfold BIG; omega) (by omega) (by omega) ?_⟩
  intro r2 μ2 w2 h0 h1
  simp
  exact rt_here (hq _ _ (w1.trans w2) (by omega))
theorem big {n b : Nat} (hk : 2 ≤ k) (hw : WellOk n b μ) (hb : b ≤ 900000000) (hq : ∀ r μ', Wl n (b + 2) μ μ' → r.natAbs < 2 ^ 100 → Q (.int r) μ') : T k 29 [.cel n] μ Q :=
  tc hk (by decide) ⟨n, b, rfl, hw, hb, hq⟩
theorem b30 {n b : Nat} (hk : 2 ≤ k) (hw : WellOk n b μ) (hb : b ≤ 800000000) (hq : ∀ d μ', Wl n (b + 5) μ μ' → FrN 100 d → Q d μ') : wDef (T k) 1 ir__law_fraction [.cel n] μ Q := by
  simp only [wDef, ir__law_fraction, startD]
  rw [wS1]; simp [wS, wE, wEs, wT, wCmp, opCmp]
  refine big hk hw (by omega) fun p μ1 w1 hp => ?_
  refine dr (by omega) w1.ok (by unfold BIG; omega) (by decide) (by decide) fun r μ2 w2 r0 r1 => ?_
  simp
  split
  · refine big hk w2.ok (by omega) fun q μ3 w3 hq3 => ?_
    simp
    refine tc (m := 1) (by omega) (by decide) ⟨_, _, 100, rfl, ?_, hp, ?_, by decide, fun d hd => rt_here (hq d _ ((w1.trans w2).trans w3) hd)⟩
    · split <;> omega
    · split <;> split <;> omega
  · refine tc (m := 1) (by omega) (by decide) ⟨_, _, 100, rfl, by decide, hp, by decide, by decide, fun d hd => rt_here (hq d _ ((w1.trans w2).mono (by omega)) hd)⟩
theorem b31 {n b : Nat} (hk : 1 ≤ k) (hw : WellOk n b μ) (hb : b ≤ 900000000) (hq : ∀ d μ', Wl n (b + 4) μ μ' → FrN 34 d → Q d μ') : wDef (T k) 4 ir__law_middling [.cel n] μ Q := by
  have p1 : CPow 10 6 := ⟨by decide, by decide, by decide⟩
  have p2 : CPow 10 10 := ⟨by decide, by decide, by decide⟩
  have hz : ∀ r : Int, 0 ≤ r → r < 4 → ∃ z : Int, atI ([D.int 4, D.int 60, D.int 1000000, D.int 9999999999]) r = some (.int z) ∧ 0 < z ∧ z < 10 ^ 10 := by
    intro r h0 h1
    have : r = 0 ∨ r = 1 ∨ r = 2 ∨ r = 3 := by omega
    rcases this with rfl | rfl | rfl | rfl <;> simp
  simp only [wDef, ir__law_middling, startD]
  rw [wS1]; simp [wS, wE, wEs, wT, wI, wO, wF, ofE, wCmp, opCmp, setsD]
  refine ⟨.inl p1, .inl p2, new_l (line_le (by simp)) ?_⟩
  rw [wS1]; simp [wS, wE, wEs, wT, wI, wO, wF, ofE, wCmp, opCmp, setsD]
  refine dr hk hw (by unfold BIG; omega) (by decide) (by decide) fun r1 μ1 w1 a0 a1 => ?_
  obtain ⟨z1, e1, c1, d1⟩ := hz r1 a0 a1
  simp [e1]
  refine dr hk w1.ok (by unfold BIG; omega) (by decide) (by decide) fun r2 μ2 w2 a2 a3 => ?_
  obtain ⟨z2, e2, c2, d2⟩ := hz r2 a2 a3
  simp [e2]
  rw [wS1]; simp [wS, wE, wEs, wT, wI, wO, wF, ofE, wCmp, opCmp, setsD]
  refine ⟨.inl (.inl ⟨by decide, by decide⟩), dr hk w2.ok (by unfold BIG; omega) (by omega) (by omega) fun r3 μ3 w3 a4 a5 => ?_⟩
  simp
  refine dr hk w3.ok (by unfold BIG; omega) (by omega) (by omega) fun r4 μ4 w4 a6 a7 => ?_
  simp
  exact tc hk (by decide) ⟨_, _, 34, rfl, by omega, by omega, by omega, by decide, fun d hd => rt_here (hq d _ (((w1.trans w2).trans w3).trans w4) hd)⟩
theorem mid {n b : Nat} (hk : 2 ≤ k) (hw : WellOk n b μ) (hb : b ≤ 900000000) (hq : ∀ d μ', Wl n (b + 4) μ μ' → FrN 34 d → Q d μ') : T k 31 [.cel n] μ Q :=
  tc hk (by decide) ⟨n, b, rfl, hw, hb, hq⟩
theorem b35 {n b : Nat} (hk : 2 ≤ k) (hw : WellOk n b μ) (hb : b ≤ 800000000) (hq : ∀ d μ', Wl n (b + 4) μ μ' → FrN 34 d → Q d μ') : wDef (T k) 2 ir__law_period [.cel n] μ Q := by
  simp only [wDef, ir__law_period, startD]
  rw [wS1]; simp [wS, wE, wEs, wT, wI, wO, wF, ofE, wCmp, opCmp, setsD]
  refine mid hk hw (by omega) fun d μ1 w1 hd => ?_
  obtain ⟨p, q, rfl, x1, x2, x3⟩ := hd
  rw [wS1]; simp [wS, wE, wEs, wT, wI, wO, wF, ofE, wCmp, opCmp, setsD]
  split
  · exact rt_here (hq _ _ w1 ⟨1, 7, rfl, by decide, by decide, by decide⟩)
  · refine rt_here (hq _ _ w1 ⟨_, q, rfl, x1, x2, ?_⟩)
    split <;> omega
end
end K68

set_option Elab.async false
set_option linter.all false
set_option maxRecDepth 100000
namespace K68
open PySem L2 Rf
section
variable {k : Nat} {μ : M} {Q : WQ}
/-- a comprehension that draws -/
theorem lc_gen {Γ : Tab} {tg : CT} {elt : WE} {own : List Nat} {s : Src} {ρ : Rho} {n b c : Nat} (R : D → Prop) (hw : WellOk n b μ) (hs : s.at_ = none) (hl : s.items.length ≤ 1000)
    (h : ∀ (i : Nat) x μ', s.items[i]? = some x → Wl n (b + c * i) μ μ' → ∃ ρ2, bindT μ' tg x (wipeD ρ own) = some ρ2 ∧ ∀ P : WQ, (∀ y μ2, Wl n (b + c * (i + 1)) μ μ2 → R y → P y μ2) → elt ρ2 μ' P)
    (hq : ∀ ys μ', Wl n (b + c * s.items.length) μ μ' → ys.length = s.items.length → (∀ y ∈ ys, R y) → newL ys μ' Q) : wLc tg (wF Γ .nil) elt own s ρ μ Q := by
  refine ⟨fun i acc μ' => Wl n (b + c * i) μ μ' ∧ acc.length = i ∧ ∀ y ∈ acc, R y, ⟨by simpa using Wl.refl hw, rfl, by simp⟩, fun _ _ _ _ _ m e => (by rw [hs] at e; cases e), ?_, ?_⟩
  · rintro i x acc μ' hx ⟨hw', hl', hr⟩
    obtain ⟨ρ2, hb, hh⟩ := h i x μ' hx hw'
    have hi : i < s.items.length := (List.getElem?_eq_some_iff.mp hx).1
    refine ⟨ρ2, hb, ?_⟩
    simp only [wF, if_true]
    refine hh _ fun y μ2 w2 ry => ⟨line_lt (by omega), w2, by simp [hl'], ?_⟩
    intro z hz
    rcases List.mem_append.mp hz with hz | hz
    · exact hr z hz
    · simp at hz
      subst hz
      exact ry
  · rintro acc μ' ⟨hw', hl', hr⟩
    exact hq acc μ' hw' hl' hr
theorem ints_of : ∀ {ys : List D}, (∀ y ∈ ys, ∃ z : Int, y = .int z ∧ SmI z) → ∃ zs : List Int, ys = zs.map .int ∧ ∀ z ∈ zs, SmI z
  | [], _ => ⟨[], rfl, by simp⟩
  | y :: ys, h => by
    obtain ⟨z, rfl, hz⟩ := h y (by simp)
    obtain ⟨zs, rfl, hzs⟩ := ints_of fun x hx => h x (List.mem_cons_of_mem _ hx)
    exact ⟨z :: zs, rfl, fun x hx => by
      rcases List.mem_cons.mp hx with rfl | hx
      · exact hz
      · exact hzs x hx⟩
theorem leafI {i : Int} {L : Nat} (h : SmI i) : (fun x s => R_leaf x s ∨ SayTx L x s) (D.int i) (iS i) := .inl (.inl ⟨i, rfl, h, rfl⟩)
theorem b32 {n b L : Nat} {many left : Int} (hk : L + 1 ≤ k) (hw : WellOk n b μ) (hb : b + 16 * 2 ^ L ≤ 800000000) (hL1 : 1 ≤ L) (hL8 : L ≤ 8) (hle : left ≤ L) (hq : ∀ d t μ', Wl n (b + (16 * 2 ^ L - 4)) μ μ' → SayTx L d t → Q d μ') : wDef (T k) 9 ir__law_any [.cel n, .int many, .int left] μ Q := by
  have p30 : CPow 10 30 := ⟨by decide, by decide, by decide⟩
  have hp : 2 ≤ 2 ^ L := by
    have := Nat.pow_le_pow_right (n := 2) (by decide) hL1
    simpa using this
  have leaf : ∀ {w : Str} {ps : List D} {ts : List Str} {μ' : M}, Wl n (b + 20) μ μ' → ps.length ≤ 3 → w ∈ (["whole", "rest", "less", "most", "equal", "not", "some", "every", "both", "either"] : List Str) → All2 (fun x s => R_leaf x s ∨ SayTx 0 x s) ps ts → Q (.tup (.str w :: ps)) μ' := by
    intro w ps ts μ' h1 h2 h3 h4
    exact hq _ _ _ (h1.mono (by omega)) (say_le (L := 1) ⟨w, ps, ts, rfl, h2, h3, h4, rfl⟩ hL1)
  simp only [wDef, ir__law_any, startD]
  rw [wS1]; simp [wS, wE, wEs, wT, wI, wO, wF, ofE, wCmp, opCmp, setsD]
  refine dr (by omega) hw (by unfold BIG; omega) (by decide) (by decide) fun way μ1 w1 y0 y1 => ?_
  rw [wS1]
  by_cases hc : many < 2 ∨ left < 2 ∨ way = 4
  · refine iff_val true (fun P hP => ?_) ?_
    · simp only [wT, wE, wCmp, opCmp]
      try simp
      split
      · exact hP
      · split
        · exact hP
        · have : way = 4 := by omega
          simpa [this] using hP
    rw [if_pos rfl]
    rw [wS1]; simp [wS, wE, wEs, wT, wI, wO, wF, ofE, wCmp, opCmp, setsD]
    refine dr (by omega) w1.ok (by unfold BIG; omega) (by decide) (by decide) fun way2 μ2 w2 y2 y3 => ?_
    try simp
    refine dr (by omega) w2.ok (by unfold BIG; omega) (by decide) (by decide) fun j μ3 w3 y4 y5 => ?_
    try simp
    have w13 := (w1.trans w2).trans w3
    have sj : SmI j := by unfold SmI; omega
    rw [wS1]; simp [wS, wE, wEs, wT, wI, wO, wF, ofE, wCmp, opCmp, setsD]
    split
    · rw [wS1]; simp [wS, wE, wEs, wT, wI, wO, wF, ofE, wCmp, opCmp, setsD]
      exact rt_here (leaf (ts := [iS j]) (w13.mono (by omega)) (by simp) (by simp) (.cons (leafI sj) .nil))
    · rw [wS1]; simp [wS, wE, wEs, wT, wI, wO, wF, ofE, wCmp, opCmp, setsD]
      split
      · rw [wS1]; simp [wS, wE, wEs, wT, wI, wO, wF, ofE, wCmp, opCmp, setsD]
        refine ⟨.inl p30, new_l (line_le (by simp)) (dr (by omega) w3.ok (by unfold BIG; omega) (by decide) (by decide) fun r μ4 w4 r0 r1 => ?_)⟩
        have hz : ∃ z : Int, atI ([D.int 5, D.int 999999999999999999999999999997]) r = some (.int z) ∧ 0 < z ∧ z < 10 ^ 30 := by
          have : r = 0 ∨ r = 1 := by omega
          rcases this with rfl | rfl <;> simp
        obtain ⟨z, hz, z0, z1⟩ := hz
        simp [hz]
        refine dr (by omega) w4.ok (by unfold BIG; omega) (by omega) (by omega) fun m μ5 w5 m0 m1 => ?_
        try simp
        rw [wS1]; simp [wS, wE, wEs, wT, wI, wO, wF, ofE, wCmp, opCmp, setsD]
        refine dr (by omega) w5.ok (by unfold BIG; omega) (by omega) (by omega) fun q μ6 w6 q0 q1 => ?_
        refine ⟨line_le (by decide), rt_here (leaf (ts := [iS j, iS (2 + m), iS q]) ((((w13.trans w4).trans w5).trans w6).mono (by omega)) (by simp) (by simp) (.cons (leafI sj) (.cons (leafI ?_) (.cons (leafI ?_) .nil))))⟩
        · unfold SmI; omega
        · unfold SmI; omega
      · rw [wS1]; simp [wS, wE, wEs, wT, wI, wO, wF, ofE, wCmp, opCmp, setsD]
        refine ⟨⟨by omega, by omega⟩, ?_⟩
        refine lc_gen (Γ := T k) (n := n) (b := b + 1 + 1 + 1) (c := 2) (fun y => ∃ z : Int, y = .int z ∧ SmI z) w3.ok rfl (by simp) ?_ ?_
        · intro i x μ' hx hw'
          obtain ⟨hi, rfl⟩ := r_rangeD hx
          refine ⟨_, rfl, fun P hP => ?_⟩
          simp [wipeD]
          refine big (by omega) hw'.ok (by omega) fun r μ5 w5 hr => hP _ _ ((hw'.trans w5).mono (by omega)) ⟨r, rfl, by unfold SmI; omega⟩
        · intro ys μ4 w4 hlen hys
          obtain ⟨zs, rfl, hzs⟩ := ints_of hys
          simp at hlen
          obtain ⟨a1, a2, a3, rfl⟩ : ∃ a b c, zs = [a, b, c] := by
            match zs, hlen with
            | [a, b, c], _ => exact ⟨_, _, _, rfl⟩
          refine new_l (line_le (by simp)) ?_
          try simp
          rw [wS1]; simp [wS, wE, wEs, wT, wI, wO, wF, ofE, wCmp, opCmp, setsD]
          refine new_l (line_le (by simp)) ?_
          have hw3 : ∃ w : Str, atI ([D.str "less", D.str "most", D.str "equal"]) (way2 - 2) = some (.str w) ∧ w ∈ (["whole", "rest", "less", "most", "equal", "not", "some", "every", "both", "either"] : List Str) := by
            have : way2 = 2 ∨ way2 = 3 ∨ way2 = 4 := by omega
            rcases this with rfl | rfl | rfl
            · exact ⟨_, rfl, by simp⟩
            · exact ⟨_, rfl, by simp⟩
            · exact ⟨_, rfl, by simp⟩
          obtain ⟨w, ew, hw⟩ := hw3
          simp only [r_idxL, r_ixL, ew]
          have w4 : Wl n (b + 1 + 1 + 1 + 2 * 3) _ _ := w4
          refine big (by omega) w4.ok (by omega) fun r μ5 w5 hr => ?_
          refine ⟨line_le (by decide), rt_here (leaf (ts := [Txt.join " " ([a1, a2, a3].map iS), iS r]) (((w13.trans w4).trans w5).mono (by omega)) (by simp) hw (.cons (.inl (.inr ⟨a1, [a2, a3], rfl, by simp, hzs a1 (by simp), fun z hz => hzs z (by simp at hz ⊢; omega), rfl⟩)) (.cons (leafI ?_) .nil)))⟩
          unfold SmI; omega
  · refine iff_val false (fun P hP => ?_) ?_
    · simp only [wT, wE, wCmp, opCmp]
      try simp
      rw [if_neg (by omega), if_neg (by omega)]
      have : ¬ way = 4 := by omega
      simpa [this] using hP
    rw [if_neg Bool.false_ne_true, wS0]
    dsimp only
    obtain ⟨L, rfl⟩ : ∃ N0, L = N0 + 1 := ⟨L - 1, by omega⟩
    have hM1 : 1 ≤ L := by omega
    have e2 : 2 ^ (L + 1) = 2 * 2 ^ L := by rw [Nat.pow_succ, Nat.mul_comm]
    rw [e2] at hb hq hp
    have rc : ∀ {c : Nat} {μ' : M} {m x : Int} {P : WQ}, WellOk n c μ' → c ≤ b + (16 * 2 ^ L - 2) → x ≤ L → (∀ d t μ2, Wl n (c + (16 * 2 ^ L - 4)) μ' μ2 → SayTx L d t → P d μ2) → T k 32 [.cel n, .int m, .int x] μ' P := fun {c μ' m x P} h1 h2 h3 h4 =>
      tc (m := 3) (by omega) (by decide) ⟨n, c, L, m, x, rfl, h1, by omega, by omega, hM1, by omega, h3, h4⟩
    have node : ∀ {w : Str} {ps : List D} {ts : List Str} {μ' : M} {c : Nat}, Wl n c μ μ' → c ≤ b + (16 * (2 * 2 ^ L) - 4) → ps.length ≤ 3 → w ∈ (["whole", "rest", "less", "most", "equal", "not", "some", "every", "both", "either"] : List Str) → All2 (fun x s => R_leaf x s ∨ SayTx L x s) ps ts → Q (.tup (.str w :: ps)) μ' := by
      intro w ps ts μ' c h1 hc h2 h3 h4
      exact hq _ _ _ (h1.mono hc) ⟨w, ps, ts, rfl, h2, h3, h4, rfl⟩
    have pM : 2 ≤ 2 ^ L := by
      have := Nat.pow_le_pow_right (n := 2) (by decide) hM1
      simpa using this
    rw [wS1]; simp [wS, wE, wEs, wT, wI, wO, wF, ofE, wCmp, opCmp, setsD]
    split
    · rw [wS1]; simp [wS, wE, wEs, wT, wI, wO, wF, ofE, wCmp, opCmp, setsD]
      refine rc w1.ok (by omega) (by omega) fun d t μ2 w2 hd => ?_
      try simp
      exact rt_here (node (w1.trans w2) (by omega) (by simp) (by simp) (.cons (.inr hd) .nil))
    · rw [wS1]; simp [wS, wE, wEs, wT, wI, wO, wF, ofE, wCmp, opCmp, setsD]
      split
      · rw [wS1]; simp [wS, wE, wEs, wT, wI, wO, wF, ofE, wCmp, opCmp, setsD]
        refine new_l (line_le (by simp)) (dr (by omega) w1.ok (by unfold BIG; omega) (by decide) (by decide) fun r μ2 w2 r0 r1 => ?_)
        have hz : ∃ w : Str, atI ([D.str "some", D.str "every"]) r = some (.str w) ∧ w ∈ (["whole", "rest", "less", "most", "equal", "not", "some", "every", "both", "either"] : List Str) := by
          have : r = 0 ∨ r = 1 := by omega
          rcases this with rfl | rfl
          · exact ⟨_, rfl, by simp⟩
          · exact ⟨_, rfl, by simp⟩
        obtain ⟨w, ew, hww⟩ := hz
        simp only [r_idxL, r_ixL, ew]
        refine dr (by omega) w2.ok (by unfold BIG; omega) (by decide) (by decide) fun j μ3 w3 j0 j1 => ?_
        refine rc w3.ok (by omega) (by omega) fun d t μ4 w4 hd => ?_
        refine ⟨line_le (by decide), rt_here (node (((w1.trans w2).trans w3).trans w4) (by omega) (by simp) hww (.cons (leafI (i := j) ?_) (.cons (.inr hd) .nil)))⟩
        unfold SmI; omega
      · rw [wS1]; simp [wS, wE, wEs, wT, wI, wO, wF, ofE, wCmp, opCmp, setsD]
        refine ⟨dv (n := 2) (by decide) (by decide) (by decide), rc w1.ok (by omega) (by omega) fun d1 t1 μ2 w2 hd1 => ?_⟩
        try simp
        rw [wS1]; simp [wS, wE, wEs, wT, wI, wO, wF, ofE, wCmp, opCmp, setsD]
        refine new_l (line_le (by simp)) (dr (by omega) w2.ok (by unfold BIG; omega) (by decide) (by decide) fun r μ3 w3 r0 r1 => ?_)
        have hz : ∃ w : Str, atI ([D.str "both", D.str "either"]) r = some (.str w) ∧ w ∈ (["whole", "rest", "less", "most", "equal", "not", "some", "every", "both", "either"] : List Str) := by
          have : r = 0 ∨ r = 1 := by omega
          rcases this with rfl | rfl
          · exact ⟨_, rfl, by simp⟩
          · exact ⟨_, rfl, by simp⟩
        obtain ⟨w, ew, hww⟩ := hz
        simp only [r_idxL, r_ixL, ew]
        refine ⟨dv (n := 2) (by decide) (by decide) (by decide), ?_⟩
        refine rc w3.ok (by omega) (by omega) fun d2 t2 μ4 w4 hd2 => ?_
        exact ⟨line_le (by decide), rt_here (node (((w1.trans w2).trans w3).trans w4) (by omega) (by simp) hww (.cons (.inr hd1) (.cons (.inr hd2) .nil)))⟩
end
end K68

set_option Elab.async false
set_option linter.all false
set_option maxRecDepth 100000
namespace K68
open PySem L2 Rf
mutual
def pur : D → Bool
  | .tup xs => purAll xs
  | .lst _ => false
  | .scr _ => false
  | .cel _ => false
  | _ => true
def purAll : List D → Bool
  | [] => true
  | x :: xs => pur x && purAll xs
end
mutual
theorem frz_pur {m : Nat} {ν : M} : ∀ d : D, pur d = true → d.frz m ν = some d
  | .tup xs, h => by
    have h : purAll xs = true := h
    simp only [D.frz, frz_purs xs h, Option.map_some]
  | .lst _, h => by cases h
  | .scr _, h => by cases h
  | .cel _, h => by cases h
  | .non, _ => rfl
  | .bl _, _ => rfl
  | .int _, _ => rfl
  | .str _, _ => rfl
  | .ty _, _ => rfl
theorem frz_purs {m : Nat} {ν : M} : ∀ xs : List D, purAll xs = true → frzAll m ν xs = some xs
  | [], _ => rfl
  | x :: xs, h => by
    have h : (pur x && purAll xs) = true := h
    rw [Bool.and_eq_true] at h
    simp only [frzAll, frz_pur x h.1, frz_purs xs h.2]
end
theorem purAll_of : ∀ {xs : List D}, (∀ x ∈ xs, pur x = true) → purAll xs = true
  | [], _ => rfl
  | x :: xs, h => by
    show (pur x && purAll xs) = true
    rw [h x (by simp), purAll_of fun y hy => h y (List.mem_cons_of_mem _ hy)]; rfl
theorem pur_ints {zs : List Int} : purAll (zs.map D.int) = true := purAll_of fun x hx => by
  obtain ⟨z, _, rfl⟩ := List.mem_map.mp hx
  rfl
section
variable {k : Nat} {μ : M} {Q : WQ}
/-- a value leaves a def that drew and has lists of its own -/
theorem rt_gen {n b : Nat} {μ1 ν : M} {d : D} (hw : WellOk n 0 μ ∨ ∃ c, WellOk n c μ) (w : Wl n b μ μ1) (hp : pur d = true) (q : Q d μ1) : rtD μ Q d (μ1 ++ ν) := by
  obtain ⟨⟨c, rfl⟩, ok⟩ := w
  refine .inr ⟨d, frz_pur d hp, fun i c' hi e => ?_, ?_⟩
  · rw [List.getElem?_append_left (by simpa using hi)] at e
    by_cases hn : n = i
    · subst hn
      obtain ⟨μ0, a, m, t, h1, h2, _⟩ := ok
      rw [h2, List.getElem?_set_self h1] at e
      cases e
      exact .inr rfl
    · rw [List.getElem?_set_ne hn] at e
      exact .inl e
  · rw [List.take_left']
    · exact q
    · simp
theorem b34 {n b : Nat} {j : Int} (hk : 1 ≤ k) (hw : WellOk n b μ) (hb : b ≤ 900000000) (j0 : 0 ≤ j) (j1 : j < 4) (hq : ∀ d t μ', Wl n (b + 200) μ μ' → R_word d t → Q d μ') : wDef (T k) 7 ir__law_word [.cel n, .int j] μ Q := by
  have hn := hw.lt
  have hz : ∃ z : Int, atI ([D.int 1, D.int 2, D.int 4, D.int 8]) j = some (.int z) ∧ 0 < z ∧ z < 10 := by
    have : j = 0 ∨ j = 1 ∨ j = 2 ∨ j = 3 := by omega
    rcases this with rfl | rfl | rfl | rfl <;> simp
  obtain ⟨z, hz, z0, z1⟩ := hz
  simp only [wDef, ir__law_word, startD]
  rw [wS1]; simp [wS, wE, wEs, wT, wI, wO, wF, ofE, wCmp, opCmp, setsD]
  refine new_l (line_le (by simp)) ?_
  simp only [r_idxL, r_ixL, hz]
  refine new_c (line_le (by simp)) ?_
  try simp
  rw [wS1]; simp [wS, wE, wEs, wT, wI, wO, wF, ofE, wCmp, opCmp, setsD]
  simp only [srcOf, asSq, Option.map_some]
  refine ⟨line_le (by decide), ?_⟩
  refine ⟨fun i ρ μ' => ∃ (μ1 : M) (ps : List D), μ' = μ1 ++ [.lst ps] ∧ μ1.length = μ.length ∧ Wl n (b + 63 * i) μ μ1 ∧ ps.length = i ∧ (∀ p ∈ ps, ∃ t, R_ints "" p t) ∧ ∃ o4 o5 o6, ρ = [some (.cel n), some (.int j), some (.int z), some (.cel μ.length), o4, o5, o6], ⟨μ, [], rfl, rfl, by simpa using Wl.refl hw, rfl, by simp, _, _, _, rfl⟩, fun _ _ _ _ _ _ h => (by cases h), ?_, ?_⟩
  · rintro i x ρ μ' hx ⟨μ1, ps, rfl, el, w1, hl, hps, o4, o5, o6, rfl⟩
    have hi : i < 3 := (List.getElem?_eq_some_iff.mp hx).1
    obtain ⟨l, rfl, l0, l1⟩ : ∃ l : Int, x = .int l ∧ 0 ≤ l ∧ l ≤ 1 := by
      have : i = 0 ∨ i = 1 ∨ i = 2 := by omega
      rcases this with rfl | rfl | rfl <;> (simp at hx; subst hx; exact ⟨_, rfl, by decide, by decide⟩)
    refine ⟨_, rfl, ?_⟩
    have hn1 : n < μ1.length := by omega
    rw [wS1]; simp [wS, wE, wEs, wT, wI, wO, wF, ofE, wCmp, opCmp, setsD]
    refine dr hk (w1.ok.app _) (by unfold BIG; omega) (by decide) (by decide) fun r1 ν1 v1 a0 a1 => ?_
    obtain ⟨μ2, rfl, w2, el2⟩ := v1.app hn1
    refine dr hk (w2.ok.app _) (by unfold BIG; omega) (by decide) (by decide) fun r2 ν2 v2 a2 a3 => ?_
    obtain ⟨μ3, rfl, w3, el3⟩ := v2.app (by omega)
    refine new_l (line_le (by simp)) ?_
    refine dr hk (w3.ok.app _) (by unfold BIG; omega) (by decide) (by decide) fun r3 ν3 v3 a4 a5 => ?_
    obtain ⟨μ4, rfl, w4, el4⟩ := v3.app (by omega)
    obtain ⟨m, em, m0, m1⟩ : ∃ m : Int, atI [D.int r1, D.int r2] r3 = some (.int m) ∧ 0 ≤ m ∧ m < 60 := by
      have : r3 = 0 ∨ r3 = 1 := by omega
      rcases this with rfl | rfl
      · exact ⟨r1, by simp, a0, by omega⟩
      · exact ⟨r2, by simp, a2, by omega⟩
    simp only [r_idxL, r_ixL, em]
    try simp
    rw [wS1]; simp [wS, wE, wEs, wT, wI, wO, wF, ofE, wCmp, opCmp, setsD]
    have e4 : μ.length = μ4.length := by omega
    have w14 := ((w1.trans w2).trans w3).trans w4
    rw [e4]
    refine ⟨e_mok, ⟨by omega, by omega⟩, ?_⟩
    refine lc_gen (Γ := T k) (n := n) (b := b + 63 * i + 1 + 1 + 1) (c := 1) (fun y => ∃ z : Int, y = .int z ∧ SmI z) (w4.ok.app _) rfl (by simp; omega) ?_ ?_
    · intro i' x μ' hx hw'
      refine ⟨_, rfl, fun P hP => ?_⟩
      simp [wipeD]
      have hi' := (List.getElem?_eq_some_iff.mp hx).1
      simp at hi'
      refine dr hk hw'.ok (by unfold BIG; omega) (by omega) (by omega) fun r μ5 w5 r0 r1 => hP _ _ ((hw'.trans w5).mono (by omega)) ⟨r, rfl, by unfold SmI; omega⟩
    · intro ys ν5 v5 hlen hys
      obtain ⟨zs, rfl, hzs⟩ := ints_of hys
      simp at hlen
      obtain ⟨μ5, rfl, w5, el5⟩ := v5.app (by omega)
      refine new_l (line_le (by simp; omega)) ?_
      simp only [r_tupleL]
      rw [← el5, e_app]
      refine ⟨line_lt (by omega), μ5, ps ++ [.tup (zs.map .int)], rfl, by omega, ?_, by simp [hl], ?_⟩
      · simp at w5
        exact (w14.trans w5).mono (by omega)
      · intro p hp
        rcases List.mem_append.mp hp with hp | hp
        · exact hps p hp
        · simp at hp
          subst hp
          exact ⟨_, zs, rfl, by omega, hzs, rfl⟩
  · rintro ρ μ' ⟨μ1, ps, rfl, el, w1, hl, hps, o4, o5, o6, rfl⟩
    have hl : ps.length = 3 := hl
    obtain ⟨p, q, r, rfl⟩ : ∃ p q r, ps = [p, q, r] := by
      match ps, hl with
      | [p, q, r], _ => exact ⟨_, _, _, rfl⟩
    obtain ⟨t1, h1⟩ := hps p (by simp)
    obtain ⟨t2, h2⟩ := hps q (by simp)
    obtain ⟨t3, h3⟩ := hps r (by simp)
    have w1 : Wl n (b + 63 * 3) μ μ1 := w1
    rw [wS1]; simp [wS, wE, wEs, wT, wI, wO, wF, ofE, wCmp, opCmp, setsD]
    rw [← el]
    simp
    refine rt_gen (.inr ⟨_, hw⟩) w1 ?_ (hq _ _ _ (w1.mono (by omega)) ⟨p, q, r, t1, t2, t3, rfl, h1, h2, h3, rfl⟩)
    obtain ⟨z1, rfl, _⟩ := h1
    obtain ⟨z2, rfl, _⟩ := h2
    obtain ⟨z3, rfl, _⟩ := h3
    simp [pur, purAll, pur_ints]
theorem FrN.R {n : Nat} {d : D} (h : FrN n d) (l : n ≤ 130) : ∃ t, R_fr d t := by
  obtain ⟨a, b, rfl, _, h2, h3⟩ := h.mono l
  exact ⟨_, a, b, rfl, h3, h2, rfl⟩
theorem spans0 : R_spans (.tup []) "none" := ⟨[], [], rfl, by simp, .nil, rfl⟩
theorem spans1 {x y : D} {l h : Int} (hx : FrN 125 x) (hy : FrN 125 y) (hl : l = 0 ∨ l = 1) (hh : h = 0 ∨ h = 1) : ∃ t, R_spans (.tup [.tup [x, y, .int l, .int h]]) t := by
  obtain ⟨f, hf⟩ := hx.R (by decide)
  obtain ⟨g, hg⟩ := hy.R (by decide)
  exact ⟨_, _, _, rfl, by simp, .cons ⟨x, y, f, g, l, h, rfl, hx, hy, hf, hg, hl, hh, rfl⟩ .nil, rfl⟩
theorem one1 : FrN 125 (.tup [.int 1, .int 1]) := ⟨1, 1, rfl, by decide, by decide, by decide⟩
theorem zero1 : FrN 125 (.tup [.int 0, .int 1]) := ⟨0, 1, rfl, by decide, by decide, by decide⟩
theorem eq_fr {a b c e : Int} {μ : M} : eqD μ (fr a b) (fr c e) = some (decide (a = c ∧ b = e)) := q_t2
theorem b36 {n b : Nat} (hk : 3 ≤ k) (hw : WellOk n b μ) (hb : b ≤ 700000000) (hq : ∀ d f s μ', Wl n (b + 12) μ μ' → R_side d f s → Q d μ') : wDef (T k) 6 ir__law_side [.cel n] μ Q := by
  have side : ∀ {x sp : D} {μ' : M} {a : Nat}, Wl n (b + 12) μ μ' → FrN a x → a ≤ 125 → (∃ t, R_spans sp t) → Q (.tup [x, sp]) μ' := by
    intro x sp μ' a w hx ha ⟨s, hs⟩
    obtain ⟨f, hf⟩ := hx.R (by omega)
    exact hq _ f s _ w ⟨x, sp, rfl, hf, hs⟩
  simp only [wDef, ir__law_side, startD]
  rw [wS1]; simp [wS, wE, wEs, wT, wI, wO, wF, ofE, wCmp, opCmp, setsD]
  refine dr (by omega) hw (by unfold BIG; omega) (by decide) (by decide) fun way μ1 w1 y0 y1 => ?_
  rw [wS1]; simp [wS, wE, wEs, wT, wI, wO, wF, ofE, wCmp, opCmp, setsD]
  split
  · rw [wS1]; simp [wS, wE, wEs, wT, wI, wO, wF, ofE, wCmp, opCmp, setsD]
    refine ⟨line_le (by decide), line_le (by decide), new_l (line_le (by simp)) ?_⟩
    have : way = 0 ∨ way = 1 := by omega
    rcases this with rfl | rfl
    · try simp
      exact rt_here (side (w1.mono (by omega)) one1 (by decide) (spans1 zero1 one1 (.inr rfl) (.inl rfl)))
    · try simp
      exact rt_here (side (w1.mono (by omega)) one1 (by decide) ⟨_, spans0⟩)
  · rw [wS1]; simp [wS, wE, wEs, wT, wI, wO, wF, ofE, wCmp, opCmp, setsD]
    refine tc hk (by decide) ⟨n, b + 1, rfl, w1.ok, by omega, fun x μ2 w2 hx => ?_⟩
    try simp
    rw [wS1]; simp [wS, wE, wEs, wT, wI, wO, wF, ofE, wCmp, opCmp, setsD]
    refine dr (by omega) w2.ok (by unfold BIG; omega) (by decide) (by decide) fun r1 μ3 w3 a0 a1 => ?_
    refine dr (by omega) w3.ok (by unfold BIG; omega) (by decide) (by decide) fun r2 μ4 w4 a2 a3 => ?_
    refine new_l (line_le (by simp)) ?_
    have es : ∃ e1 e2 : Int, sortI [r1, r2] = [e1, e2] ∧ 0 ≤ e1 ∧ e1 < 12 ∧ 0 ≤ e2 ∧ e2 < 12 := by
      have h1 : (sortI [r1, r2]).Perm [r1, r2] := List.mergeSort_perm _ _
      have h2 := h1.length_eq
      have h3 : ∀ z ∈ sortI [r1, r2], 0 ≤ z ∧ z < 12 := fun z hz => by
        have := h1.mem_iff.mp hz
        simp at this
        rcases this with rfl | rfl <;> omega
      match hs : sortI [r1, r2], h2 with
      | [e1, e2], _ =>
        rw [hs] at h3
        have := h3 e1 (by simp)
        have := h3 e2 (by simp)
        exact ⟨e1, e2, rfl, by omega, by omega, by omega, by omega⟩
    obtain ⟨e1, e2, es, g0, g1, g2, g3⟩ := es
    have w24 := ((w1.trans w2).trans w3).trans w4
    have bs : opBlt .sorted [.lst [.int r1, .int r2]] μ4 = fun P => newL ([.int e1, .int e2]) μ4 P := by
      funext P
      show (match (asR μ4 (.lst [.int r1, .int r2])).bind intsD with | some ns => newL ((sortI ns).map .int) μ4 P | none => False) = _
      have : intsD [.int r1, .int r2] = some [r1, r2] := intsD_map [r1, r2]
      simp only [r_asRl, Option.bind_some, this, es]
      rfl
    rw [bs]
    refine new_l (line_le (by simp)) ?_
    try simp
    have e12 : FrN 4 (.tup [.int e1, .int 12]) := ⟨e1, 12, rfl, by decide, by decide, by omega⟩
    have e22 : FrN 4 (.tup [.int e2, .int 12]) := ⟨e2, 12, rfl, by decide, by decide, by omega⟩
    rw [wS1]; simp [wS, wE, wEs, wT, wI, wO, wF, ofE, wCmp, opCmp, setsD]
    refine tc (m := 2) (by omega) (by decide) ⟨_, _, 34, 4, rfl, hx, e12, by decide, fun lo hlo => ?_⟩
    refine tc (m := 2) (by omega) (by decide) ⟨_, _, 34, 4, rfl, hx, e22, by decide, fun hi hhi => ?_⟩
    have hlo2 := hlo.mono (m := 125) (by decide)
    have hhi2 := hhi.mono (m := 125) (by decide)
    obtain ⟨p1, p2, rfl, _⟩ := id hlo
    obtain ⟨q1, q2, rfl, _⟩ := id hhi
    dsimp only
    rw [wS1]
    simp only [wS, wT, wE, wCmp, opCmp]
    simp [eq_fr]
    split
    · rw [wS1]; simp [wS, wE, wEs, wT, wI, wO, wF, ofE, wCmp, opCmp, setsD]
      exact ⟨line_le (by decide), line_le (by decide), rt_here (side (w24.mono (by omega)) hx (by decide) (spans1 hlo2 hhi2 (.inr rfl) (.inr rfl)))⟩
    · rw [wS1]; simp [wS, wE, wEs, wT, wI, wO, wF, ofE, wCmp, opCmp, setsD]
      refine dr (by omega) w4.ok (by unfold BIG; omega) (by decide) (by decide) fun l μ5 w5 l0 l1 => ?_
      refine dr (by omega) w5.ok (by unfold BIG; omega) (by decide) (by decide) fun h μ6 w6 h0 h1 => ?_
      exact ⟨line_le (by decide), line_le (by decide), rt_here (side (((w24.trans w5).trans w6).mono (by omega)) hx (by decide) (spans1 hlo2 hhi2 (by omega) (by omega)))⟩
end
end K68

set_option Elab.async false
set_option linter.all false
set_option maxRecDepth 100000
namespace K68
open PySem L2 Rf
section
variable {k : Nat} {μ : M} {Q : WQ}
theorem all2_of {R : D → Str → Prop} : ∀ {xs : List D}, (∀ x ∈ xs, ∃ t, R x t) → ∃ ts, All2 R xs ts
  | [], _ => ⟨[], .nil⟩
  | x :: xs, h => by
    obtain ⟨t, ht⟩ := h x (by simp)
    obtain ⟨ts, hts⟩ := all2_of fun y hy => h y (List.mem_cons_of_mem _ hy)
    exact ⟨t :: ts, .cons ht hts⟩
theorem frs_of {xs : List D} (hl : xs.length ≤ 10) (h : ∀ x ∈ xs, FrN 100 x) : ∃ t, R_frs (.tup xs) t := by
  obtain ⟨ts, hts⟩ := all2_of (R := R_fr) fun x hx => (h x hx).R (by decide)
  exact ⟨_, xs, ts, rfl, hl, hts, rfl⟩
theorem blsD_map {xs : List D} (f : D → Bool) : blsD (xs.map fun x => .bl (f x)) = some (xs.map f) := by
  induction xs with
  | nil => rfl
  | cons x xs ih =>
    show blsD (D.bl (f x) :: xs.map fun x => .bl (f x)) = _
    simp only [blsD, ih]
    rfl
def isZ (d : D) : Bool := match d with
  | .tup [.int a, .int b] => decide (a = 0 ∧ b = 1)
  | _ => false
theorem b38 {n b : Nat} (hk : 3 ≤ k) (hw : WellOk n b μ) (hb : b ≤ 700000000) (hq : ∀ d t μ', Wl n (b + 30) μ μ' → R_paper d t → Q d μ') : wDef (T k) 6 ir__law_paper [.cel n] μ Q := by
  simp only [wDef, ir__law_paper, startD]
  rw [wS1]; simp [wS, wE, wEs, wT, wI, wO, wF, ofE, wCmp, opCmp, setsD]
  refine dr (by omega) hw (by unfold BIG; omega) (by decide) (by decide) fun way μ1 w1 y0 y1 => ?_
  refine dr (by omega) w1.ok (by unfold BIG; omega) (by decide) (by decide) fun m μ2 w2 m0 m1 => ?_
  try simp
  refine ⟨⟨by omega, by omega⟩, ?_⟩
  refine lc_gen (Γ := T k) (n := n) (b := b + 1 + 1) (c := 5) (FrN 100) w2.ok rfl (by simp; omega) ?_ ?_
  · intro i x μ' hx hw'
    have hi := (List.getElem?_eq_some_iff.mp hx).1
    simp at hi
    refine ⟨_, rfl, fun P hP => ?_⟩
    simp [wipeD]
    exact tc hk (by decide) ⟨n, _, rfl, hw'.ok, by omega, fun d μ3 w3 hd => hP _ _ ((hw'.trans w3).mono (by omega)) hd⟩
  · intro ys μ3 w3 hlen hys
    simp at hlen
    refine new_l (line_le (by omega)) ?_
    have w13 := (w1.trans w2).trans w3
    have w13' : Wl n (b + 30) μ μ3 := w13.mono (by simp; omega)
    simp only [r_tupleL]
    rw [wS1]
    refine iff_val (decide (way < 2) || !(ys.map fun x => !isZ x).any id) (fun P hP => ?_) ?_
    · simp only [wT, wE, wEs, wCmp, opCmp, wI]
      simp [srcOf]
      split
      · rename_i h
        simpa [h] using hP
      · rename_i h
        simp only [ofE]
        simp
        refine lc_pure (Γ := T k) (fun n h => by cases h) (line_le (by simp; omega)) (fun x => .bl (!isZ x)) ?_ ?_
        · intro i x hx
          obtain ⟨p, q, rfl, _⟩ := hys x (List.mem_of_getElem? hx)
          refine ⟨_, rfl, fun P hP => ?_⟩
          simp [wipeD]
          rw [show D.tup [.int 0, .int 1] = fr 0 1 from rfl, eq_fr]
          exact hP
        · refine new_l (line_le (by simp; omega)) ?_
          simp only [r_asL, Option.bind_some, blsD_map, r_truB]
          have e : (decide (way < 2) || !(ys.map fun x => !isZ x).any id) = !(ys.map fun x => !isZ x).any id := by
            rw [decide_eq_false (by omega), Bool.false_or]
          rw [e] at hP
          exact hP
    cases hc : (decide (way < 2) || !(ys.map fun x => !isZ x).any id) with
    | true =>
      rw [if_pos rfl]
      rw [wS1]; simp [wS, wE, wEs, wT, wI, wO, wF, ofE, wCmp, opCmp, setsD]
      refine ⟨line_le (by decide), new_l (line_le (by simp)) ?_⟩
      have : way % 2 = 0 ∨ way % 2 = 1 := by omega
      rcases this with e | e
      · simp only [e]
        exact rt_here (hq _ _ _ w13' (.inl ⟨"all", rfl, .inl rfl, rfl⟩))
      · simp only [e]
        exact rt_here (hq _ _ _ w13' (.inl ⟨"none", rfl, .inr rfl, rfl⟩))
    | false =>
      rw [if_neg Bool.false_ne_true, wS0]
      dsimp only
      rw [wS1]
      simp only [wS, wE, wEs, wI]
      simp [srcOf]
      refine lc_pure (Γ := T k) (fun n h => by cases h) (line_le (by simp; omega)) (fun x => fr 0 1) ?_ ?_
      · intro i x hx
        exact ⟨_, rfl, fun P hP => hP⟩
      · refine new_l (line_le (by simp; omega)) ?_
        have hz : ∀ x ∈ ys.map (fun x => fr 0 1), FrN 100 x := fun x hx => by
          obtain ⟨_, _, rfl⟩ := List.mem_map.mp hx
          exact ⟨0, 1, rfl, by decide, by decide, by decide⟩
        obtain ⟨t1, h1⟩ := frs_of (by omega) hys
        obtain ⟨t2, h2⟩ := frs_of (by simp; omega) hz
        simp only [r_tupleL]
        rw [wS1]
        simp only [wS, wT, wE, wEs, wCmp, opCmp]
        simp
        split
        · exact ⟨line_le (by decide), rt_here (hq _ _ _ w13' (.inr ⟨_, _, t1, t2, rfl, h1, by simpa using h2, rfl⟩))⟩
        · exact ⟨line_le (by decide), rt_here (hq _ _ _ w13' (.inr ⟨_, _, t2, t1, rfl, by simpa using h2, h1, rfl⟩))⟩
end
end K68

set_option Elab.async false
set_option linter.all false
set_option maxRecDepth 100000
namespace K68
open PySem L2 Rf
section
variable {k : Nat} {μ : M} {Q : WQ}
/-! the last cell but one -/
theorem f_at {c e : CO} : (μ ++ [c] ++ [e])[μ.length]? = some c := by simp
theorem f_app {xs : List D} {e : CO} {d : D} : opMth .append (.cel μ.length) [d] (μ ++ [.lst xs] ++ [e]) Q = (xs.length < sizeLine ∧ Q .non (μ ++ [.lst (xs ++ [d])] ++ [e])) := by
  simp only [opMth, f_at] <;> simp
theorem f_mok {xs : List D} {e : CO} : mOkM .append (μ ++ [.lst xs] ++ [e]) (.cel μ.length) = true := by simp [mOkM, mOk]
theorem f_asR {xs : List D} {e : CO} : asR (μ ++ [.lst xs] ++ [e]) (.cel μ.length) = some xs := by simp [asR, asL]
theorem e_app1 {xs : List D} {e : CO} {d : D} : opMth .append (.cel (μ.length + 1)) [d] (μ ++ [e] ++ [.lst xs]) Q = (xs.length < sizeLine ∧ Q .non (μ ++ [e] ++ [.lst (xs ++ [d])])) := by
  have h := e_app (μ := μ ++ [e]) (xs := xs) (d := d) (Q := Q)
  rw [List.length_append] at h
  exact h
theorem e_mok1 {xs : List D} {e : CO} : mOkM .append (μ ++ [e] ++ [.lst xs]) (.cel (μ.length + 1)) = true := by
  have h := e_mok (μ := μ ++ [e]) (xs := xs)
  rw [List.length_append] at h
  exact h
theorem e_asR1 {xs : List D} {e : CO} : asR (μ ++ [e] ++ [.lst xs]) (.cel (μ.length + 1)) = some xs := by
  have h := e_asR (μ := μ ++ [e]) (xs := xs)
  rw [List.length_append] at h
  exact h
theorem lc_row {Γ : Tab} {tg : CT} {elt : WE} {own : List Nat} {ρ : Rho} {n b cnt : Nat} (hw : WellOk n b μ) (hc : cnt ≤ 20)
    (h : ∀ (i : Nat) μ', i < cnt → Wl n (b + i) μ μ' → ∃ ρ2, bindT μ' tg (.int (0 + (i : Int))) (wipeD ρ own) = some ρ2 ∧ ∀ P : WQ, (∀ r μ2, Wl n (b + i + 1) μ μ2 → SmI r → P (.int r) μ2) → elt ρ2 μ' P)
    (hq : ∀ (zs : List Int) μ', Wl n (b + cnt) μ μ' → zs.length = cnt → (∀ z ∈ zs, SmI z) → Q (.tup (zs.map .int)) μ') : wLc tg (wF Γ .nil) elt own ⟨none, rangeD 0 cnt⟩ ρ μ fun d μ1 => opBlt .tuple [d] μ1 Q := by
  refine lc_gen (n := n) (b := b) (c := 1) (fun y => ∃ z : Int, y = .int z ∧ SmI z) hw rfl (by simp; omega) ?_ ?_
  · intro i x μ' hx hw'
    obtain ⟨hi, rfl⟩ := r_rangeD hx
    obtain ⟨ρ2, h1, h2⟩ := h i μ' hi (hw'.mono (by omega))
    exact ⟨ρ2, h1, fun P hP => h2 P fun r μ2 w2 hr => hP _ _ (w2.mono (by omega)) ⟨r, rfl, hr⟩⟩
  · intro ys μ' w' hlen hys
    obtain ⟨zs, rfl, hzs⟩ := ints_of hys
    simp at hlen w'
    refine new_l (line_le (by simp; omega)) ?_
    simp only [r_tupleL]
    exact hq zs μ' w' hlen hzs
theorem b39 {n b : Nat} (hk : 1 ≤ k) (hw : WellOk n b μ) (hb : b ≤ 700000000) (hq : ∀ d t μ', Wl n (b + 300) μ μ' → R_mach d t → Q d μ') : wDef (T k) 11 ir__law_machine [.cel n] μ Q := by
  have hn := hw.lt
  simp only [wDef, ir__law_machine, startD]
  rw [wS1]; simp [wS, wE, wEs, wT, wI, wO, wF, ofE, wCmp, opCmp, setsD]
  refine dr hk hw (by unfold BIG; omega) (by decide) (by decide) fun j μ1 w1 j0 j1 => ?_
  refine dr hk w1.ok (by unfold BIG; omega) (by decide) (by decide) fun hs μ2 w2 h0 h1 => ?_
  refine dr hk w2.ok (by unfold BIG; omega) (by decide) (by decide) fun tl μ3 w3 t0 t1 => ?_
  try simp
  refine ⟨line_le (by decide), ?_⟩
  have hz : ∃ z : Int, atI ([D.int 1, D.int 2, D.int 4, D.int 8]) j = some (.int z) ∧ 0 < z ∧ z < 10 := by
    have : j = 0 ∨ j = 1 ∨ j = 2 ∨ j = 3 := by omega
    rcases this with rfl | rfl | rfl | rfl <;> simp
  obtain ⟨z, hz, z0, z1⟩ := hz
  rw [wS1]; simp [wS, wE, wEs, wT, wI, wO, wF, ofE, wCmp, opCmp, setsD]
  refine new_l (line_le (by simp)) ?_
  simp only [r_idxL, r_ixL, hz]
  refine new_c (line_le (by simp)) (new_c (line_le (by simp)) ?_)
  have w13 := (w1.trans w2).trans w3
  obtain ⟨zn, rfl⟩ : ∃ zn : Nat, z = zn := ⟨z.toNat, by omega⟩
  obtain ⟨H, hH⟩ : ∃ H : Nat, 1 + hs = H := ⟨(1 + hs).toNat, by omega⟩
  obtain ⟨G, hG⟩ : ∃ G : Nat, 1 + tl = G := ⟨(1 + tl).toNat, by omega⟩
  simp only [hH, hG]
  have hcl : (μ3 ++ [CO.lst []]).length = μ3.length + 1 := by simp
  rw [hcl]
  have hn3 := w3.ok.lt
  rw [wS1]
  simp only [wS, wI, wE, r_getV0, r_getVs]
  refine ⟨⟨by omega, by omega⟩, fun i ρ μ' => ∃ (ν : M) (A : List D), μ' = ν ++ [.lst A] ++ [.lst []] ∧ ν.length = μ3.length ∧ Wl n (b + 3 + 10 * i) μ3 ν ∧ A.length = i ∧ (∀ p ∈ A, ∃ t, R_ints " " p t) ∧
    ∃ o7 o8 o9 o10, ρ = [some (.cel n), some (.int j), some (.int H), some (.int G), some (.int zn), some (.cel μ3.length), some (.cel (μ3.length + 1)), o7, o8, o9, o10], ⟨μ3, [], rfl, rfl, by simpa using Wl.refl w3.ok, rfl, by simp, _, _, _, _, rfl⟩, fun _ _ _ _ _ _ h => (by cases h), ?_, ?_⟩
  · rintro i x ρ μ' hx ⟨ν, A, rfl, el, wv, hl, hA, o7, o8, o9, o10, rfl⟩
    obtain ⟨hi, rfl⟩ := r_rangeD hx
    have hi : i < H := by simpa using hi
    refine ⟨_, rfl, ?_⟩
    rw [wS1]
    simp only [wS, wE, wEs, wI, List.set, r_getV0, r_getVs]
    rw [← el]
    refine ⟨f_mok, ⟨by omega, by omega⟩, ?_⟩
    refine lc_row (Γ := T k) (cnt := zn) ((wv.ok.app _).app _) (by omega) ?_ ?_
    · intro i' μ' hi' hw'
      refine ⟨_, rfl, fun P hP => ?_⟩
      simp [wE, wEs, wipeD]
      refine dr hk hw'.ok (by unfold BIG; omega) (by omega) (by omega) fun r μ5 w5 r0 r1 => hP _ _ ((hw'.trans w5).mono (by omega)) (by unfold SmI; omega)
    · intro zs μ' w' hzl hzs
      rw [List.append_assoc] at w'
      obtain ⟨ν2, rfl, w2', el2⟩ := w'.app (by omega)
      rw [← List.append_assoc, ← el2, f_app]
      refine ⟨line_lt (by omega), ν2, A ++ [.tup (zs.map .int)], rfl, by omega, (wv.trans w2').mono (by omega), by simp [hl], ?_, _, _, _, _, by rw [el2, el]⟩
      intro p hp
      rcases List.mem_append.mp hp with hp | hp
      · exact hA p hp
      · simp at hp
        subst hp
        exact ⟨_, zs, rfl, by omega, hzs, rfl⟩
  · rintro ρ μ' ⟨ν, A, rfl, el, wv, hl, hA, o7, o8, o9, o10, rfl⟩
    have hl : A.length = H := by simpa using hl
    have wv : Wl n (b + 3 + 10 * H) μ3 ν := by simpa using wv
    rw [wS1]
    simp only [wS, wI, wE, r_getV0, r_getVs]
    have hnv : n < ν.length := wv.ok.lt
    refine ⟨⟨by omega, by omega⟩, fun i ρ μ' => ∃ (ξ : M) (B : List D), μ' = ξ ++ [.lst A] ++ [.lst B] ∧ ξ.length = μ3.length ∧ Wl n (b + 3 + 120 + 10 * i) μ3 ξ ∧ B.length = i ∧ (∀ p ∈ B, ∃ t, R_ints " " p t) ∧
      ∃ o7 o8 o9 o10, ρ = [some (.cel n), some (.int j), some (.int H), some (.int G), some (.int zn), some (.cel μ3.length), some (.cel (μ3.length + 1)), o7, o8, o9, o10], ⟨ν, [], rfl, el, wv.mono (by omega), rfl, by simp, _, _, _, _, rfl⟩, fun _ _ _ _ _ _ h => (by cases h), ?_, ?_⟩
    · rintro i x ρ μ' hx ⟨ξ, B, rfl, elx, wx, hlb, hB, o7, o8, o9, o10, rfl⟩
      obtain ⟨hi, rfl⟩ := r_rangeD hx
      have hi : i < G := by simpa using hi
      refine ⟨_, rfl, ?_⟩
      rw [wS1]
      simp only [wS, wE, wEs, wI, List.set, r_getV0, r_getVs]
      rw [← elx]
      refine ⟨e_mok1, ⟨by omega, by omega⟩, ?_⟩
      refine lc_row (Γ := T k) (cnt := zn) ((wx.ok.app _).app _) (by omega) ?_ ?_
      · intro i' μ' hi' hw'
        refine ⟨_, rfl, fun P hP => ?_⟩
        simp [wE, wEs, wipeD]
        refine dr hk hw'.ok (by unfold BIG; omega) (by omega) (by omega) fun r μ5 w5 r0 r1 => ?_
        simp
        exact hP _ _ ((hw'.trans w5).mono (by omega)) (by unfold SmI; omega)
      · intro zs μ' w' hzl hzs
        rw [List.append_assoc] at w'
        obtain ⟨ν2, rfl, w2', el2⟩ := w'.app (by omega)
        rw [← List.append_assoc, ← el2, e_app1]
        refine ⟨line_lt (by omega), ν2, B ++ [.tup (zs.map .int)], rfl, by omega, (wx.trans w2').mono (by omega), by simp [hlb], ?_, _, _, _, _, by rw [el2, elx]⟩
        intro p hp
        rcases List.mem_append.mp hp with hp | hp
        · exact hB p hp
        · simp at hp
          subst hp
          exact ⟨_, zs, rfl, by omega, hzs, rfl⟩
    · rintro ρ μ' ⟨ξ, B, rfl, elx, wx, hlb, hB, o7, o8, o9, o10, rfl⟩
      have hlb : B.length = G := by simpa using hlb
      have wx : Wl n (b + 3 + 120 + 10 * G) μ3 ξ := by simpa using wx
      rw [wS1]
      simp only [wS, wI, wE, wEs, r_getV0, r_getVs]
      refine ⟨⟨by omega, by omega⟩, ?_⟩
      refine lc_row (Γ := T k) (cnt := H) ((wx.ok.app _).app _) (by omega) ?_ ?_
      · intro i' μ' hi' hw'
        refine ⟨_, rfl, fun P hP => ?_⟩
        simp [wE, wEs, wipeD]
        exact dr hk hw'.ok (by unfold BIG; omega) (by omega) (by omega) fun r μ5 w5 r0 r1 => hP _ _ ((hw'.trans w5).mono (by omega)) (by unfold SmI; omega)
      intro dr1 ν3 v3 hdl hds
      rw [List.append_assoc] at v3
      obtain ⟨ξ2, rfl, x2, ex2⟩ := v3.app (by have := wx.ok.lt; omega)
      simp only [List.set]
      rw [wS1]
      simp only [wS, wI, wE, wEs, r_getV0, r_getVs]
      refine ⟨⟨by omega, by omega⟩, ?_⟩
      refine lc_row (Γ := T k) (cnt := G) (x2.ok.app _) (by omega) ?_ ?_
      · intro i' μ' hi' hw'
        refine ⟨_, rfl, fun P hP => ?_⟩
        simp [wE, wEs, wipeD]
        exact dr hk hw'.ok (by unfold BIG; omega) (by omega) (by omega) fun r μ5 w5 r0 r1 => hP _ _ ((hw'.trans w5).mono (by omega)) (by unfold SmI; omega)
      intro en1 ν4 v4 hel hes
      obtain ⟨ξ3, rfl, x3, ex3⟩ := v4.app (by have := x2.ok.lt; omega)
      simp only [List.set]
      rw [wS1]
      simp only [wS, wI, wE, wEs, r_getV0, r_getVs]
      refine ⟨⟨by omega, by omega⟩, ?_⟩
      refine lc_row (Γ := T k) (cnt := zn) (x3.ok.app _) (by omega) ?_ ?_
      · intro i' μ' hi' hw'
        refine ⟨_, rfl, fun P hP => ?_⟩
        simp [wE, wEs, wipeD]
        exact dr hk hw'.ok (by unfold BIG; omega) (by omega) (by omega) fun r μ5 w5 r0 r1 => hP _ _ ((hw'.trans w5).mono (by omega)) (by unfold SmI; omega)
      intro sg ν5 v5 hsl hss
      obtain ⟨ξ4, rfl, x4, ex4⟩ := v5.app (by have := x3.ok.lt; omega)
      rw [← List.append_assoc]
      have e5 : μ3.length = ξ4.length := by omega
      rw [e5]
      show (match asR (ξ4 ++ [CO.lst A] ++ [CO.lst B]) (.cel ξ4.length) with | some xs => _ | none => False)
      rw [f_asR]
      show (match asR (ξ4 ++ [CO.lst A] ++ [CO.lst B]) (.cel (ξ4.length + 1)) with | some xs => _ | none => False)
      rw [e_asR1]
      refine ⟨line_le (by simp), ?_⟩
      have wall := ((((w13.trans wx).trans x2).trans x3).trans x4).mono (c := b + 300) (by omega)
      obtain ⟨ts1, a1⟩ := all2_of hA
      obtain ⟨ts2, a2⟩ := all2_of hB
      rw [List.append_assoc]
      refine rt_gen (.inr ⟨_, hw⟩) wall ?_ (hq _ _ _ wall ⟨j, .tup (sg.map .int), A, dr1, B, en1, _, ts1, ts2, rfl, by unfold SmI; omega, ⟨sg, rfl, by omega, hss, rfl⟩, a1, a2, by omega, by omega, by omega, by omega, hds, hes, rfl⟩)
      have pa : ∀ {C : List D}, (∀ p ∈ C, ∃ t, R_ints " " p t) → purAll C = true := fun {C} h => purAll_of fun x hx => by
        obtain ⟨_, zs, rfl, _⟩ := h x hx
        show purAll _ = true
        exact pur_ints
      simp [pur, purAll, pur_ints, pa hA, pa hB]
end
end K68

set_option Elab.async false
set_option linter.all false
set_option maxRecDepth 100000
namespace K68
open PySem L2 Rf
section
variable {k : Nat} {μ : M} {Q : WQ}
theorem spans_of {xs : List D} (hl : xs.length ≤ 10) (h : ∀ x ∈ xs, ∃ t, R_span x t) : ∃ t, R_spans (.tup xs) t := by
  obtain ⟨ts, hts⟩ := all2_of h
  exact ⟨_, xs, ts, rfl, hl, hts, rfl⟩
theorem span_mk {x y : D} {l h : Int} (hx : FrN 125 x) (hy : FrN 125 y) (hl : l = 0 ∨ l = 1) (hh : h = 0 ∨ h = 1) : ∃ t, R_span (.tup [x, y, .int l, .int h]) t := by
  obtain ⟨f, hf⟩ := hx.R (by decide)
  obtain ⟨g, hg⟩ := hy.R (by decide)
  exact ⟨_, x, y, f, g, l, h, rfl, hx, hy, hf, hg, hl, hh, rfl⟩
theorem r_sorted {zs : List Int} : opBlt .sorted [.lst (zs.map .int)] μ Q = newL ((sortI zs).map .int) μ Q := by
  show (match (asR μ (.lst (zs.map .int))).bind intsD with | some ns => newL ((sortI ns).map .int) μ Q | none => False) = _
  simp only [r_asRl, Option.bind_some, intsD_map]
theorem e_idx1 {xs : List D} {e : CO} {i : Int} : opIdx (.cel (μ.length + 1)) (.int i) (μ ++ [e] ++ [.lst xs]) Q = (match atI xs i with | some d => Q d (μ ++ [e] ++ [.lst xs]) | none => False) := by
  have h := e_idx' (μ := μ ++ [e]) (xs := xs) (i := i) (Q := Q)
  rw [List.length_append] at h
  exact h
theorem f_idx {xs : List D} {e : CO} {i : Int} : opIdx (.cel μ.length) (.int i) (μ ++ [.lst xs] ++ [e]) Q = (match atI xs i with | some d => Q d (μ ++ [.lst xs] ++ [e]) | none => False) := by
  simp only [opIdx, f_at] <;> (cases atI xs i <;> rfl)
theorem f_len {xs : List D} {e : CO} : lenD (μ ++ [.lst xs] ++ [e]) (.cel μ.length) = some xs.length := by simp [lenD]
theorem at_last {xs : List D} {x : D} : atI (xs ++ [x]) (-1) = some x := by
  unfold atI ixN
  rw [if_neg (by decide), if_pos (by simp; omega)]
  have : (-1 + (((xs ++ [x]).length : Nat) : Int)).toNat = xs.length := by simp; omega
  simp only [Option.bind_some, this]
  simp
theorem span_p {x : D} (h : ∃ t, R_span x t) : ∃ p, toP x = some p ∧ p.canLay0 = true ∧ p.depth ≤ 3 := by
  obtain ⟨t, x, y, f, g, l, h', rfl, ⟨a, b, rfl, _⟩, ⟨c, d, rfl, _⟩, _⟩ := h
  refine ⟨.tuple [.tuple [.int a, .int b], .tuple [.int c, .int d], .int l, .int h'], rfl, by simp [PyData.canLay0, PyData.canLayAll0], by simp [PyData.depth, PyData.depthAll]⟩
theorem spans_p : ∀ {xs : List D}, (∀ x ∈ xs, ∃ t, R_span x t) → ∃ ps, toPs xs = some ps ∧ PyData.canLayAll0 ps = true ∧ PyData.depthAll ps ≤ 3 ∧ ps.length = xs.length
  | [], _ => ⟨[], rfl, by simp [PyData.canLayAll0], by simp [PyData.depthAll], rfl⟩
  | x :: xs, h => by
    obtain ⟨p, e1, e2, e3⟩ := span_p (h x (by simp))
    obtain ⟨ps, f1, f2, f3, f4⟩ := spans_p fun y hy => h y (List.mem_cons_of_mem _ hy)
    refine ⟨p :: ps, ?_, by simp [PyData.canLayAll0, e2, f2], by simp [PyData.depthAll]; omega, by simp [f4]⟩
    simp only [toPs, e1, f1]
theorem eq_none {xs : List D} {e : CO} (h : ∀ x ∈ xs, ∃ t, R_span x t) : eqD (μ ++ [e] ++ [.lst xs]) (.cel (μ.length + 1)) (.lst []) = some xs.isEmpty := by
  obtain ⟨ps, f1, f2, f3, f4⟩ := spans_p h
  have h1 : SeqAt.shaped (.list []) = true := by simp [SeqAt.shaped, PyData.canLay0, PyData.canLayAll0, PyData.depth, PyData.depthAll]
  have h2 : SeqAt.shaped (.list ps) = true := by
    simp [SeqAt.shaped, PyData.canLay0, PyData.depth, f2]; omega
  have ea : (μ ++ [e] ++ [CO.lst xs])[μ.length + 1]? = some (.lst xs) := by
    have := e_at (μ := μ ++ [e]) (c := CO.lst xs)
    rw [List.length_append] at this
    exact this
  simp only [eqD, eqP, toPm, ea, f1, Option.map_some, toP, toPs, h1, h2, Bool.and_self, if_true]
  cases xs with
  | nil => cases ps with
    | nil => simp [PyData.eqv, PyData.eqvAll]
    | cons _ _ => simp at f4
  | cons x xs => cases ps with
    | nil => simp at f4
    | cons _ _ => simp [PyData.eqv, PyData.eqvAll]
theorem b33 {n b : Nat} {low high : D} {many : Int} (hk : 2 ≤ k) (hw : WellOk n b μ) (hb : b ≤ 800000000) (hlo : FrN 34 low) (hhi : FrN 45 high) (m0 : 0 ≤ many) (m8 : many ≤ 8) (hq : ∀ d t μ', Wl n (b + 40) μ μ' → R_spans d t → Q d μ') : wDef (T k) 14 ir__law_span_list [.cel n, low, high, .int many] μ Q := by
  have hn := hw.lt
  have hst : startD 14 [.cel n, low, high, .int many] = [some (.cel n), some low, some high, some (.int many), none, none, none, none, none, none, none, none, none, none] := rfl
  simp only [wDef, ir__law_span_list]
  rw [hst, wS1]
  simp only [wS, wE, wEs, r_getV0, r_getVs]
  refine new_c (line_le (by simp)) (new_c (line_le (by simp)) ?_)
  have hcl : (μ ++ [CO.lst []]).length = μ.length + 1 := by simp
  rw [hcl]
  refine tc hk (by decide) ⟨_, _, 45, 34, rfl, hhi, hlo, by decide, fun st hst => ?_⟩
  simp only [List.set]
  rw [wS1]
  simp only [wS, wE, wEs, wI, opBin, r_getV0, r_getVs, r_addI]
  refine dr (by omega) ((hw.app _).app _) (by unfold BIG; omega) (by omega) (by omega) fun mm ν1 v1 q0 q1 => ?_
  rw [List.append_assoc] at v1
  obtain ⟨μ1, rfl, w1, el1⟩ := v1.app hn
  simp only [r_opI]
  refine ⟨.inl (.inl ⟨by decide, by decide⟩), ⟨by omega, by omega⟩, ?_⟩
  obtain ⟨M2, hM2⟩ : ∃ M2 : Nat, 2 * mm = M2 := ⟨(2 * mm).toNat, by omega⟩
  rw [hM2]
  refine lc_gen (Γ := T k) (n := n) (b := b + 1) (c := 1) (fun y => ∃ z : Int, y = .int z ∧ (0 ≤ z ∧ z < 61)) (w1.ok.app _) rfl (by simp; omega) ?_ ?_
  · intro i x μ' hx hw'
    have hi := (List.getElem?_eq_some_iff.mp hx).1
    simp at hi
    refine ⟨_, rfl, fun P hP => ?_⟩
    simp [wipeD]
    exact dr (by omega) hw'.ok (by unfold BIG; omega) (by decide) (by decide) fun r μ5 w5 r0 r1 => hP _ _ ((hw'.trans w5).mono (by omega)) ⟨r, rfl, r0, r1⟩
  intro ys ν2 v2 hlen hys
  simp at hlen v2
  obtain ⟨zs, rfl, hzs⟩ : ∃ zs : List Int, ys = zs.map .int ∧ ∀ z ∈ zs, 0 ≤ z ∧ z < 61 := by
    clear hlen
    induction ys with
    | nil => exact ⟨[], rfl, by simp⟩
    | cons y ys ih =>
      obtain ⟨z, rfl, hz⟩ := hys y (by simp)
      obtain ⟨zs, rfl, h⟩ := ih fun x hx => hys x (List.mem_cons_of_mem _ hx)
      exact ⟨z :: zs, rfl, fun x hx => by
        rcases List.mem_cons.mp hx with rfl | hx
        · exact hz
        · exact h x hx⟩
  simp at hlen
  obtain ⟨μ2, rfl, w2, el2⟩ := v2.app (by have := w1.ok.lt; omega)
  refine new_l (line_le (by simp; omega)) ?_
  rw [r_sorted]
  have hp : (sortI zs).Perm zs := List.mergeSort_perm _ _
  refine new_l (line_le (by simp [hp.length_eq]; omega)) ?_
  rw [wS1]
  simp only [wS, wI, wE, List.set, r_getV0, r_getVs, srcOf, asSq, asR, asL, Option.map_some]
  have hzl : ((sortI zs).map D.int).length = M2 := by rw [List.length_map, hp.length_eq, hlen]
  have w02 : Wl n (b + 17) μ μ2 := (w1.trans w2).mono (by omega)
  refine ⟨fun i ρ μ' => ∃ (E : List D), μ' = μ2 ++ [.lst E] ++ [.lst []] ∧ E.length = i ∧ (∀ e ∈ E, FrN 125 e) ∧
    ∃ o8 o9 o10 o11 o12 o13, ρ = [some (.cel n), some low, some high, some (.int many), some (.cel μ.length), some (.cel (μ.length + 1)), some st, some (.lst ((sortI zs).map .int)), o8, o9, o10, o11, o12, o13], ⟨[], by simp, rfl, by simp, _, _, _, _, _, _, rfl⟩, fun _ _ _ _ _ _ h => (by cases h), ?_, ?_⟩
  · rintro i x ρ μ' hx ⟨E, rfl, hl, hE, o8, o9, o10, o11, o12, o13, rfl⟩
    obtain ⟨z, hz, rfl⟩ := List.mem_map.mp (List.mem_of_getElem? hx)
    have hz := hzs z (hp.mem_iff.mp hz)
    have hi := (List.getElem?_eq_some_iff.mp hx).1
    refine ⟨_, rfl, ?_⟩
    rw [wS1]
    simp only [wS, wE, wEs, List.set, r_getV0, r_getVs]
    rw [show μ.length = μ2.length by omega]
    refine ⟨f_mok, ⟨line_le (by simp), ?_⟩⟩
    refine tc hk (by decide) ⟨_, _, 80, 6, rfl, hst, ⟨z, 61, rfl, by decide, by decide, by omega⟩, by decide, fun t ht => ?_⟩
    refine tc hk (by decide) ⟨_, _, 34, 86, rfl, hlo, ht, by decide, fun e he => ?_⟩
    try dsimp only
    rw [f_app]
    refine ⟨line_lt (by omega), E ++ [e], rfl, by simp [hl], ?_, _, _, _, _, _, _, rfl⟩
    intro y hy
    rcases List.mem_append.mp hy with hy | hy
    · exact hE y hy
    · simp at hy
      subst hy
      exact he.mono (by decide)
  · rintro ρ μ' ⟨E, rfl, hl, hE, o8, o9, o10, o11, o12, o13, rfl⟩
    have hl : E.length = M2 := hl.trans hzl
    rw [wS1]
    simp only [wS, wI, wE, wEs, opBin, r_getV0, r_getVs, r_len]
    rw [show μ.length = μ2.length by omega, f_len]
    simp only [r_opI]
    refine ⟨dv (n := 2) (by decide) (by decide) (by decide), ⟨by omega, by omega⟩, fun i ρ μ' => ∃ (ξ : M) (F : List D), μ' = ξ ++ [.lst E] ++ [.lst F] ∧ ξ.length = μ2.length ∧ Wl n (b + 17 + 2 * i) μ ξ ∧ F.length ≤ i ∧ (∀ x ∈ F, ∃ t, R_span x t) ∧
      ∃ o8 o9 o10 o11 o12 o13, ρ = [some (.cel n), some low, some high, some (.int many), some (.cel μ2.length), some (.cel (μ2.length + 1)), some st, some (.lst ((sortI zs).map .int)), o8, o9, o10, o11, o12, o13], ⟨μ2, [], rfl, rfl, w02, by simp, by simp, _, _, _, _, _, _, rfl⟩, fun _ _ _ _ _ _ h => (by cases h), ?_, ?_⟩
    · rintro i x ρ μ' hx ⟨ξ, F, rfl, elx, wx, hlf, hF, o8, o9, o10, o11, o12, o13, rfl⟩
      obtain ⟨hi, rfl⟩ := r_rangeD hx
      have hi2 : 2 * i + 1 < E.length := by omega
      refine ⟨_, rfl, ?_⟩
      rw [← elx, wS1]
      simp only [wS, wE, opBin, List.set, r_getV0, r_getVs, r_opI]
      refine ⟨.inl (.inl ⟨by decide, by decide⟩), ?_⟩
      rw [f_idx, show (2 : Int) * (0 + (i : Int)) = ((2 * i : Nat) : Int) by omega, at_nat (by omega : 2 * i < E.length)]
      refine ⟨.inl (.inl ⟨by decide, by decide⟩), ?_⟩
      rw [r_addI, show (((2 * i : Nat) : Int)) + 1 = ((2 * i + 1 : Nat) : Int) by omega, f_idx, at_nat hi2]
      have e1 := hE _ (List.getElem_mem (by omega : 2 * i < E.length))
      have e2 := hE _ (List.getElem_mem hi2)
      generalize E[2 * i]'(by omega) = p at e1 ⊢
      generalize E[2 * i + 1] = q at e2 ⊢
      simp only [List.set]
      rw [wS1]
      have hnx := wx.ok.lt
      refine set_post (fun d μ' => ∃ (l h : Int) (ζ : M), d = .lst [.int l, .int h] ∧ (l = 0 ∨ l = 1) ∧ (h = 0 ∨ h = 1) ∧ Wl n (b + 17 + 2 * (i + 1)) μ ζ ∧ ζ.length = ξ.length ∧ μ' = ζ ++ [.lst E] ++ [.lst F]) (fun P hP => ?_) ?_
      · simp only [wE, wEs, wT, wCmp, opCmp, r_getV0, r_getVs]
        obtain ⟨p1, p2, rfl, _⟩ := id e1
        obtain ⟨q1, q2, rfl, _⟩ := id e2
        rw [eq_fr]
        try dsimp only
        split
        · exact new_l (line_le (by simp)) (hP _ _ ⟨1, 1, ξ, rfl, .inr rfl, .inr rfl, wx.mono (by omega), rfl, rfl⟩)
        · refine dr (by omega) ((wx.ok.app _).app _) (by unfold BIG; omega) (by decide) (by decide) fun l ν1 v1 l0 l1 => ?_
          rw [List.append_assoc] at v1
          obtain ⟨ζ1, rfl, z1, ez1⟩ := v1.app hnx
          refine dr (by omega) (z1.ok.app _) (by unfold BIG; omega) (by decide) (by decide) fun h ν2 v2 h0 h1 => ?_
          obtain ⟨ζ2, rfl, z2, ez2⟩ := v2.app (by omega)
          refine new_l (line_le (by simp)) (hP _ _ ⟨l, h, ζ2, rfl, by omega, by omega, ((wx.trans z1).trans z2).mono (by omega), by omega, by rw [List.append_assoc]⟩)
      · rintro d μ' ⟨l, h, ζ, rfl, hl0, hh0, wz, elz, rfl⟩
        simp only [List.set]
        rw [← elz, wS1]
        have sp := span_mk e1 e2 hl0 hh0
        refine iff_any (fun P hP => ?_) ?_ ?_
        · simp only [wT, wE, wEs, wCmp, opCmp, r_getV0, r_getVs]
          refine new_l (line_le (by simp)) ?_
          try dsimp only
          rw [eq_none hF]
          try dsimp only
          split
          · exact hP _
          · rename_i hne
            have hne : F ≠ [] := by
              intro h
              subst h
              exact hne rfl
            obtain ⟨F', x, rfl⟩ : ∃ F' x, F = F' ++ [x] := ⟨F.dropLast, F.getLast hne, (List.dropLast_concat_getLast hne).symm⟩
            obtain ⟨t, u, v, f, g, l', h', rfl, hu, hv, _⟩ := hF x (by simp)
            simp only [ofE, r_getV0, r_getVs]
            rw [e_idx1, at_last]
            try dsimp only
            rw [r_idxT, r_ixT, r_at1]
            exact tc (m := 1) (by omega) (by decide) ⟨_, _, rfl, hv.mono (by decide), e1.mono (by decide), fun bb => hP bb⟩
        · rw [wS1]
          simp only [wS, wE, wEs, r_getV0, r_getVs, r_idxL, r_ixL, r_at0, r_at1]
          refine ⟨e_mok1, line_le (by simp), ?_⟩
          rw [e_app1]
          refine ⟨line_lt (by omega), ζ, F ++ [_], rfl, by omega, wz, by simp; omega, ?_, _, _, _, _, _, _, rfl⟩
          intro y hy
          rcases List.mem_append.mp hy with hy | hy
          · exact hF y hy
          · simp at hy
            subst hy
            exact sp
        · rw [wS0]
          exact ⟨ζ, F, rfl, by omega, wz, by omega, hF, _, _, _, _, _, _, rfl⟩
    · rintro ρ μ' ⟨ξ, F, rfl, elx, wx, hlf, hF, o8, o9, o10, o11, o12, o13, rfl⟩
      have hlf : F.length ≤ 8 := by
        have : F.length ≤ (rangeD 0 ((M2 : Int) / 2).toNat).length := by simpa [hl] using hlf
        simp at this
        omega
      have wx : Wl n (b + 40) μ ξ := wx.mono (by simp [hl]; omega)
      rw [wS1]
      simp only [wS, wE, wEs, r_getV0, r_getVs]
      rw [← elx]
      show (match asR (ξ ++ [CO.lst E] ++ [CO.lst F]) (.cel (ξ.length + 1)) with | some xs => _ | none => False)
      rw [e_asR1]
      obtain ⟨t, ht⟩ := spans_of (by omega) hF
      rw [List.append_assoc]
      refine rt_gen (.inr ⟨_, hw⟩) wx (purAll_of fun x hx => ?_) (hq _ _ _ wx ht)
      obtain ⟨t, x, y, f, g, l, h', rfl, ⟨a, b, rfl, _⟩, ⟨c, d, rfl, _⟩, _⟩ := hF x hx
      rfl
end
end K68

set_option Elab.async false
set_option linter.all false
set_option maxRecDepth 100000
namespace K68
open PySem L2 Rf
section
variable {k : Nat} {μ : M} {Q : WQ}
theorem eq_noneL {xs : List D} (h : ∀ x ∈ xs, ∃ t, R_span x t) : eqD μ (.lst xs) (.lst []) = some xs.isEmpty := by
  obtain ⟨ps, f1, f2, f3, f4⟩ := spans_p h
  have h1 : SeqAt.shaped (.list []) = true := by simp [SeqAt.shaped, PyData.canLay0, PyData.canLayAll0, PyData.depth, PyData.depthAll]
  have h2 : SeqAt.shaped (.list ps) = true := by
    simp [SeqAt.shaped, PyData.canLay0, PyData.depth, f2]; omega
  simp only [eqD, eqP, toPm, toP, f1, Option.map_some, toPs, h1, h2, Bool.and_self, if_true]
  cases xs with
  | nil => cases ps with
    | nil => simp [PyData.eqv, PyData.eqvAll]
    | cons _ _ => simp at f4
  | cons x xs => cases ps with
    | nil => simp at f4
    | cons _ _ => simp [PyData.eqv, PyData.eqvAll]
theorem band_mk {l m r : D} (h1 : ∃ f s, R_side l f s) (h2 : ∃ t, R_mid m t) (h3 : ∃ f s, R_side r f s) : ∃ t, R_band (.tup [l, m, r]) t := by
  obtain ⟨f1, s1, h1⟩ := h1
  obtain ⟨tm, h2⟩ := h2
  obtain ⟨f2, s2, h3⟩ := h3
  exact ⟨_, l, m, r, f1, s1, tm, f2, s2, rfl, h1, h2, h3, rfl⟩
theorem side_mk {x sp : D} {a : Nat} (hx : FrN a x) (ha : a ≤ 130) (hs : ∃ t, R_spans sp t) : ∃ f s, R_side (.tup [x, sp]) f s := by
  obtain ⟨f, hf⟩ := hx.R ha
  obtain ⟨s, hs⟩ := hs
  exact ⟨f, s, x, sp, rfl, hf, hs⟩
theorem mid_mk {x y sp : D} {a b : Nat} (hx : FrN a x) (ha : a ≤ 130) (hy : FrN b y) (hb : b ≤ 130) (hs : ∃ t, R_spans sp t) : ∃ t, R_mid (.tup [x, y, sp]) t := by
  obtain ⟨f, hf⟩ := hx.R ha
  obtain ⟨g, hg⟩ := hy.R hb
  obtain ⟨s, hs⟩ := hs
  exact ⟨_, .inr ⟨x, y, sp, f, g, s, rfl, hf, hg, hs, rfl⟩⟩
theorem side_every : ∃ f s, R_side (.tup [.tup [.int 1, .int 1], .tup [.tup [.tup [.int 0, .int 1], .tup [.int 1, .int 1], .int 1, .int 0]]]) f s := side_mk one1 (by decide) (spans1 zero1 one1 (.inr rfl) (.inl rfl))
theorem side_none : ∃ f s, R_side (.tup [.tup [.int 1, .int 1], .tup []]) f s := side_mk one1 (by decide) ⟨_, spans0⟩
def bandT : CSs :=
  (.cons (.set 18 (.lst .nil))
  (.cons (.for (.nm 7) (.r1 (.blt .len (.cons (.var 13) .nil)))
    (.cons (.set 19 (.idx (.var 13) (.var 7)))
    (.cons (.unp [20, 21] (.ife (.or (.and (.cmp .Eq (.var 7) (.cst (.int 0))) (.var 14)) (.cal 19 (.cons (.idx (.var 19) (.cst (.int 0))) (.cons (.var 16) .nil)))) (.tup (.cons (.var 16) (.cons (.cst (.int 1)) .nil))) (.tup (.cons (.idx (.var 19) (.cst (.int 0))) (.cons (.idx (.var 19) (.cst (.int 2))) .nil)))))
    (.cons (.unp [22, 23] (.ife (.or (.and (.cmp .Eq (.var 7) (.bin .Sub (.blt .len (.cons (.var 13) .nil)) (.cst (.int 1)))) (.var 15)) (.cal 19 (.cons (.var 17) (.cons (.idx (.var 19) (.cst (.int 1))) .nil)))) (.tup (.cons (.var 17) (.cons (.cst (.int 1)) .nil))) (.tup (.cons (.idx (.var 19) (.cst (.int 1))) (.cons (.idx (.var 19) (.cst (.int 3))) .nil)))))
    (.cons (.iff (.or (.cal 19 (.cons (.var 20) (.cons (.var 22) .nil))) (.and (.cmp .Eq (.var 20) (.var 22)) (.and (.cmp .Eq (.var 21) (.cst (.int 1))) (.cmp .Eq (.var 23) (.cst (.int 1))))))
      (.cons (.drop (.mth .append (.var 18) (.cons (.tup (.cons (.var 20) (.cons (.var 22) (.cons (.var 21) (.cons (.var 23) .nil))))) .nil)))
      .nil)
      .nil)
    .nil)))))
  (.cons (.ret (.tup (.cons (.ife (.var 14) (.var 3) (.var 4)) (.cons (.tup (.cons (.var 16) (.cons (.var 17) (.cons (.blt .tuple (.cons (.var 18) .nil)) .nil)))) (.cons (.ife (.var 15) (.var 3) (.var 4)) .nil)))))
  .nil)))
theorem span_parts {x : D} (h : ∃ t, R_span x t) : ∃ u v l h', x = .tup [u, v, .int l, .int h'] ∧ FrN 125 u ∧ FrN 125 v ∧ (l = 0 ∨ l = 1) ∧ (h' = 0 ∨ h' = 1) := by
  obtain ⟨t, x, y, f, g, l, h', rfl, h1, h2, _, _, h5, h6, _⟩ := h
  exact ⟨x, y, l, h', rfl, h1, h2, h5, h6⟩
theorem ife_any {Γ : Tab} {ρ : Rho} {c a b : CE} (h1 : ∀ P : Bool → M → Prop, (∀ v, P v μ) → wT Γ c ρ μ P) (ha : wE Γ a ρ μ Q) (hb : wE Γ b ρ μ Q) : wE Γ (.ife c a b) ρ μ Q := h1 _ fun v => by cases v <;> simp [ha, hb]
theorem unp2_post {Γ : Tab} {ρ : Rho} {i j : Nat} {e : CE} {E : DEnds} (R : D → D → Prop) (h1 : ∀ P : WQ, (∀ a c, R a c → P (.tup [a, c]) μ) → wE Γ e ρ μ P) (h2 : ∀ a c, R a c → E.nx ((ρ.set i (some a)).set j (some c)) μ) : wS Γ (.unp [i, j] e) E ρ μ :=
  h1 _ fun a c h => h2 a c h
def everyD : D := .tup [.tup [.int 1, .int 1], .tup [.tup [.tup [.int 0, .int 1], .tup [.int 1, .int 1], .int 1, .int 0]]]
def noneD : D := .tup [.tup [.int 1, .int 1], .tup []]
theorem b37t {n b : Nat} {μ8 : M} {xs : List D} {lb rb : Bool} {p q : D} {o1 o2 o5 o6 o7 o8 o9 o10 o11 o12 o18 o19 o20 o21 o22 o23 : Option D} (hk : 1 ≤ k) (hw : WellOk n b μ) (w68 : Wl n (b + 100) μ μ8) (hF : ∀ x ∈ xs, ∃ t, R_span x t) (hxl : xs.length ≤ 10) (hp : FrN 125 p) (hq2 : FrN 125 q)
    (fin : ∀ {l m r : D} {μ' : M}, Wl n (b + 100) μ μ' → (∃ f s, R_side l f s) → (∃ t, R_mid m t) → (∃ f s, R_side r f s) → Q (.tup [l, m, r]) μ') :
    wSs (T k) bandT { nx := fun x μ' => rtD μ Q D.non μ', rt := rtD μ Q } [some (.cel n), o1, o2, some everyD, some noneD, o5, o6, o7, o8, o9, o10, o11, o12, some (.lst xs), some (.bl lb), some (.bl rb), some p, some q, o18, o19, o20, o21, o22, o23] μ8 := by
  have less : ∀ {x y : D} {ν : M} {P : WQ}, FrN 125 x → FrN 125 y → (∀ v, P (.bl v) ν) → T k 19 [x, y] ν P := fun {x y ν P} h1 h2 h3 =>
    tc hk (by decide) ⟨x, y, rfl, h1.mono (by decide), h2.mono (by decide), h3⟩
  unfold bandT
  rw [wS1]
  simp only [wS, wE, wEs, List.set]
  refine new_c (line_le (by simp)) ?_
  rw [wS1]
  simp only [wS, wI, wE, wEs, r_getV0, r_getVs, r_len, r_lenL]
  refine ⟨⟨by omega, by omega⟩, fun i ρ μ' => ∃ W : List D, μ' = μ8 ++ [.lst W] ∧ W.length ≤ i ∧ (∀ x ∈ W, ∃ t, R_span x t) ∧ ∃ o7 o19 o20 o21 o22 o23, ρ = [some (.cel n), o1, o2, some everyD, some noneD, o5, o6, o7, o8, o9, o10, o11, o12, some (.lst xs), some (.bl lb), some (.bl rb), some p, some q, some (.cel μ8.length), o19, o20, o21, o22, o23], ⟨[], rfl, by simp, by simp, _, _, _, _, _, _, rfl⟩, fun _ _ _ _ _ _ h => (by cases h), ?_, ?_⟩
  · rintro i x ρ μ' hx ⟨W, rfl, hl, hW, o7, o19, o20, o21, o22, o23, rfl⟩
    obtain ⟨hi, rfl⟩ := r_rangeD hx
    have hi : i < xs.length := by simpa using hi
    refine ⟨_, rfl, ?_⟩
    simp only [List.set]
    rw [wS1]
    simp only [wS, wE, r_getV0, r_getVs]
    rw [r_idxL, r_ixL, show (0 : Int) + (i : Int) = ((i : Nat) : Int) by omega, at_nat hi]
    obtain ⟨u, v, l, h', ex, hu, hv, hl0, hh0⟩ := span_parts (hF _ (List.getElem_mem hi))
    rw [ex]
    simp only [List.set]
    rw [wS1]
    refine unp2_post (fun a c => FrN 125 a ∧ ∃ l : Int, c = .int l ∧ (l = 0 ∨ l = 1)) (fun P hP => ?_) ?_
    · refine ife_any (fun R hR => ?_) ?_ ?_
      · simp only [wT, wE, wEs, ofE, wCmp, opCmp, List.set, r_getV0, r_getVs, r_truB, q_ii, r_idxT, r_ixT, r_at0, r_at2]
        have C := less (ν := μ8 ++ [.lst W]) (P := fun d μ1 => match truD μ1 d with | some k => R k μ1 | none => False) hu hp hR
        split
        · split
          · exact hR _
          · exact C
        · rw [if_neg Bool.false_ne_true]
          exact C
      · simp only [wE, wEs, r_getV0, r_getVs]
        exact ⟨line_le (by simp), hP _ _ ⟨hp, 1, rfl, .inr rfl⟩⟩
      · simp only [wE, wEs, r_getV0, r_getVs, r_idxT, r_ixT, r_at0, r_at2]
        exact ⟨line_le (by simp), hP _ _ ⟨hu, l, rfl, hl0⟩⟩
    rintro a1 c1 ⟨ha1, l1, rfl, hl1⟩
    simp only [List.set]
    rw [wS1]
    refine unp2_post (fun a c => FrN 125 a ∧ ∃ l : Int, c = .int l ∧ (l = 0 ∨ l = 1)) (fun P hP => ?_) ?_
    · refine ife_any (fun R hR => ?_) ?_ ?_
      · simp only [wT, wE, wEs, ofE, wCmp, opCmp, List.set, r_getV0, r_getVs, r_truB, q_ii, r_len, r_lenL, r_sub, r_idxT, r_ixT, r_at0, r_at1]
        have C := less (ν := μ8 ++ [.lst W]) (P := fun d μ1 => match truD μ1 d with | some k => R k μ1 | none => False) hq2 hv hR
        split
        · split
          · exact hR _
          · exact C
        · rw [if_neg Bool.false_ne_true]
          exact C
      · simp only [wE, wEs, r_getV0, r_getVs]
        exact ⟨line_le (by simp), hP _ _ ⟨hq2, 1, rfl, .inr rfl⟩⟩
      · simp only [wE, wEs, r_getV0, r_getVs, r_idxT, r_ixT, r_at1, r_at3]
        exact ⟨line_le (by simp), hP _ _ ⟨hv, h', rfl, hh0⟩⟩
    rintro a2 c2 ⟨ha2, l2, rfl, hl2⟩
    simp only [List.set]
    rw [wS1]
    refine iff_any (fun P hP => ?_) ?_ ?_
    · simp only [wT, wE, wEs, ofE, wCmp, opCmp, r_getV0, r_getVs, q_ii]
      refine less ha1 ha2 fun vv => ?_
      simp only [r_truB]
      split
      · exact hP _
      · obtain ⟨p1, p2, rfl, _⟩ := id ha1
        obtain ⟨q1, q2, rfl, _⟩ := id ha2
        rw [eq_fr]
        try dsimp only
        split
        · split
          · exact hP _
          · exact hP _
        · exact hP _
    · rw [wS1]
      simp only [wS, wE, wEs, r_getV0, r_getVs]
      refine ⟨e_mok, line_le (by simp), ?_⟩
      rw [e_app]
      refine ⟨line_lt (by omega), W ++ [_], rfl, by simp; omega, ?_, _, _, _, _, _, _, rfl⟩
      intro y hy
      rcases List.mem_append.mp hy with hy | hy
      · exact hW y hy
      · simp at hy
        subst hy
        exact span_mk ha1 ha2 hl1 hl2
    · rw [wS0]
      exact ⟨W, rfl, by omega, hW, _, _, _, _, _, _, rfl⟩
  · rintro ρ μ' ⟨W, rfl, hl, hW, o7, o19, o20, o21, o22, o23, rfl⟩
    have hl : W.length ≤ 10 := by
      have : W.length ≤ xs.length := by simpa using hl
      omega
    rw [wS1]
    simp only [wS, wE, wT, ofE, wEs, r_getV0, r_getVs, r_truB]
    have hsp := spans_of hl hW
    have hm := mid_mk hp (by decide) hq2 (by decide) hsp
    have hpur : pur p = true := by obtain ⟨a, b, rfl, _⟩ := hp; rfl
    have hqur : pur q = true := by obtain ⟨a, b, rfl, _⟩ := hq2; rfl
    have hWp : purAll W = true := purAll_of fun x hx => by
      obtain ⟨u, v, l, h', rfl, ⟨a, b, rfl, _⟩, ⟨c, d, rfl, _⟩, _⟩ := span_parts (hW x hx)
      rfl
    have tup : ∀ P : WQ, P (.tup W) (μ8 ++ [.lst W]) → opBlt .tuple [.cel μ8.length] (μ8 ++ [.lst W]) P := by
      intro P h
      show (match asR (μ8 ++ [CO.lst W]) (.cel μ8.length) with | some xs => P (.tup xs) (μ8 ++ [CO.lst W]) | none => False)
      rw [e_asR]
      exact h
    split
    · refine tup _ ⟨line_le (by simp), ?_⟩
      split
      · exact ⟨line_le (by simp), rt_gen (.inr ⟨_, hw⟩) w68 (by simp [pur, purAll, everyD, hpur, hqur, hWp]) (fin w68 side_every hm side_every)⟩
      · exact ⟨line_le (by simp), rt_gen (.inr ⟨_, hw⟩) w68 (by simp [pur, purAll, everyD, noneD, hpur, hqur, hWp]) (fin w68 side_every hm side_none)⟩
    · refine tup _ ⟨line_le (by simp), ?_⟩
      split
      · exact ⟨line_le (by simp), rt_gen (.inr ⟨_, hw⟩) w68 (by simp [pur, purAll, everyD, noneD, hpur, hqur, hWp]) (fin w68 side_none hm side_every)⟩
      · exact ⟨line_le (by simp), rt_gen (.inr ⟨_, hw⟩) w68 (by simp [pur, purAll, noneD, hpur, hqur, hWp]) (fin w68 side_none hm side_none)⟩
theorem b37 {n b : Nat} (hk : 4 ≤ k) (hw : WellOk n b μ) (hb : b ≤ 600000000) (hq : ∀ d t μ', Wl n (b + 100) μ μ' → R_band d t → Q d μ') : wDef (T k) 24 ir__law_band [.cel n] μ Q := by
  have hn := hw.lt
  have fin : ∀ {l m r : D} {μ' : M}, Wl n (b + 100) μ μ' → (∃ f s, R_side l f s) → (∃ t, R_mid m t) → (∃ f s, R_side r f s) → Q (.tup [l, m, r]) μ' := by
    intro l m r μ' w h1 h2 h3
    obtain ⟨t, ht⟩ := band_mk h1 h2 h3
    exact hq _ t _ w ht
  simp only [wDef, ir__law_band, startD]
  rw [wS1]; simp [wS, wE, wEs, wT, wI, wO, wF, ofE, wCmp, opCmp, setsD]
  refine dr (by omega) hw (by unfold BIG; omega) (by decide) (by decide) fun way μ1 w1 y0 y1 => ?_
  rw [wS1]; simp [wS, wE, wEs, wT, wI, wO, wF, ofE, wCmp, opCmp, setsD]
  refine tc hk (by decide) ⟨n, b + 1, rfl, w1.ok, by omega, fun sd f s μ2 w2 hsd => ?_⟩
  have w12 := w1.trans w2
  try dsimp only
  rw [wS1]; simp [wS, wE, wEs, wT, wI, wO, wF, ofE, wCmp, opCmp, setsD]
  split
  · rw [wS1]; simp [wS, wE, wEs, wT, wI, wO, wF, ofE, wCmp, opCmp, setsD]
    exact ⟨line_le (by decide), rt_here (fin (w12.mono (by omega)) ⟨f, s, hsd⟩ ⟨_, .inl ⟨rfl, rfl⟩⟩ ⟨f, s, hsd⟩)⟩
  rw [wS1]; simp [wS, wE, wEs, wT, wI, wO, wF, ofE, wCmp, opCmp, setsD]
  refine ⟨line_le (by decide), line_le (by decide), ?_⟩
  have frp : ∀ {z : Int} {m : Nat}, z.natAbs < 2 ^ m → 0 < m → FrN m (.tup [.int z, .int 1]) := fun {z m} h hm => ⟨z, 1, rfl, by decide, by
    have := Nat.pow_le_pow_right (n := 2) (by decide) hm
    simp at this ⊢; omega, h⟩
  rw [wS1]; simp [wS, wE, wEs, wT, wI, wO, wF, ofE, wCmp, opCmp, setsD]
  split
  · rw [wS1]; simp [wS, wE, wEs, wT, wI, wO, wF, ofE, wCmp, opCmp, setsD]
    refine tc (m := 3) (by omega) (by decide) ⟨n, b + 1 + 12, rfl, w2.ok, by omega, fun pe μ3 w3 hpe => ?_⟩
    refine dr (by omega) w3.ok (by unfold BIG; omega) (by decide) (by decide) fun fi μ4 w4 f0 f1 => ?_
    try dsimp only
    rw [wS1]; simp [wS, wE, wEs, wT, wI, wO, wF, ofE, wCmp, opCmp, setsD]
    refine tc (m := 2) (by omega) (by decide) ⟨_, _, 34, 4, rfl, hpe, ⟨fi, 12, rfl, by decide, by decide, by omega⟩, by decide, fun at_ hat => ?_⟩
    try dsimp only
    rw [wS1]; simp [wS, wE, wEs, wT, wI, wO, wF, ofE, wCmp, opCmp, setsD]
    refine ⟨line_le (by decide), line_le (by decide), dr (by omega) w4.ok (by unfold BIG; omega) (by decide) (by decide) fun tu μ5 w5 u0 u1 => ?_⟩
    simp only [r_sub]
    have w15 := ((w12.trans w3).trans w4).trans w5
    rw [wS1]; simp [wS, wE, wEs, wT, wI, wO, wF, ofE, wCmp, opCmp, setsD]
    refine tc (m := 2) (by omega) (by decide) ⟨_, _, 34, 10, rfl, hpe, frp (by omega) (by decide), by decide, fun mv hmv => ?_⟩
    refine tc (m := 2) (by omega) (by decide) ⟨_, _, 38, 44, rfl, hat, hmv, by decide, fun be hbe => ?_⟩
    try dsimp only
    rw [wS1]; simp [wS, wE, wEs, wT, wI, wO, wF, ofE, wCmp, opCmp, setsD]
    refine tc (m := 2) (by omega) (by decide) ⟨_, _, 83, 34, rfl, hbe, hpe, by decide, fun af haf => ?_⟩
    try dsimp only
    rw [wS1]; simp [wS, wE, wEs, wT, wI, wO, wF, ofE, wCmp, opCmp, setsD]
    have pts : ∃ f s, R_side (.tup [pe, .tup [.tup [at_, at_, .int 1, .int 1]]]) f s := side_mk hpe (by decide) (spans1 (hat.mono (by decide)) (hat.mono (by decide)) (.inr rfl) (.inr rfl))
    have midA : ∃ t, R_mid (.tup [be, af, .tup [.tup [af, af, .int 1, .int 1]]]) t := mid_mk hbe (by decide) haf (by decide) (spans1 (haf.mono (by decide)) (haf.mono (by decide)) (.inr rfl) (.inr rfl))
    have midB : ∃ t, R_mid (.tup [be, af, .tup [.tup [be, be, .int 1, .int 1]]]) t := mid_mk hbe (by decide) haf (by decide) (spans1 (hbe.mono (by decide)) (hbe.mono (by decide)) (.inr rfl) (.inr rfl))
    refine dr (by omega) w5.ok (by unfold BIG; omega) (by decide) (by decide) fun cc μ6 w6 c0 c1 => ?_
    have wz := (w15.trans w6).mono (c := b + 100) (by omega)
    simp only [q_ii]
    split
    · rw [wS1]
      simp only [wS, wE, wEs, r_getV0, r_getVs]
      exact ⟨line_le (by simp), line_le (by simp), line_le (by simp), line_le (by simp), rt_here (fin wz side_none midA pts)⟩
    · rw [wS1]
      simp only [wS, wE, wEs, r_getV0, r_getVs]
      exact ⟨line_le (by simp), line_le (by simp), line_le (by simp), line_le (by simp), rt_here (fin wz pts midB side_none)⟩
  · rw [wS1]; simp [wS, wE, wEs, wT, wI, wO, wF, ofE, wCmp, opCmp, setsD]
    refine mid (by omega) w2.ok (by omega) fun lo μ3 w3 hlo => ?_
    try dsimp only
    rw [wS1]; simp [wS, wE, wEs, wT, wI, wO, wF, ofE, wCmp, opCmp, setsD]
    refine dr (by omega) w3.ok (by unfold BIG; omega) (by decide) (by decide) fun d1 μ4 w4 a0 a1 => ?_
    try simp only [r_addI]
    refine dr (by omega) w4.ok (by unfold BIG; omega) (by decide) (by decide) fun d2 μ5 w5 a2 a3 => ?_
    try simp only [r_addI]
    refine tc (m := 2) (by omega) (by decide) ⟨_, _, 34, 7, rfl, hlo, ⟨_, _, rfl, by omega, by omega, by omega⟩, by decide, fun hi hhi => ?_⟩
    refine tc (m := 3) (by omega) (by decide) ⟨n, _, lo, hi, 5, rfl, w5.ok, by omega, hlo, hhi.mono (by decide), by decide, by decide, fun d t μ6 w6 hd => ?_⟩
    obtain ⟨xs, ts, rfl, hxl, hxs, _⟩ := hd
    simp only [r_asSq]
    refine new_l (line_le (by omega)) ?_
    try dsimp only
    rw [wS1]; simp [wS, wE, wEs, wT, wI, wO, wF, ofE, wCmp, opCmp, setsD]
    refine dr (by omega) w6.ok (by unfold BIG; omega) (by decide) (by decide) fun lf μ7 w7 a4 a5 => ?_
    try simp only [q_ii]
    try dsimp only
    refine dr (by omega) w7.ok (by unfold BIG; omega) (by decide) (by decide) fun rg μ8 w8 a6 a7 => ?_
    try simp only [q_ii]
    have hF : ∀ x ∈ xs, ∃ t, R_span x t := by
      intro x hx
      obtain ⟨j, hj⟩ := List.getElem?_of_mem hx
      obtain ⟨t, _, ht⟩ := hxs.get hj
      exact ⟨t, ht⟩
    have w68 : Wl n (b + 100) μ μ8 := (((((((w12.trans w3).trans w4).trans w5).trans w6).trans w7).trans w8)).mono (by omega)
    rw [wS1]
    by_cases hx : xs = []
    · subst hx
      refine iff_val true (fun P hP => ?_) ?_
      · simp only [wT, wE, wEs, wCmp, opCmp, r_getV0, r_getVs]
        refine new_l (line_le (by simp)) ?_
        rw [eq_noneL hF]
        exact hP
      rw [if_pos rfl, wS1]
      simp only [wS, wE, wEs, wT, wCmp, opCmp, r_getV0, r_getVs]
      refine new_l (line_le (by simp)) ?_
      rw [eq_noneL hF]
      try dsimp only
      simp only [List.isEmpty_nil, if_true]
      rw [wS1]
      simp only [wS, wE, wEs, List.set, r_getV0, r_getVs]
      exact ⟨line_le (by simp), rt_here (fin w68 side_none ⟨_, .inl ⟨rfl, rfl⟩⟩ side_none)⟩
    · refine iff_any (fun P hP => ?_) ?_ ?_
      · simp only [wT, wE, wEs, wCmp, opCmp, r_getV0, r_getVs]
        refine new_l (line_le (by simp)) ?_
        rw [eq_noneL hF]
        cases xs with
        | nil => exact absurd rfl hx
        | cons x xs =>
          simp [ofE]
          split
          · split
            · exact hP _
            · exact hP _
          · exact hP _
      · rw [wS1]
        simp only [wS, wE, wEs, wT, wCmp, opCmp, r_getV0, r_getVs]
        refine new_l (line_le (by simp)) ?_
        rw [eq_noneL hF]
        have he : xs.isEmpty = false := by cases xs with
          | nil => exact absurd rfl hx
          | cons _ _ => rfl
        rw [he]
        try dsimp only
        rw [if_neg Bool.false_ne_true, wS1]
        simp only [wS, wE, wEs, List.set, r_getV0, r_getVs]
        exact ⟨line_le (by simp), rt_here (fin w68 side_every ⟨_, .inl ⟨rfl, rfl⟩⟩ side_every)⟩
      · rw [wS0]
        try dsimp only
        have idx0 : ∃ u v l h', atI xs 0 = some (.tup [u, v, .int l, .int h']) ∧ FrN 125 u ∧ FrN 125 v := by
          cases xs with
          | nil => exact absurd rfl hx
          | cons x xs =>
            obtain ⟨u, v, l, h', rfl, h1, h2, _⟩ := span_parts (hF x (by simp))
            exact ⟨u, v, l, h', r_at0, h1, h2⟩
        have idxl : ∃ u v l h', atI xs (-1) = some (.tup [u, v, .int l, .int h']) ∧ FrN 125 u ∧ FrN 125 v := by
          obtain ⟨F', x, e⟩ : ∃ F' x, xs = F' ++ [x] := ⟨xs.dropLast, xs.getLast hx, (List.dropLast_concat_getLast hx).symm⟩
          obtain ⟨u, v, l, h', rfl, h1, h2, _⟩ := span_parts (hF x (by rw [e]; simp))
          exact ⟨u, v, l, h', by rw [e]; exact at_last, h1, h2⟩
        obtain ⟨u, v, l, h', i0, iu, iv⟩ := idx0
        obtain ⟨u2, v2, l2, h2, i1, iu2, iv2⟩ := idxl
        rw [wS1]
        refine set_val' (FrN 125) (fun P hP => ?_) ?_
        · simp only [wT, wE, ofE, r_getV0, r_getVs, r_truB, r_idxL, r_ixL, i0]
          split
          · simp only [r_idxT, r_ixT, r_at1]; exact hP _ iv
          · simp only [r_idxT, r_ixT, r_at0]; exact hP _ iu
        intro p hp
        simp only [List.set]
        rw [wS1]
        refine set_val' (FrN 125) (fun P hP => ?_) ?_
        · simp only [wT, wE, ofE, r_getV0, r_getVs, r_truB, r_idxL, r_ixL, i1]
          split
          · simp only [r_idxT, r_ixT, r_at0]; exact hP _ iu2
          · simp only [r_idxT, r_ixT, r_at1]; exact hP _ iv2
        intro q hq2
        simp only [List.set]
        have hk1 : 1 ≤ k := by omega
        rw [wS1]
        refine iff_any (fun P hP => ?_) ?_ ?_
        · simp only [wT, wE, wEs, ofE, r_getV0, r_getVs]
          refine tc hk1 (by decide) ⟨q, p, rfl, hq2.mono (by decide), hp.mono (by decide), fun vv => ?_⟩
          simp only [r_truB]
          exact hP _
        · rw [wS1]
          simp only [wS, wE, r_getV0, r_getVs, List.set]
          exact b37t hk1 hw w68 hF hxl hq2 hp fin
        · rw [wS0]
          exact b37t hk1 hw w68 hF hxl hp hq2 fin
end
end K68

set_option Elab.async false
set_option linter.all false
set_option maxRecDepth 100000
namespace K68
open PySem L2 Rf
/-! what repr shows of the values -/
def Rp (n dp : Nat) (d : D) : Prop := ∃ p, toP d = some p ∧ p.showable = true ∧ p.canLay0 = true ∧ p.depth ≤ dp ∧ p.shown.length ≤ n
theorem Rp.mono {n m a b : Nat} {d : D} (h : Rp n a d) (l : n ≤ m) (l2 : a ≤ b) : Rp m b d := by
  obtain ⟨p, h1, h2, h3, h4, h5⟩ := h
  exact ⟨p, h1, h2, h3, Nat.le_trans h4 l2, Nat.le_trans h5 l⟩
theorem Rp.int {i : Int} (h : SmI i) : Rp 131 0 (.int i) := ⟨.int i, rfl, by simp [PyData.showable, h.log], by simp [PyData.canLay0], by simp [PyData.depth], h.tx.1⟩
theorem Rp.non : Rp 131 0 .non := ⟨.none, rfl, rfl, rfl, Nat.le_refl _, by decide⟩
def theWords : List Str := ["whole", "rest", "less", "most", "equal", "not", "some", "every", "both", "either", "all", "none"]
theorem Rp.str {w : Str} (h : w ∈ theWords) : Rp 20 0 (.str w) := by
  have k : ∀ w ∈ theWords, PyData.strOk w = true ∧ (PyData.shown (.str w)).length ≤ 20 := by decide +kernel
  obtain ⟨k1, k2⟩ := k w h
  exact ⟨.str w, rfl, by simp [PyData.showable], by simp [PyData.canLay0, k1], by simp [PyData.depth], k2⟩
theorem Rp.all {n dp : Nat} : ∀ {xs : List D}, (∀ x ∈ xs, Rp n dp x) → ∃ ps, toPs xs = some ps ∧ PyData.showableAll ps = true ∧ PyData.canLayAll0 ps = true ∧ PyData.depthAll ps ≤ dp ∧ ((PyData.shownAll ps).map (·.length)).sum ≤ xs.length * n ∧ (PyData.shownAll ps).length = xs.length
  | [], _ => ⟨[], rfl, rfl, rfl, Nat.zero_le _, by simp [PyData.shownAll], rfl⟩
  | x :: xs, h => by
    obtain ⟨p, h1, h2, h3, h4, h5⟩ := h x (by simp)
    obtain ⟨ps, g1, g2, g3, g4, g5, g6⟩ := Rp.all fun y hy => h y (List.mem_cons_of_mem _ hy)
    refine ⟨p :: ps, by simp only [toPs, h1, g1], by simp only [PyData.showableAll, h2, g2, Bool.and_self], by simp only [PyData.canLayAll0, h3, g3, Bool.and_self], by simp only [PyData.depthAll]; omega, ?_, by simp only [PyData.shownAll, List.length_cons, g6]⟩
    simp only [PyData.shownAll, List.map_cons, List.sum_cons, List.length_cons, Nat.add_mul]
    omega
theorem Rp.tup {n dp m : Nat} {xs : List D} (h : ∀ x ∈ xs, Rp n dp x) (hl : xs.length ≤ m) : Rp (m * (n + 2) + 3) (dp + 1) (.tup xs) := by
  obtain ⟨ps, g1, g2, g3, g4, g5, g6⟩ := Rp.all h
  refine ⟨.tuple ps, by simp only [toP, g1, Option.map_some], by simpa only [PyData.showable] using g2, by simpa only [PyData.canLay0] using g3, by simp only [PyData.depth]; omega, ?_⟩
  have e : PyData.shown (.tuple ps) = tupleText (PyData.shownAll ps) := by simp only [PyData.shown]
  rw [e]
  refine Nat.le_trans (tupleText_len_le _) ?_
  have := Nat.mul_le_mul_right (n + 2) hl
  rw [g6]
  rw [Nat.mul_add] at this
  omega
theorem Rp.fr {d : D} {t : Str} (h : R_fr d t) : Rp 269 1 d := by
  obtain ⟨a, b, rfl, h1, h2, _⟩ := h
  exact Rp.tup (n := 131) (dp := 0) (m := 2) (by intro x hx; simp at hx; rcases hx with rfl | rfl; exact .int h1; exact .int h2) (by simp)
theorem all2_mem {R : D → Str → Prop} {xs : List D} {ts : List Str} (h : All2 R xs ts) {x : D} (hx : x ∈ xs) : ∃ t, R x t := by
  obtain ⟨j, hj⟩ := List.getElem?_of_mem hx
  obtain ⟨t, _, ht⟩ := h.get hj
  exact ⟨t, ht⟩
theorem Rp.frs {d : D} {t : Str} (h : R_frs d t) : Rp 2713 2 d := by
  obtain ⟨xs, ts, rfl, h1, h2, _⟩ := h
  exact Rp.tup (n := 269) (dp := 1) (m := 10) (fun x hx => let ⟨_, ht⟩ := all2_mem h2 hx; .fr ht) h1
theorem smi01 {l : Int} (h : l = 0 ∨ l = 1) : SmI l := by rcases h with rfl | rfl <;> (unfold SmI; decide)
theorem Rp.span {d : D} {t : Str} (h : R_span d t) : Rp 1087 2 d := by
  obtain ⟨x, y, f, g, l, h', rfl, _, _, h3, h4, h5, h6, _⟩ := h
  refine Rp.tup (n := 269) (dp := 1) (m := 4) (fun z hz => ?_) (by simp)
  simp at hz
  rcases hz with rfl | rfl | rfl | rfl
  · exact .fr h3
  · exact .fr h4
  · exact (Rp.int (smi01 h5)).mono (by decide) (by decide)
  · exact (Rp.int (smi01 h6)).mono (by decide) (by decide)
theorem Rp.spans {d : D} {t : Str} (h : R_spans d t) : Rp 10893 3 d := by
  obtain ⟨xs, ts, rfl, h1, h2, _⟩ := h
  exact Rp.tup (n := 1087) (dp := 2) (m := 10) (fun x hx => let ⟨_, ht⟩ := all2_mem h2 hx; .span ht) h1
theorem Rp.side {d : D} {f s : Str} (h : R_side d f s) : Rp 32688 4 d := by
  obtain ⟨x, sp, rfl, h1, h2⟩ := h
  refine (Rp.tup (n := 10893) (dp := 3) (m := 2) (fun z hz => ?_) (by simp)).mono (by decide) (by decide)
  simp at hz
  rcases hz with rfl | rfl
  · exact (Rp.fr h1).mono (by decide) (by decide)
  · exact .spans h2
theorem Rp.mid {d : D} {t : Str} (h : R_mid d t) : Rp 32688 4 d := by
  rcases h with ⟨rfl, _⟩ | ⟨x, y, sp, f, g, s, rfl, h1, h2, h3, _⟩
  · exact Rp.non.mono (by decide) (by decide)
  · refine Rp.tup (n := 10893) (dp := 3) (m := 3) (fun z hz => ?_) (by simp)
    simp at hz
    rcases hz with rfl | rfl | rfl
    · exact (Rp.fr h1).mono (by decide) (by decide)
    · exact (Rp.fr h2).mono (by decide) (by decide)
    · exact .spans h3
theorem Rp.band {d : D} {t : Str} (h : R_band d t) : Rp 98073 5 d := by
  obtain ⟨l, m, r, f1, s1, tm, f2, s2, rfl, h1, h2, h3, _⟩ := h
  refine Rp.tup (n := 32688) (dp := 4) (m := 3) (fun z hz => ?_) (by simp)
  simp at hz
  rcases hz with rfl | rfl | rfl
  · exact .side h1
  · exact .mid h2
  · exact .side h3
theorem Rp.ints {zs : List Int} {m : Nat} (hl : zs.length ≤ m) (h : ∀ z ∈ zs, SmI z) : Rp (m * 133 + 3) 1 (.tup (zs.map .int)) :=
  Rp.tup (n := 131) (dp := 0) (fun x hx => by
    obtain ⟨z, hz, rfl⟩ := List.mem_map.mp hx
    exact .int (h z hz)) (by simpa using hl)
theorem Rp.rints {sep : Str} {d : D} {t : Str} (h : R_ints sep d t) : Rp 13303 1 d := by
  obtain ⟨zs, rfl, h1, h2, _⟩ := h
  exact Rp.ints h1 h2
theorem Rp.word {d : D} {t : Str} (h : R_word d t) : Rp 39918 2 d := by
  obtain ⟨p, q, r, a, b, c, rfl, h1, h2, h3, _⟩ := h
  refine Rp.tup (n := 13303) (dp := 1) (m := 3) (fun z hz => ?_) (by simp)
  simp at hz
  rcases hz with rfl | rfl | rfl
  · exact .rints h1
  · exact .rints h2
  · exact .rints h3
theorem Rp.mach {d : D} {t : Str} (h : R_mach d t) : Rp 1596633 3 d := by
  obtain ⟨n, sg, hs, dr, rows, en, tsg, ths, trs, rfl, h1, h2, h3, h4, h5, h6, h7, h8, h9, h10, _⟩ := h
  have rw_ : ∀ {hs : List D} {ths : List Str}, All2 (R_ints " ") hs ths → hs.length ≤ 20 → Rp 266103 2 (.tup hs) := fun ha hl => Rp.tup (n := 13303) (dp := 1) (m := 20) (fun x hx => let ⟨_, ht⟩ := all2_mem ha hx; .rints ht) hl
  refine Rp.tup (n := 266103) (dp := 2) (m := 6) (fun z hz => ?_) (by simp)
  simp only [List.mem_cons, List.not_mem_nil, or_false] at hz
  rcases hz with rfl | rfl | rfl | rfl | rfl | rfl
  · exact (Rp.int h1).mono (by decide) (by decide)
  · exact (Rp.rints h2).mono (by decide) (by decide)
  · exact rw_ h3 h7
  · exact (Rp.ints (m := 20) (by omega) h9).mono (by decide) (by decide)
  · exact rw_ h4 h8
  · exact (Rp.ints (m := 20) (by omega) h10).mono (by decide) (by decide)
theorem Rp.paper {d : D} {t : Str} (h : R_paper d t) : Rp 8148 3 d := by
  rcases h with ⟨w, rfl, hw, _⟩ | ⟨x, y, f, g, rfl, h1, h2, _⟩
  · refine (Rp.tup (n := 20) (dp := 0) (m := 1) (fun z hz => ?_) (by simp)).mono (by decide) (by decide)
    simp at hz
    subst hz
    rcases hw with rfl | rfl
    · exact .str (by simp [theWords])
    · exact .str (by simp [theWords])
  · refine Rp.tup (n := 2713) (dp := 2) (m := 3) (fun z hz => ?_) (by simp)
    simp at hz
    rcases hz with rfl | rfl | rfl
    · exact (Rp.str (w := "some") (by simp [theWords])).mono (by decide) (by decide)
    · exact .frs h1
    · exact .frs h2
theorem Rp.leaf {d : D} {t : Str} (h : R_leaf d t) : Rp 402 1 d := by
  rcases h with ⟨i, rfl, h, _⟩ | ⟨z, zs, rfl, h1, h2, h3, _⟩
  · exact (Rp.int h).mono (by decide) (by decide)
  · exact Rp.ints (zs := z :: zs) (m := 3) (by simp; omega) (fun y hy => by
      rcases List.mem_cons.mp hy with rfl | hy
      · exact h2
      · exact h3 y hy)
theorem Rp.say : ∀ {L : Nat} {d : D} {t : Str}, SayTx L d t → Rp (420 * 3 ^ L - 16) (L + 1) d
  | 0, _, _, h => h.elim
  | L + 1, d, t, h => by
    obtain ⟨w, ps, ts, rfl, h1, h2, h3, _⟩ := h
    have e : 3 ^ (L + 1) = 3 * 3 ^ L := by rw [Nat.pow_succ, Nat.mul_comm]
    have p : 1 ≤ 3 ^ L := by have := Nat.pow_le_pow_right (n := 3) (by decide) (Nat.zero_le L); simpa using this
    obtain ⟨qs, g1, g2, g3, g4, g5, g6⟩ := Rp.all (n := 420 * 3 ^ L - 16) (dp := L + 1) (xs := ps) fun x hx => by
      obtain ⟨s, hs⟩ := all2_mem h3 hx
      rcases hs with hs | hs
      · exact (Rp.leaf hs).mono (by omega) (by omega)
      · exact Rp.say hs
    obtain ⟨p0, k1, k2, k3, k4, k5⟩ := Rp.str (w := w) (by
      simp only [theWords, List.mem_cons, List.not_mem_nil, or_false] at h2 ⊢
      rcases h2 with h | h | h | h | h | h | h | h | h | h <;> simp [h])
    refine ⟨.tuple (p0 :: qs), by simp only [toP, toPs, g1] at k1 ⊢; rw [← Option.some.inj k1]; rfl, by simp only [PyData.showable, PyData.showableAll, k2, g2, Bool.and_self], by simp only [PyData.canLay0, PyData.canLayAll0, k3, g3, Bool.and_self], by simp only [PyData.depth, PyData.depthAll]; omega, ?_⟩
    have e2 : PyData.shown (.tuple (p0 :: qs)) = tupleText (PyData.shown p0 :: PyData.shownAll qs) := by simp only [PyData.shown, PyData.shownAll]
    rw [e2]
    refine Nat.le_trans (tupleText_len_le _) ?_
    simp only [List.map_cons, List.sum_cons, List.length_cons, g6]
    have := Nat.mul_le_mul_right (420 * 3 ^ L - 16) h1
    rw [e]
    omega
theorem r_repr {d : D} {μ : M} {Q : WQ} : opBlt .repr [d] μ Q = (match toPm μ d with | some p => (p.showable && p.canLay0 && decide (p.depth ≤ 64) && refB d) = true ∧ p.shown.length ≤ sizeLine ∧ Q (.str p.shown) μ | none => False) := rfl
theorem repr8 {a b c d e f g h : D} (h1 : Rp 269 1 a) (h2 : Rp 2713 2 b) (h3 : Rp 2755604 9 c) (h4 : Rp 10893 3 d) (h5 : Rp 98073 5 e) (h6 : Rp 39918 2 f) (h7 : Rp 1596633 3 g) (h8 : Rp 8148 3 h) :
    ∃ t : Str, t.length ≤ sizeLine ∧ ∀ (μ : M) (Q : WQ), Q (.str t) μ → opBlt .repr [.lst [a, b, c, d, e, f, g, h]] μ Q := by
  obtain ⟨a, a1, a2, a3, a4, a5⟩ := h1
  obtain ⟨b, b1, b2, b3, b4, b5⟩ := h2
  obtain ⟨c, c1, c2, c3, c4, c5⟩ := h3
  obtain ⟨d, d1, d2, d3, d4, d5⟩ := h4
  obtain ⟨e, e1, e2, e3, e4, e5⟩ := h5
  obtain ⟨f, f1, f2, f3, f4, f5⟩ := h6
  obtain ⟨g, g1, g2, g3, g4, g5⟩ := h7
  obtain ⟨h, h1, h2, h3, h4, h5⟩ := h8
  have hl : (PyData.shown (.list [a, b, c, d, e, f, g, h])).length ≤ sizeLine := by
    have e : PyData.shown (.list [a, b, c, d, e, f, g, h]) = listText [a.shown, b.shown, c.shown, d.shown, e.shown, f.shown, g.shown, h.shown] := by simp only [PyData.shown, PyData.shownAll]
    rw [e, sizeLine_eq]
    refine Nat.le_trans (listText_len_le _) ?_
    simp only [List.map_cons, List.map_nil, List.sum_cons, List.sum_nil, List.length_cons, List.length_nil]
    omega
  refine ⟨_, hl, fun μ Q hq => ?_⟩
  rw [r_repr]

  simp only [toPm, toP, toPs, a1, b1, c1, d1, e1, f1, g1, h1, Option.map_some]
  refine ⟨?_, hl, hq⟩
  simp only [PyData.showable, PyData.showableAll, PyData.canLay0, PyData.canLayAll0, PyData.depth, PyData.depthAll, refB, a2, b2, c2, d2, e2, f2, g2, h2, a3, b3, c3, d3, e3, f3, g3, h3, Bool.and_self, Bool.true_and, Bool.and_true, decide_eq_true_eq]
  refine decide_eq_true ?_
  show max a.depth (max b.depth (max c.depth (max d.depth (max e.depth (max f.depth (max g.depth (max h.depth 0))))))) + 1 ≤ 64
  omega
end K68

set_option Elab.async false
set_option linter.all false
set_option maxRecDepth 100000
namespace K68
open PySem L2 Rf
def law_spec : DSpec := fun ds μ Q => ∃ ns : List Int, ds = [.scr (ns.map .int)] ∧ ns.length ≤ 63 ∧ ∀ μ', Q (.bl true) μ'
theorem law_len : ∀ ds μ Q, law_spec ds μ Q → ds.length = d_law.ps.length := by
  rintro ds μ Q ⟨ns, rfl, _⟩
  rfl
theorem law_told (ns : List Int) (hl : ns.length ≤ 63) (hb : ∀ z ∈ ns, Builtin.Int.intBits z ≤ 1048576) : law_spec [.scr (ns.map .int)] [] fun d _ => d = .bl true := ⟨ns, rfl, hl, fun _ => rfl⟩
def lawT : CSs :=
    (.cons (.set 12 (.blt .repr (.cons (.lst (.cons (.var 3) (.cons (.var 4) (.cons (.var 5) (.cons (.var 7) (.cons (.var 8) (.cons (.var 9) (.cons (.var 10) (.cons (.var 11) .nil))))))))) .nil)))
    (.cons (.set 13 (.lst (.cons (.cal 1 (.cons (.var 3) .nil)) (.cons (.cal 2 (.cons (.var 4) .nil)) (.cons (.cal 3 (.cons (.var 5) .nil)) (.cons (.cal 5 (.cons (.var 7) .nil)) (.cons (.cal 8 (.cons (.var 8) .nil)) .nil)))))))
    (.cons (.set 13 (.bin .Add (.var 13) (.lst (.cons (.cal 9 (.cons (.var 9) .nil)) (.cons (.cal 10 (.cons (.var 10) .nil)) (.cons (.cal 11 (.cons (.var 11) .nil)) .nil))))))
    (.cons (.set 14 (.lst (.cons (.cal 21 (.cons (.var 3) .nil)) (.cons (.cal 22 (.cons (.var 4) .nil)) (.cons (.cal 23 (.cons (.var 5) .nil)) (.cons (.cal 24 (.cons (.var 7) .nil)) .nil))))))
    (.cons (.set 14 (.bin .Add (.var 14) (.lst (.cons (.cal 25 (.cons (.var 8) .nil)) (.cons (.cal 26 (.cons (.var 9) .nil)) (.cons (.cal 27 (.cons (.var 10) .nil)) (.cons (.cal 28 (.cons (.var 11) .nil)) .nil)))))))
    (.cons (.iff (.not (.cal 14 (.cons (.var 13) (.cons (.var 14) .nil))))
      (.cons (.ret (.cst (.bl false)))
      .nil)
      .nil)
    (.cons (.set 13 (.lst (.cons (.cak 1 .nil ["x"] (.cons (.var 3) .nil) [0] 0) (.cons (.cak 2 .nil ["numbers"] (.cons (.var 4) .nil) [0] 0) (.cons (.cak 3 .nil ["saying"] (.cons (.var 5) .nil) [0] 0) (.cons (.cak 5 .nil ["spans"] (.cons (.var 7) .nil) [0] 0) .nil))))))
    (.cons (.set 13 (.bin .Add (.var 13) (.lst (.cons (.cak 8 .nil ["band"] (.cons (.var 8) .nil) [0] 0) (.cons (.cak 9 .nil ["word"] (.cons (.var 9) .nil) [0] 0) (.cons (.cak 10 .nil ["machine"] (.cons (.var 10) .nil) [0] 0) (.cons (.cak 11 .nil ["paper"] (.cons (.var 11) .nil) [0] 0) .nil)))))))
    (.cons (.iff (.or (.not (.cal 14 (.cons (.var 13) (.cons (.var 14) .nil)))) (.cmp .NotEq (.blt .repr (.cons (.lst (.cons (.var 3) (.cons (.var 4) (.cons (.var 5) (.cons (.var 7) (.cons (.var 8) (.cons (.var 9) (.cons (.var 10) (.cons (.var 11) .nil))))))))) .nil)) (.var 12)))
      (.cons (.ret (.cst (.bl false)))
      .nil)
      .nil)
    .nil)))))))))
section
variable {μ : M}
theorem law_rest {E : DEnds} {s0 s1 s2 s6 s12 s13 s14 s15 : Option D} {a b c d e f g h : D} {ta tb tc_ td te tf tg th : Str}
    (h1 : R_fr a ta) (h2 : R_frs b tb) (h3 : SayTx 8 c tc_) (h4 : R_spans d td) (h5 : R_band e te) (h6 : R_word f tf) (h7 : R_mach g tg) (h8 : R_paper h th)
    (hE : ∀ o12 o13 o14, E.nx [s0, s1, s2, some a, some b, some c, s6, some d, some e, some f, some g, some h, o12, o13, o14, s15] μ) :
    wSs (T LV) lawT E [s0, s1, s2, some a, some b, some c, s6, some d, some e, some f, some g, some h, s12, s13, s14, s15] μ := by
  obtain ⟨rt, hrt, hr⟩ := repr8 (Rp.fr h1) (Rp.frs h2) (Rp.say h3) (Rp.spans h4) (Rp.band h5) (Rp.word h6) (Rp.mach h7) (Rp.paper h8)
  have hs : SayTx 8 c tc_ := h3
  have same : ∀ P : WQ, P (.bl true) μ → T LV 14 [.lst [.str ta, .str tb, .str tc_, .str td, .str te, .str tf, .str tg, .str th], .lst [.str ta, .str tb, .str tc_, .str td, .str te, .str tf, .str tg, .str th]] μ P := fun P hP =>
    tc (m := 20) (by decide) (by decide) ⟨_, rfl, by simp [Sm, LV], hP⟩
  have one : ∀ (f : Nat) (R : D → Str → Prop) (d : D) (t : Str) (P : WQ), lv f ≤ 20 → sp LV f = tx1 R → R d t → P (.str t) μ → T LV f [d] μ P := fun f R d t P hl e hR hP => tc (m := 20) (by decide) hl (by rw [e]; exact ⟨d, t, rfl, hR, hP⟩)
  have k3 : (fun d t => ∃ L, L + 1 ≤ LV ∧ L ≤ 8 ∧ SayTx L d t) c tc_ := ⟨8, by decide, by decide, h3⟩
  unfold lawT
  rw [wS1]
  simp only [wS, wE, wEs, r_getV0, r_getVs]
  refine new_l (line_le (by simp)) (hr _ _ ?_)
  simp only [List.set]
  rw [wS1]
  simp only [wS, wE, wEs, r_getV0, r_getVs]
  refine one 1 _ _ _ _ (by decide) rfl h1 (one 2 _ _ _ _ (by decide) rfl h2 (one 3 _ _ _ _ (by decide) rfl k3 (one 5 _ _ _ _ (by decide) rfl h4 (one 8 _ _ _ _ (by decide) rfl h5 ?_))))
  refine new_l (line_le (by simp)) ?_
  simp only [List.set]
  rw [wS1]
  simp only [wS, wE, wEs, opBin, r_getV0, r_getVs]
  refine one 9 _ _ _ _ (by decide) rfl h6 (one 10 _ _ _ _ (by decide) rfl h7 (one 11 _ _ _ _ (by decide) rfl h8 ?_))
  refine new_l (line_le (by simp)) ?_
  rw [r_addL]
  refine new_l (line_le (by simp)) ?_
  simp only [List.set]
  rw [wS1]
  simp only [wS, wE, wEs, r_getV0, r_getVs]
  refine one 21 _ _ _ _ (by decide) rfl h1 (one 22 _ _ _ _ (by decide) rfl h2 (one 23 _ _ _ _ (by decide) rfl k3 (one 24 _ _ _ _ (by decide) rfl h4 ?_)))
  refine new_l (line_le (by simp)) ?_
  simp only [List.set]
  rw [wS1]
  simp only [wS, wE, wEs, opBin, r_getV0, r_getVs]
  refine one 25 _ _ _ _ (by decide) rfl h5 (one 26 _ _ _ _ (by decide) rfl h6 (one 27 _ _ _ _ (by decide) rfl h7 (one 28 _ _ _ _ (by decide) rfl h8 ?_)))
  refine new_l (line_le (by simp)) ?_
  rw [r_addL]
  refine new_l (line_le (by simp)) ?_
  simp only [List.set, List.cons_append, List.nil_append]
  rw [wS1]
  refine iff_val false (fun P hP => ?_) ?_
  · simp only [wT, wE, wEs, ofE, r_getV0, r_getVs]
    exact same _ hP
  rw [if_neg Bool.false_ne_true, wS0]
  try dsimp only
  rw [wS1]
  simp only [wS, wE, wEs, permD, r_getV0, r_getVs]
  refine one 1 _ _ _ _ (by decide) rfl h1 (one 2 _ _ _ _ (by decide) rfl h2 (one 3 _ _ _ _ (by decide) rfl k3 (one 5 _ _ _ _ (by decide) rfl h4 ?_)))
  refine new_l (line_le (by simp)) ?_
  simp only [List.set]
  rw [wS1]
  simp only [wS, wE, wEs, opBin, permD, r_getV0, r_getVs]
  refine one 8 _ _ _ _ (by decide) rfl h5 (one 9 _ _ _ _ (by decide) rfl h6 (one 10 _ _ _ _ (by decide) rfl h7 (one 11 _ _ _ _ (by decide) rfl h8 ?_)))
  refine new_l (line_le (by simp)) ?_
  rw [r_addL]
  refine new_l (line_le (by simp)) ?_
  simp only [List.set, List.cons_append, List.nil_append]
  rw [wS1]
  refine iff_val false (fun P hP => ?_) ?_
  · simp only [wT, wE, wEs, ofE, wCmp, opCmp, r_getV0, r_getVs]
    refine same _ ?_
    simp only [r_truB, Bool.not_true, Bool.false_eq_true, if_false]
    refine new_l (line_le (by simp)) (hr _ _ ?_)
    simp only [q_ss, decide_true, Option.map_some, Bool.not_true]
    exact hP
  rw [if_neg Bool.false_ne_true, wS0]
  exact hE _ _ _
theorem law_body : ∀ ds μ Q, law_spec ds μ Q → wDef (T LV) d_law.N.length d_law.ir ds μ Q := by
  rintro ds μ Q ⟨ns, rfl, hl, hq⟩
  show wDef (T LV) 16 ir_law [.scr (ns.map .int)] μ Q
  simp only [wDef, ir_law]
  rw [show startD 16 [D.scr (ns.map .int)] = [some (.scr (ns.map .int)), none, none, none, none, none, none, none, none, none, none, none, none, none, none, none] from rfl, wS1]
  simp only [wS, wI, wE, wEs, r_getV0, r_getVs, r_len, r_lenS, r_min, r_max, List.length_map]
  obtain ⟨N, hN, hN3⟩ : ∃ N : Int, (if (if (ns.length : Int) < 3 then (ns.length : Int) else 3) > 1 then (if (ns.length : Int) < 3 then (ns.length : Int) else 3) else 1) = N ∧ (0 ≤ N ∧ N ≤ 3) := ⟨_, rfl, by split <;> split <;> omega⟩
  rw [hN]
  refine ⟨⟨by omega, by omega⟩, fun i ρ μ' => ∃ o1 o2 o3 o4 o5 o6 o7 o8 o9 o10 o11 o12 o13 o14 o15, ρ = [some (.scr (ns.map .int)), o1, o2, o3, o4, o5, o6, o7, o8, o9, o10, o11, o12, o13, o14, o15], ⟨_, _, _, _, _, _, _, _, _, _, _, _, _, _, _, rfl⟩, fun _ _ _ _ _ _ h => (by cases h), ?_, ?_⟩
  · rintro i x ρ μ0 hx ⟨o1, o2, o3, o4, o5, o6, o7, o8, o9, o10, o11, o12, o13, o14, o15, rfl⟩
    obtain ⟨hi, rfl⟩ := r_rangeD hx
    refine ⟨_, rfl, ?_⟩
    have L1 : (1 : Nat) ≤ LV := by decide
    have L2 : (2 : Nat) ≤ LV := by decide
    have L3 : (3 : Nat) ≤ LV := by decide
    have L5 : (5 : Nat) ≤ LV := by decide
    simp only [List.set]
    rw [wS1]
    simp only [wS, wE, wEs, r_getV0, r_getVs]
    refine tc L1 (by decide) ⟨ns, _, rfl, hl, by omega, fun μ1 w1 => ?_⟩
    generalize hn : μ0.length = n at w1 ⊢
    simp only [List.set]
    rw [wS1]
    simp only [wS, wE, wEs, wI, r_getV0, r_getVs]
    refine tc L3 (by decide) ⟨n, 0, rfl, w1, by omega, fun x μ2 w2 hx => ?_⟩
    refine dr L1 w2.ok (by unfold BIG; omega) (by decide) (by decide) fun m μ3 w3 m0 m1 => ?_
    refine ⟨⟨by omega, by omega⟩, ?_⟩
    refine lc_gen (Γ := T LV) (n := n) (b := 6) (c := 5) (FrN 100) (w3.ok.mono (by omega)) rfl (by simp; omega) ?_ ?_
    · intro i x μ' hx hw'
      have hi := (List.getElem?_eq_some_iff.mp hx).1
      simp at hi
      refine ⟨_, rfl, fun P hP => ?_⟩
      simp [wE, wEs, wipeD]
      exact tc L3 (by decide) ⟨n, _, rfl, hw'.ok, by omega, fun d μ3 w3 hd => hP _ _ ((hw'.trans w3).mono (by omega)) hd⟩
    intro ys μ4 w4 hlen hys
    simp at hlen
    have w4 := w4.ok.mono (c := 30) (by simp; omega)
    refine new_l (line_le (by omega)) ?_
    simp only [r_tupleL, List.set]
    obtain ⟨tb, hb⟩ := frs_of (by omega) hys
    obtain ⟨ta, ha⟩ := hx.R (by decide)
    rw [wS1]
    simp only [wS, wE, wEs, opBin, r_getV0, r_getVs]
    refine dr L1 w4 (by unfold BIG; omega) (by decide) (by decide) fun m μ5 w5 m0 m1 => ?_
    simp only [r_addI]
    refine tc (m := 20) (by decide) (by decide) ⟨n, 31, 8, _, 8, rfl, w5.ok, by decide, by decide, by decide, by decide, by decide, fun sy ts μ6 w6 hsy => ?_⟩
    have w6 := w6.ok.mono (c := 5000) (by decide)
    refine mid L2 w6 (by omega) fun lo μ7 w7 hlo => ?_
    simp only [List.set]
    rw [wS1]
    simp only [wS, wE, wEs, opBin, r_getV0, r_getVs]
    refine dr L1 w7.ok (by unfold BIG; omega) (by decide) (by decide) fun d1 μ8 w8 a0 a1 => ?_
    simp only [r_addI]
    refine dr L1 w8.ok (by unfold BIG; omega) (by decide) (by decide) fun d2 μ9 w9 a2 a3 => ?_
    simp only [r_addI]
    refine ⟨line_le (by simp), ?_⟩
    refine tc L2 (by decide) ⟨_, _, 34, 7, rfl, hlo, ⟨_, _, rfl, by omega, by omega, by omega⟩, by decide, fun hi hhi => ?_⟩
    refine tc L3 (by decide) ⟨n, _, lo, hi, 8, rfl, w9.ok, by omega, hlo, hhi.mono (by decide), by decide, by decide, fun spn tsp μ10 w10 hsp => ?_⟩
    simp only [List.set]
    rw [wS1]
    simp only [wS, wE, wEs, opBin, r_getV0, r_getVs]
    refine tc L5 (by decide) ⟨n, _, rfl, w10.ok, by omega, fun bd tbd μ11 w11 hbd => ?_⟩
    refine dr L1 w11.ok (by unfold BIG; omega) (by decide) (by decide) fun j μ12 w12 j0 j1 => ?_
    refine tc L2 (by decide) ⟨n, _, j, rfl, w12.ok, by omega, j0, j1, fun wd twd μ13 w13 hwd => ?_⟩
    refine tc L2 (by decide) ⟨n, _, rfl, w13.ok, by omega, fun mc tmc μ14 w14 hmc => ?_⟩
    simp only [List.set]
    rw [wS1]
    simp only [wS, wE, wEs, opBin, r_getV0, r_getVs]
    refine tc (m := 4) (by decide) (by decide) ⟨n, _, rfl, w14.ok, by omega, fun pp tpp μ15 w15 hpp => ?_⟩
    simp only [List.set]
    exact law_rest ha hb hsy hsp hbd hwd hmc hpp fun o12 o13 o14 => ⟨_, _, _, _, _, _, _, _, _, _, _, _, _, _, _, rfl⟩
  · rintro ρ μ' ⟨o1, o2, o3, o4, o5, o6, o7, o8, o9, o10, o11, o12, o13, o14, o15, rfl⟩
    rw [wS1]
    simp only [wS, wE]
    exact rt_here (hq _)
theorem T_zero : ∀ f ds μ Q, ¬ T 0 f ds μ Q := by
  rintro f ds μ Q ⟨h, _⟩
  unfold lv at h
  split at h <;> omega
end
end K68

set_option Elab.async false
set_option linter.all false
set_option maxRecDepth 100000
namespace K68
open PySem L2 Rf
theorem T_body : ∀ k i d ds μ Q, Ds[i]? = some d → T (k + 1) i ds μ Q → wDef (T k) d.N.length d.ir ds μ Q := by
  intro k i d ds μ Q hd h
  obtain ⟨hl, h⟩ := h
  match i, hd, hl, h with
  | 0, hd, hl, h =>
    cases hd
    simp only [lv] at hl
    obtain ⟨d, t, rfl, hR, hq⟩ := h
    exact b0  hR hq
  | 1, hd, hl, h =>
    cases hd
    simp only [lv] at hl
    obtain ⟨d, t, rfl, hR, hq⟩ := h
    exact b1  hR hq
  | 2, hd, hl, h =>
    cases hd
    simp only [lv] at hl
    obtain ⟨d, t, rfl, hR, hq⟩ := h
    exact b2 (by omega) hR hq
  | 3, hd, hl, h =>
    cases hd
    simp only [lv] at hl
    obtain ⟨d, t, rfl, ⟨L, h1, h2, h3⟩, hq⟩ := h
    exact b3 h1 (by omega) h2 h3 hq
  | 4, hd, hl, h =>
    cases hd
    simp only [lv] at hl
    obtain ⟨d, t, rfl, hR, hq⟩ := h
    exact b4 (by omega) hR hq
  | 5, hd, hl, h =>
    cases hd
    simp only [lv] at hl
    obtain ⟨d, t, rfl, hR, hq⟩ := h
    exact b5 (by omega) hR hq
  | 6, hd, hl, h =>
    cases hd
    simp only [lv] at hl
    obtain ⟨w, d, f, s, rfl, hw, hs, hq⟩ := h
    exact b6 (by omega) hw hs hq
  | 7, hd, hl, h =>
    cases hd
    simp only [lv] at hl
    obtain ⟨d, t, rfl, hR, hq⟩ := h
    exact b7 (by omega) hR hq
  | 8, hd, hl, h =>
    cases hd
    simp only [lv] at hl
    obtain ⟨d, t, rfl, hR, hq⟩ := h
    exact b8 (by omega) hR hq
  | 9, hd, hl, h =>
    cases hd
    simp only [lv] at hl
    obtain ⟨d, t, rfl, hR, hq⟩ := h
    exact b9  hR hq
  | 10, hd, hl, h =>
    cases hd
    simp only [lv] at hl
    obtain ⟨d, t, rfl, hR, hq⟩ := h
    exact b10 (by omega) hR hq
  | 11, hd, hl, h =>
    cases hd
    simp only [lv] at hl
    obtain ⟨d, t, rfl, hR, hq⟩ := h
    exact b11 (by omega) hR hq
  | 12, hd, hl, h =>
    cases hd
    simp only [lv] at hl
    obtain ⟨ns, place, rfl, h1, h2, hq⟩ := h
    exact b12 h1 h2 hq
  | 13, hd, hl, h =>
    cases hd
    simp only [lv] at hl
    obtain ⟨n, b, many, rfl, h1, h2, h3, h4, hq⟩ := h
    exact b13 h1 h2 h3 h4 hq
  | 14, hd, hl, h =>
    cases hd
    simp only [lv] at hl
    obtain ⟨d, rfl, h1, hq⟩ := h
    exact b14 h1 (fun x hx P hP => tc (m := 1) (by cases k with | zero => exact hx.elim | succ k => omega) (by decide) ⟨x, rfl, hx, hP⟩) hq
  | 15, hd, hl, h =>
    cases hd
    simp only [lv] at hl
    obtain ⟨t, b, n, rfl, h1, h2, h3, h4, hq⟩ := h
    exact b15 h1 h2 h3 h4 hq
  | 16, hd, hl, h =>
    cases hd
    simp only [lv] at hl
    obtain ⟨x, y, a, b, rfl, h1, h2, h3, hq⟩ := h
    exact b16 (by omega) h1 h2 h3 hq
  | 17, hd, hl, h =>
    cases hd
    simp only [lv] at hl
    obtain ⟨x, y, a, b, rfl, h1, h2, h3, hq⟩ := h
    exact b17 (by omega) h1 h2 h3 hq
  | 18, hd, hl, h =>
    cases hd
    simp only [lv] at hl
    obtain ⟨x, y, a, b, rfl, h1, h2, h3, hq⟩ := h
    exact b18 (by omega) h1 h2 h3 hq
  | 19, hd, hl, h =>
    cases hd
    simp only [lv] at hl
    obtain ⟨x, y, rfl, h1, h2, hq⟩ := h
    exact b19 h1 h2 hq
  | 20, hd, hl, h =>
    cases hd
    simp only [lv] at hl
    obtain ⟨d, t, rfl, hR, hq⟩ := h
    exact b20  hR hq
  | 21, hd, hl, h =>
    cases hd
    simp only [lv] at hl
    obtain ⟨d, t, rfl, hR, hq⟩ := h
    exact b21  hR hq
  | 22, hd, hl, h =>
    cases hd
    simp only [lv] at hl
    obtain ⟨d, t, rfl, hR, hq⟩ := h
    exact b22 (by omega) hR hq
  | 23, hd, hl, h =>
    cases hd
    simp only [lv] at hl
    obtain ⟨d, t, rfl, ⟨L, h1, h2, h3⟩, hq⟩ := h
    exact b23 h1 (by omega) h2 h3 hq
  | 24, hd, hl, h =>
    cases hd
    simp only [lv] at hl
    obtain ⟨d, t, rfl, hR, hq⟩ := h
    exact b24 (by omega) hR hq
  | 25, hd, hl, h =>
    cases hd
    simp only [lv] at hl
    obtain ⟨d, t, rfl, hR, hq⟩ := h
    exact b25 (by omega) (by omega) hR hq
  | 26, hd, hl, h =>
    cases hd
    simp only [lv] at hl
    obtain ⟨d, t, rfl, hR, hq⟩ := h
    exact b26  hR hq
  | 27, hd, hl, h =>
    cases hd
    simp only [lv] at hl
    obtain ⟨d, t, rfl, hR, hq⟩ := h
    exact b27 (by omega) hR hq
  | 28, hd, hl, h =>
    cases hd
    simp only [lv] at hl
    obtain ⟨d, t, rfl, hR, hq⟩ := h
    exact b28 (by omega) hR hq
  | 29, hd, hl, h =>
    cases hd
    simp only [lv] at hl
    obtain ⟨n, b, rfl, h1, h2, hq⟩ := h
    exact b29 (by omega) h1 h2 hq
  | 30, hd, hl, h =>
    cases hd
    simp only [lv] at hl
    obtain ⟨n, b, rfl, h1, h2, hq⟩ := h
    exact b30 (by omega) h1 h2 hq
  | 31, hd, hl, h =>
    cases hd
    simp only [lv] at hl
    obtain ⟨n, b, rfl, h1, h2, hq⟩ := h
    exact b31 (by omega) h1 h2 hq
  | 32, hd, hl, h =>
    cases hd
    simp only [lv] at hl
    obtain ⟨n, b, L, many, left, rfl, h1, h2, h3, h4, h5, h6, hq⟩ := h
    exact b32 (by omega) h1 h2 h4 h5 h6 hq
  | 33, hd, hl, h =>
    cases hd
    simp only [lv] at hl
    obtain ⟨n, b, low, high, many, rfl, h1, h2, h3, h4, h5, h6, hq⟩ := h
    exact b33 (by omega) h1 h2 h3 h4 h5 h6 hq
  | 34, hd, hl, h =>
    cases hd
    simp only [lv] at hl
    obtain ⟨n, b, j, rfl, h1, h2, h3, h4, hq⟩ := h
    exact b34 (by omega) h1 h2 h3 h4 hq
  | 35, hd, hl, h =>
    cases hd
    simp only [lv] at hl
    obtain ⟨n, b, rfl, h1, h2, hq⟩ := h
    exact b35 (by omega) h1 h2 hq
  | 36, hd, hl, h =>
    cases hd
    simp only [lv] at hl
    obtain ⟨n, b, rfl, h1, h2, hq⟩ := h
    exact b36 (by omega) h1 h2 hq
  | 37, hd, hl, h =>
    cases hd
    simp only [lv] at hl
    obtain ⟨n, b, rfl, h1, h2, hq⟩ := h
    exact b37 (by omega) h1 h2 hq
  | 38, hd, hl, h =>
    cases hd
    simp only [lv] at hl
    obtain ⟨n, b, rfl, h1, h2, hq⟩ := h
    exact b38 (by omega) h1 h2 hq
  | 39, hd, hl, h =>
    cases hd
    simp only [lv] at hl
    obtain ⟨n, b, rfl, h1, h2, hq⟩ := h
    exact b39 (by omega) h1 h2 hq
  | i + 40, hd, hl, h => cases hd
theorem T_len : ∀ k i d ds μ Q, Ds[i]? = some d → T k i ds μ Q → ds.length = d.ps.length := by
  intro k i d ds μ Q hd h
  obtain ⟨hl, h⟩ := h
  match i, hd, h with
  | 0, hd, h =>
    cases hd
    obtain ⟨d, t, rfl, hR, hq⟩ := h
    rfl
  | 1, hd, h =>
    cases hd
    obtain ⟨d, t, rfl, hR, hq⟩ := h
    rfl
  | 2, hd, h =>
    cases hd
    obtain ⟨d, t, rfl, hR, hq⟩ := h
    rfl
  | 3, hd, h =>
    cases hd
    obtain ⟨d, t, rfl, ⟨L, h1, h2, h3⟩, hq⟩ := h
    rfl
  | 4, hd, h =>
    cases hd
    obtain ⟨d, t, rfl, hR, hq⟩ := h
    rfl
  | 5, hd, h =>
    cases hd
    obtain ⟨d, t, rfl, hR, hq⟩ := h
    rfl
  | 6, hd, h =>
    cases hd
    obtain ⟨w, d, f, s, rfl, hw, hs, hq⟩ := h
    rfl
  | 7, hd, h =>
    cases hd
    obtain ⟨d, t, rfl, hR, hq⟩ := h
    rfl
  | 8, hd, h =>
    cases hd
    obtain ⟨d, t, rfl, hR, hq⟩ := h
    rfl
  | 9, hd, h =>
    cases hd
    obtain ⟨d, t, rfl, hR, hq⟩ := h
    rfl
  | 10, hd, h =>
    cases hd
    obtain ⟨d, t, rfl, hR, hq⟩ := h
    rfl
  | 11, hd, h =>
    cases hd
    obtain ⟨d, t, rfl, hR, hq⟩ := h
    rfl
  | 12, hd, h =>
    cases hd
    obtain ⟨ns, place, rfl, h1, h2, hq⟩ := h
    rfl
  | 13, hd, h =>
    cases hd
    obtain ⟨n, b, many, rfl, h1, h2, h3, h4, hq⟩ := h
    rfl
  | 14, hd, h =>
    cases hd
    obtain ⟨d, rfl, h1, hq⟩ := h
    rfl
  | 15, hd, h =>
    cases hd
    obtain ⟨t, b, n, rfl, h1, h2, h3, h4, hq⟩ := h
    rfl
  | 16, hd, h =>
    cases hd
    obtain ⟨x, y, a, b, rfl, h1, h2, h3, hq⟩ := h
    rfl
  | 17, hd, h =>
    cases hd
    obtain ⟨x, y, a, b, rfl, h1, h2, h3, hq⟩ := h
    rfl
  | 18, hd, h =>
    cases hd
    obtain ⟨x, y, a, b, rfl, h1, h2, h3, hq⟩ := h
    rfl
  | 19, hd, h =>
    cases hd
    obtain ⟨x, y, rfl, h1, h2, hq⟩ := h
    rfl
  | 20, hd, h =>
    cases hd
    obtain ⟨d, t, rfl, hR, hq⟩ := h
    rfl
  | 21, hd, h =>
    cases hd
    obtain ⟨d, t, rfl, hR, hq⟩ := h
    rfl
  | 22, hd, h =>
    cases hd
    obtain ⟨d, t, rfl, hR, hq⟩ := h
    rfl
  | 23, hd, h =>
    cases hd
    obtain ⟨d, t, rfl, ⟨L, h1, h2, h3⟩, hq⟩ := h
    rfl
  | 24, hd, h =>
    cases hd
    obtain ⟨d, t, rfl, hR, hq⟩ := h
    rfl
  | 25, hd, h =>
    cases hd
    obtain ⟨d, t, rfl, hR, hq⟩ := h
    rfl
  | 26, hd, h =>
    cases hd
    obtain ⟨d, t, rfl, hR, hq⟩ := h
    rfl
  | 27, hd, h =>
    cases hd
    obtain ⟨d, t, rfl, hR, hq⟩ := h
    rfl
  | 28, hd, h =>
    cases hd
    obtain ⟨d, t, rfl, hR, hq⟩ := h
    rfl
  | 29, hd, h =>
    cases hd
    obtain ⟨n, b, rfl, h1, h2, hq⟩ := h
    rfl
  | 30, hd, h =>
    cases hd
    obtain ⟨n, b, rfl, h1, h2, hq⟩ := h
    rfl
  | 31, hd, h =>
    cases hd
    obtain ⟨n, b, rfl, h1, h2, hq⟩ := h
    rfl
  | 32, hd, h =>
    cases hd
    obtain ⟨n, b, L, many, left, rfl, h1, h2, h3, h4, h5, h6, hq⟩ := h
    rfl
  | 33, hd, h =>
    cases hd
    obtain ⟨n, b, low, high, many, rfl, h1, h2, h3, h4, h5, h6, hq⟩ := h
    rfl
  | 34, hd, h =>
    cases hd
    obtain ⟨n, b, j, rfl, h1, h2, h3, h4, hq⟩ := h
    rfl
  | 35, hd, h =>
    cases hd
    obtain ⟨n, b, rfl, h1, h2, hq⟩ := h
    rfl
  | 36, hd, h =>
    cases hd
    obtain ⟨n, b, rfl, h1, h2, hq⟩ := h
    rfl
  | 37, hd, h =>
    cases hd
    obtain ⟨n, b, rfl, h1, h2, hq⟩ := h
    rfl
  | 38, hd, h =>
    cases hd
    obtain ⟨n, b, rfl, h1, h2, hq⟩ := h
    rfl
  | 39, hd, h =>
    cases hd
    obtain ⟨n, b, rfl, h1, h2, hq⟩ := h
    rfl
  | i + 40, hd, h => cases hd
end K68

namespace K68
open PySem L2 Rf
set_option maxHeartbeats 0 in
theorem all_mk {l : PySem.W.OpenLaw} {w : World} {K : PySem.W.Frag} {h : Heap} {mg : Str → Option Value} {fa : Addr} (X : K.In h) (G : h.Ns mainGlobals mg) (hfa : mg "law" = some (.ref fa))
    {f0 : Addr} {od0 an0 : Option Addr} {sl0 : Array (Option Value)} {oc0 kV0 dc0 pm0 cd0 ct0 : Value}
    {f1 : Addr} {od1 an1 : Option Addr} {sl1 : Array (Option Value)} {oc1 kV1 dc1 pm1 cd1 ct1 : Value}
    {f2 : Addr} {od2 an2 : Option Addr} {sl2 : Array (Option Value)} {oc2 kV2 dc2 pm2 cd2 ct2 : Value}
    {f3 : Addr} {od3 an3 : Option Addr} {sl3 : Array (Option Value)} {oc3 kV3 dc3 pm3 cd3 ct3 : Value}
    {f4 : Addr} {od4 an4 : Option Addr} {sl4 : Array (Option Value)} {oc4 kV4 dc4 pm4 cd4 ct4 : Value}
    {f5 : Addr} {od5 an5 : Option Addr} {sl5 : Array (Option Value)} {oc5 kV5 dc5 pm5 cd5 ct5 : Value}
    {f6 : Addr} {od6 an6 : Option Addr} {sl6 : Array (Option Value)} {oc6 kV6 dc6 pm6 cd6 ct6 : Value}
    {f7 : Addr} {od7 an7 : Option Addr} {sl7 : Array (Option Value)} {oc7 kV7 dc7 pm7 cd7 ct7 : Value}
    {f8 : Addr} {od8 an8 : Option Addr} {sl8 : Array (Option Value)} {oc8 kV8 dc8 pm8 cd8 ct8 : Value}
    {f9 : Addr} {od9 an9 : Option Addr} {sl9 : Array (Option Value)} {oc9 kV9 dc9 pm9 cd9 ct9 : Value}
    {f10 : Addr} {od10 an10 : Option Addr} {sl10 : Array (Option Value)} {oc10 kV10 dc10 pm10 cd10 ct10 : Value}
    {f11 : Addr} {od11 an11 : Option Addr} {sl11 : Array (Option Value)} {oc11 kV11 dc11 pm11 cd11 ct11 : Value}
    {f12 : Addr} {od12 an12 : Option Addr} {sl12 : Array (Option Value)} {oc12 kV12 dc12 pm12 cd12 ct12 : Value}
    {f13 : Addr} {od13 an13 : Option Addr} {sl13 : Array (Option Value)} {oc13 kV13 dc13 pm13 cd13 ct13 : Value}
    {f14 : Addr} {od14 an14 : Option Addr} {sl14 : Array (Option Value)} {oc14 kV14 dc14 pm14 cd14 ct14 : Value}
    {f15 : Addr} {od15 an15 : Option Addr} {sl15 : Array (Option Value)} {oc15 kV15 dc15 pm15 cd15 ct15 : Value}
    {f16 : Addr} {od16 an16 : Option Addr} {sl16 : Array (Option Value)} {oc16 kV16 dc16 pm16 cd16 ct16 : Value}
    {f17 : Addr} {od17 an17 : Option Addr} {sl17 : Array (Option Value)} {oc17 kV17 dc17 pm17 cd17 ct17 : Value}
    {f18 : Addr} {od18 an18 : Option Addr} {sl18 : Array (Option Value)} {oc18 kV18 dc18 pm18 cd18 ct18 : Value}
    {f19 : Addr} {od19 an19 : Option Addr} {sl19 : Array (Option Value)} {oc19 kV19 dc19 pm19 cd19 ct19 : Value}
    {f20 : Addr} {od20 an20 : Option Addr} {sl20 : Array (Option Value)} {oc20 kV20 dc20 pm20 cd20 ct20 : Value}
    {f21 : Addr} {od21 an21 : Option Addr} {sl21 : Array (Option Value)} {oc21 kV21 dc21 pm21 cd21 ct21 : Value}
    {f22 : Addr} {od22 an22 : Option Addr} {sl22 : Array (Option Value)} {oc22 kV22 dc22 pm22 cd22 ct22 : Value}
    {f23 : Addr} {od23 an23 : Option Addr} {sl23 : Array (Option Value)} {oc23 kV23 dc23 pm23 cd23 ct23 : Value}
    {f24 : Addr} {od24 an24 : Option Addr} {sl24 : Array (Option Value)} {oc24 kV24 dc24 pm24 cd24 ct24 : Value}
    {f25 : Addr} {od25 an25 : Option Addr} {sl25 : Array (Option Value)} {oc25 kV25 dc25 pm25 cd25 ct25 : Value}
    {f26 : Addr} {od26 an26 : Option Addr} {sl26 : Array (Option Value)} {oc26 kV26 dc26 pm26 cd26 ct26 : Value}
    {f27 : Addr} {od27 an27 : Option Addr} {sl27 : Array (Option Value)} {oc27 kV27 dc27 pm27 cd27 ct27 : Value}
    {f28 : Addr} {od28 an28 : Option Addr} {sl28 : Array (Option Value)} {oc28 kV28 dc28 pm28 cd28 ct28 : Value}
    {f29 : Addr} {od29 an29 : Option Addr} {sl29 : Array (Option Value)} {oc29 kV29 dc29 pm29 cd29 ct29 : Value}
    {f30 : Addr} {od30 an30 : Option Addr} {sl30 : Array (Option Value)} {oc30 kV30 dc30 pm30 cd30 ct30 : Value}
    {f31 : Addr} {od31 an31 : Option Addr} {sl31 : Array (Option Value)} {oc31 kV31 dc31 pm31 cd31 ct31 : Value}
    {f32 : Addr} {od32 an32 : Option Addr} {sl32 : Array (Option Value)} {oc32 kV32 dc32 pm32 cd32 ct32 : Value}
    {f33 : Addr} {od33 an33 : Option Addr} {sl33 : Array (Option Value)} {oc33 kV33 dc33 pm33 cd33 ct33 : Value}
    {f34 : Addr} {od34 an34 : Option Addr} {sl34 : Array (Option Value)} {oc34 kV34 dc34 pm34 cd34 ct34 : Value}
    {f35 : Addr} {od35 an35 : Option Addr} {sl35 : Array (Option Value)} {oc35 kV35 dc35 pm35 cd35 ct35 : Value}
    {f36 : Addr} {od36 an36 : Option Addr} {sl36 : Array (Option Value)} {oc36 kV36 dc36 pm36 cd36 ct36 : Value}
    {f37 : Addr} {od37 an37 : Option Addr} {sl37 : Array (Option Value)} {oc37 kV37 dc37 pm37 cd37 ct37 : Value}
    {f38 : Addr} {od38 an38 : Option Addr} {sl38 : Array (Option Value)} {oc38 kV38 dc38 pm38 cd38 ct38 : Value}
    {f39 : Addr} {od39 an39 : Option Addr} {sl39 : Array (Option Value)} {oc39 kV39 dc39 pm39 cd39 ct39 : Value}
    {f40 : Addr} {od40 an40 : Option Addr} {sl40 : Array (Option Value)} {oc40 kV40 dc40 pm40 cd40 ct40 : Value}
    (a0 : PySem.W.nsIn K mainGlobals "spaced" = some (some (.ref f0))) (l0 : K.lookup f0 = some ⟨oc0, od0, .func (PySem.W.fnOf "spaced" "spaced" (defArgs d_spaced.st) (defBody d_spaced.st) (defScope d_spaced.st) .none kV0 dc0 pm0 an0 cd0 ct0), sl0⟩) (c0 : PySem.W.codeIn K cd0 "spaced" = true) (k0 : PySem.W.keepIn K (.ref f0) = true)
    (a1 : PySem.W.nsIn K mainGlobals "show_fraction" = some (some (.ref f1))) (l1 : K.lookup f1 = some ⟨oc1, od1, .func (PySem.W.fnOf "show_fraction" "show_fraction" (defArgs d_show_fraction.st) (defBody d_show_fraction.st) (defScope d_show_fraction.st) .none kV1 dc1 pm1 an1 cd1 ct1), sl1⟩) (c1 : PySem.W.codeIn K cd1 "show_fraction" = true) (k1 : PySem.W.keepIn K (.ref f1) = true)
    (a2 : PySem.W.nsIn K mainGlobals "show_numbers" = some (some (.ref f2))) (l2 : K.lookup f2 = some ⟨oc2, od2, .func (PySem.W.fnOf "show_numbers" "show_numbers" (defArgs d_show_numbers.st) (defBody d_show_numbers.st) (defScope d_show_numbers.st) .none kV2 dc2 pm2 an2 cd2 ct2), sl2⟩) (c2 : PySem.W.codeIn K cd2 "show_numbers" = true) (k2 : PySem.W.keepIn K (.ref f2) = true)
    (a3 : PySem.W.nsIn K mainGlobals "show_saying" = some (some (.ref f3))) (l3 : K.lookup f3 = some ⟨oc3, od3, .func (PySem.W.fnOf "show_saying" "show_saying" (defArgs d_show_saying.st) (defBody d_show_saying.st) (defScope d_show_saying.st) .none kV3 dc3 pm3 an3 cd3 ct3), sl3⟩) (c3 : PySem.W.codeIn K cd3 "show_saying" = true) (k3 : PySem.W.keepIn K (.ref f3) = true)
    (a4 : PySem.W.nsIn K mainGlobals "show_span" = some (some (.ref f4))) (l4 : K.lookup f4 = some ⟨oc4, od4, .func (PySem.W.fnOf "show_span" "show_span" (defArgs d_show_span.st) (defBody d_show_span.st) (defScope d_show_span.st) .none kV4 dc4 pm4 an4 cd4 ct4), sl4⟩) (c4 : PySem.W.codeIn K cd4 "show_span" = true) (k4 : PySem.W.keepIn K (.ref f4) = true)
    (a5 : PySem.W.nsIn K mainGlobals "show_spans" = some (some (.ref f5))) (l5 : K.lookup f5 = some ⟨oc5, od5, .func (PySem.W.fnOf "show_spans" "show_spans" (defArgs d_show_spans.st) (defBody d_show_spans.st) (defScope d_show_spans.st) .none kV5 dc5 pm5 an5 cd5 ct5), sl5⟩) (c5 : PySem.W.codeIn K cd5 "show_spans" = true) (k5 : PySem.W.keepIn K (.ref f5) = true)
    (a6 : PySem.W.nsIn K mainGlobals "show_side" = some (some (.ref f6))) (l6 : K.lookup f6 = some ⟨oc6, od6, .func (PySem.W.fnOf "show_side" "show_side" (defArgs d_show_side.st) (defBody d_show_side.st) (defScope d_show_side.st) .none kV6 dc6 pm6 an6 cd6 ct6), sl6⟩) (c6 : PySem.W.codeIn K cd6 "show_side" = true) (k6 : PySem.W.keepIn K (.ref f6) = true)
    (a7 : PySem.W.nsIn K mainGlobals "show_middle" = some (some (.ref f7))) (l7 : K.lookup f7 = some ⟨oc7, od7, .func (PySem.W.fnOf "show_middle" "show_middle" (defArgs d_show_middle.st) (defBody d_show_middle.st) (defScope d_show_middle.st) .none kV7 dc7 pm7 an7 cd7 ct7), sl7⟩) (c7 : PySem.W.codeIn K cd7 "show_middle" = true) (k7 : PySem.W.keepIn K (.ref f7) = true)
    (a8 : PySem.W.nsIn K mainGlobals "show_band" = some (some (.ref f8))) (l8 : K.lookup f8 = some ⟨oc8, od8, .func (PySem.W.fnOf "show_band" "show_band" (defArgs d_show_band.st) (defBody d_show_band.st) (defScope d_show_band.st) .none kV8 dc8 pm8 an8 cd8 ct8), sl8⟩) (c8 : PySem.W.codeIn K cd8 "show_band" = true) (k8 : PySem.W.keepIn K (.ref f8) = true)
    (a9 : PySem.W.nsIn K mainGlobals "show_word" = some (some (.ref f9))) (l9 : K.lookup f9 = some ⟨oc9, od9, .func (PySem.W.fnOf "show_word" "show_word" (defArgs d_show_word.st) (defBody d_show_word.st) (defScope d_show_word.st) .none kV9 dc9 pm9 an9 cd9 ct9), sl9⟩) (c9 : PySem.W.codeIn K cd9 "show_word" = true) (k9 : PySem.W.keepIn K (.ref f9) = true)
    (a10 : PySem.W.nsIn K mainGlobals "show_machine" = some (some (.ref f10))) (l10 : K.lookup f10 = some ⟨oc10, od10, .func (PySem.W.fnOf "show_machine" "show_machine" (defArgs d_show_machine.st) (defBody d_show_machine.st) (defScope d_show_machine.st) .none kV10 dc10 pm10 an10 cd10 ct10), sl10⟩) (c10 : PySem.W.codeIn K cd10 "show_machine" = true) (k10 : PySem.W.keepIn K (.ref f10) = true)
    (a11 : PySem.W.nsIn K mainGlobals "show_paper" = some (some (.ref f11))) (l11 : K.lookup f11 = some ⟨oc11, od11, .func (PySem.W.fnOf "show_paper" "show_paper" (defArgs d_show_paper.st) (defBody d_show_paper.st) (defScope d_show_paper.st) .none kV11 dc11 pm11 an11 cd11 ct11), sl11⟩) (c11 : PySem.W.codeIn K cd11 "show_paper" = true) (k11 : PySem.W.keepIn K (.ref f11) = true)
    (a12 : PySem.W.nsIn K mainGlobals "_law_well" = some (some (.ref f12))) (l12 : K.lookup f12 = some ⟨oc12, od12, .func (PySem.W.fnOf "_law_well" "_law_well" (defArgs d__law_well.st) (defBody d__law_well.st) (defScope d__law_well.st) .none kV12 dc12 pm12 an12 cd12 ct12), sl12⟩) (c12 : PySem.W.codeIn K cd12 "_law_well" = true) (k12 : PySem.W.keepIn K (.ref f12) = true)
    (a13 : PySem.W.nsIn K mainGlobals "_law_draw" = some (some (.ref f13))) (l13 : K.lookup f13 = some ⟨oc13, od13, .func (PySem.W.fnOf "_law_draw" "_law_draw" (defArgs d__law_draw.st) (defBody d__law_draw.st) (defScope d__law_draw.st) .none kV13 dc13 pm13 an13 cd13 ct13), sl13⟩) (c13 : PySem.W.codeIn K cd13 "_law_draw" = true) (k13 : PySem.W.keepIn K (.ref f13) = true)
    (a14 : PySem.W.nsIn K mainGlobals "_law_same" = some (some (.ref f14))) (l14 : K.lookup f14 = some ⟨oc14, od14, .func (PySem.W.fnOf "_law_same" "_law_same" (defArgs d__law_same.st) (defBody d__law_same.st) (defScope d__law_same.st) .none kV14 dc14 pm14 an14 cd14 ct14), sl14⟩) (c14 : PySem.W.codeIn K cd14 "_law_same" = true) (k14 : PySem.W.keepIn K (.ref f14) = true)
    (a15 : PySem.W.nsIn K mainGlobals "_law_made" = some (some (.ref f15))) (l15 : K.lookup f15 = some ⟨oc15, od15, .func (PySem.W.fnOf "_law_made" "_law_made" (defArgs d__law_made.st) (defBody d__law_made.st) (defScope d__law_made.st) .none kV15 dc15 pm15 an15 cd15 ct15), sl15⟩) (c15 : PySem.W.codeIn K cd15 "_law_made" = true) (k15 : PySem.W.keepIn K (.ref f15) = true)
    (a16 : PySem.W.nsIn K mainGlobals "_law_plus" = some (some (.ref f16))) (l16 : K.lookup f16 = some ⟨oc16, od16, .func (PySem.W.fnOf "_law_plus" "_law_plus" (defArgs d__law_plus.st) (defBody d__law_plus.st) (defScope d__law_plus.st) .none kV16 dc16 pm16 an16 cd16 ct16), sl16⟩) (c16 : PySem.W.codeIn K cd16 "_law_plus" = true) (k16 : PySem.W.keepIn K (.ref f16) = true)
    (a17 : PySem.W.nsIn K mainGlobals "_law_times" = some (some (.ref f17))) (l17 : K.lookup f17 = some ⟨oc17, od17, .func (PySem.W.fnOf "_law_times" "_law_times" (defArgs d__law_times.st) (defBody d__law_times.st) (defScope d__law_times.st) .none kV17 dc17 pm17 an17 cd17 ct17), sl17⟩) (c17 : PySem.W.codeIn K cd17 "_law_times" = true) (k17 : PySem.W.keepIn K (.ref f17) = true)
    (a18 : PySem.W.nsIn K mainGlobals "_law_minus" = some (some (.ref f18))) (l18 : K.lookup f18 = some ⟨oc18, od18, .func (PySem.W.fnOf "_law_minus" "_law_minus" (defArgs d__law_minus.st) (defBody d__law_minus.st) (defScope d__law_minus.st) .none kV18 dc18 pm18 an18 cd18 ct18), sl18⟩) (c18 : PySem.W.codeIn K cd18 "_law_minus" = true) (k18 : PySem.W.keepIn K (.ref f18) = true)
    (a19 : PySem.W.nsIn K mainGlobals "_law_less" = some (some (.ref f19))) (l19 : K.lookup f19 = some ⟨oc19, od19, .func (PySem.W.fnOf "_law_less" "_law_less" (defArgs d__law_less.st) (defBody d__law_less.st) (defScope d__law_less.st) .none kV19 dc19 pm19 an19 cd19 ct19), sl19⟩) (c19 : PySem.W.codeIn K cd19 "_law_less" = true) (k19 : PySem.W.keepIn K (.ref f19) = true)
    (a20 : PySem.W.nsIn K mainGlobals "_law_spaced" = some (some (.ref f20))) (l20 : K.lookup f20 = some ⟨oc20, od20, .func (PySem.W.fnOf "_law_spaced" "_law_spaced" (defArgs d__law_spaced.st) (defBody d__law_spaced.st) (defScope d__law_spaced.st) .none kV20 dc20 pm20 an20 cd20 ct20), sl20⟩) (c20 : PySem.W.codeIn K cd20 "_law_spaced" = true) (k20 : PySem.W.keepIn K (.ref f20) = true)
    (a21 : PySem.W.nsIn K mainGlobals "_law_shown" = some (some (.ref f21))) (l21 : K.lookup f21 = some ⟨oc21, od21, .func (PySem.W.fnOf "_law_shown" "_law_shown" (defArgs d__law_shown.st) (defBody d__law_shown.st) (defScope d__law_shown.st) .none kV21 dc21 pm21 an21 cd21 ct21), sl21⟩) (c21 : PySem.W.codeIn K cd21 "_law_shown" = true) (k21 : PySem.W.keepIn K (.ref f21) = true)
    (a22 : PySem.W.nsIn K mainGlobals "_law_numbers" = some (some (.ref f22))) (l22 : K.lookup f22 = some ⟨oc22, od22, .func (PySem.W.fnOf "_law_numbers" "_law_numbers" (defArgs d__law_numbers.st) (defBody d__law_numbers.st) (defScope d__law_numbers.st) .none kV22 dc22 pm22 an22 cd22 ct22), sl22⟩) (c22 : PySem.W.codeIn K cd22 "_law_numbers" = true) (k22 : PySem.W.keepIn K (.ref f22) = true)
    (a23 : PySem.W.nsIn K mainGlobals "_law_saying_text" = some (some (.ref f23))) (l23 : K.lookup f23 = some ⟨oc23, od23, .func (PySem.W.fnOf "_law_saying_text" "_law_saying_text" (defArgs d__law_saying_text.st) (defBody d__law_saying_text.st) (defScope d__law_saying_text.st) .none kV23 dc23 pm23 an23 cd23 ct23), sl23⟩) (c23 : PySem.W.codeIn K cd23 "_law_saying_text" = true) (k23 : PySem.W.keepIn K (.ref f23) = true)
    (a24 : PySem.W.nsIn K mainGlobals "_law_spans_text" = some (some (.ref f24))) (l24 : K.lookup f24 = some ⟨oc24, od24, .func (PySem.W.fnOf "_law_spans_text" "_law_spans_text" (defArgs d__law_spans_text.st) (defBody d__law_spans_text.st) (defScope d__law_spans_text.st) .none kV24 dc24 pm24 an24 cd24 ct24), sl24⟩) (c24 : PySem.W.codeIn K cd24 "_law_spans_text" = true) (k24 : PySem.W.keepIn K (.ref f24) = true)
    (a25 : PySem.W.nsIn K mainGlobals "_law_band_text" = some (some (.ref f25))) (l25 : K.lookup f25 = some ⟨oc25, od25, .func (PySem.W.fnOf "_law_band_text" "_law_band_text" (defArgs d__law_band_text.st) (defBody d__law_band_text.st) (defScope d__law_band_text.st) .none kV25 dc25 pm25 an25 cd25 ct25), sl25⟩) (c25 : PySem.W.codeIn K cd25 "_law_band_text" = true) (k25 : PySem.W.keepIn K (.ref f25) = true)
    (a26 : PySem.W.nsIn K mainGlobals "_law_word_text" = some (some (.ref f26))) (l26 : K.lookup f26 = some ⟨oc26, od26, .func (PySem.W.fnOf "_law_word_text" "_law_word_text" (defArgs d__law_word_text.st) (defBody d__law_word_text.st) (defScope d__law_word_text.st) .none kV26 dc26 pm26 an26 cd26 ct26), sl26⟩) (c26 : PySem.W.codeIn K cd26 "_law_word_text" = true) (k26 : PySem.W.keepIn K (.ref f26) = true)
    (a27 : PySem.W.nsIn K mainGlobals "_law_machine_text" = some (some (.ref f27))) (l27 : K.lookup f27 = some ⟨oc27, od27, .func (PySem.W.fnOf "_law_machine_text" "_law_machine_text" (defArgs d__law_machine_text.st) (defBody d__law_machine_text.st) (defScope d__law_machine_text.st) .none kV27 dc27 pm27 an27 cd27 ct27), sl27⟩) (c27 : PySem.W.codeIn K cd27 "_law_machine_text" = true) (k27 : PySem.W.keepIn K (.ref f27) = true)
    (a28 : PySem.W.nsIn K mainGlobals "_law_paper_text" = some (some (.ref f28))) (l28 : K.lookup f28 = some ⟨oc28, od28, .func (PySem.W.fnOf "_law_paper_text" "_law_paper_text" (defArgs d__law_paper_text.st) (defBody d__law_paper_text.st) (defScope d__law_paper_text.st) .none kV28 dc28 pm28 an28 cd28 ct28), sl28⟩) (c28 : PySem.W.codeIn K cd28 "_law_paper_text" = true) (k28 : PySem.W.keepIn K (.ref f28) = true)
    (a29 : PySem.W.nsIn K mainGlobals "_law_big" = some (some (.ref f29))) (l29 : K.lookup f29 = some ⟨oc29, od29, .func (PySem.W.fnOf "_law_big" "_law_big" (defArgs d__law_big.st) (defBody d__law_big.st) (defScope d__law_big.st) .none kV29 dc29 pm29 an29 cd29 ct29), sl29⟩) (c29 : PySem.W.codeIn K cd29 "_law_big" = true) (k29 : PySem.W.keepIn K (.ref f29) = true)
    (a30 : PySem.W.nsIn K mainGlobals "_law_fraction" = some (some (.ref f30))) (l30 : K.lookup f30 = some ⟨oc30, od30, .func (PySem.W.fnOf "_law_fraction" "_law_fraction" (defArgs d__law_fraction.st) (defBody d__law_fraction.st) (defScope d__law_fraction.st) .none kV30 dc30 pm30 an30 cd30 ct30), sl30⟩) (c30 : PySem.W.codeIn K cd30 "_law_fraction" = true) (k30 : PySem.W.keepIn K (.ref f30) = true)
    (a31 : PySem.W.nsIn K mainGlobals "_law_middling" = some (some (.ref f31))) (l31 : K.lookup f31 = some ⟨oc31, od31, .func (PySem.W.fnOf "_law_middling" "_law_middling" (defArgs d__law_middling.st) (defBody d__law_middling.st) (defScope d__law_middling.st) .none kV31 dc31 pm31 an31 cd31 ct31), sl31⟩) (c31 : PySem.W.codeIn K cd31 "_law_middling" = true) (k31 : PySem.W.keepIn K (.ref f31) = true)
    (a32 : PySem.W.nsIn K mainGlobals "_law_any" = some (some (.ref f32))) (l32 : K.lookup f32 = some ⟨oc32, od32, .func (PySem.W.fnOf "_law_any" "_law_any" (defArgs d__law_any.st) (defBody d__law_any.st) (defScope d__law_any.st) .none kV32 dc32 pm32 an32 cd32 ct32), sl32⟩) (c32 : PySem.W.codeIn K cd32 "_law_any" = true) (k32 : PySem.W.keepIn K (.ref f32) = true)
    (a33 : PySem.W.nsIn K mainGlobals "_law_span_list" = some (some (.ref f33))) (l33 : K.lookup f33 = some ⟨oc33, od33, .func (PySem.W.fnOf "_law_span_list" "_law_span_list" (defArgs d__law_span_list.st) (defBody d__law_span_list.st) (defScope d__law_span_list.st) .none kV33 dc33 pm33 an33 cd33 ct33), sl33⟩) (c33 : PySem.W.codeIn K cd33 "_law_span_list" = true) (k33 : PySem.W.keepIn K (.ref f33) = true)
    (a34 : PySem.W.nsIn K mainGlobals "_law_word" = some (some (.ref f34))) (l34 : K.lookup f34 = some ⟨oc34, od34, .func (PySem.W.fnOf "_law_word" "_law_word" (defArgs d__law_word.st) (defBody d__law_word.st) (defScope d__law_word.st) .none kV34 dc34 pm34 an34 cd34 ct34), sl34⟩) (c34 : PySem.W.codeIn K cd34 "_law_word" = true) (k34 : PySem.W.keepIn K (.ref f34) = true)
    (a35 : PySem.W.nsIn K mainGlobals "_law_period" = some (some (.ref f35))) (l35 : K.lookup f35 = some ⟨oc35, od35, .func (PySem.W.fnOf "_law_period" "_law_period" (defArgs d__law_period.st) (defBody d__law_period.st) (defScope d__law_period.st) .none kV35 dc35 pm35 an35 cd35 ct35), sl35⟩) (c35 : PySem.W.codeIn K cd35 "_law_period" = true) (k35 : PySem.W.keepIn K (.ref f35) = true)
    (a36 : PySem.W.nsIn K mainGlobals "_law_side" = some (some (.ref f36))) (l36 : K.lookup f36 = some ⟨oc36, od36, .func (PySem.W.fnOf "_law_side" "_law_side" (defArgs d__law_side.st) (defBody d__law_side.st) (defScope d__law_side.st) .none kV36 dc36 pm36 an36 cd36 ct36), sl36⟩) (c36 : PySem.W.codeIn K cd36 "_law_side" = true) (k36 : PySem.W.keepIn K (.ref f36) = true)
    (a37 : PySem.W.nsIn K mainGlobals "_law_band" = some (some (.ref f37))) (l37 : K.lookup f37 = some ⟨oc37, od37, .func (PySem.W.fnOf "_law_band" "_law_band" (defArgs d__law_band.st) (defBody d__law_band.st) (defScope d__law_band.st) .none kV37 dc37 pm37 an37 cd37 ct37), sl37⟩) (c37 : PySem.W.codeIn K cd37 "_law_band" = true) (k37 : PySem.W.keepIn K (.ref f37) = true)
    (a38 : PySem.W.nsIn K mainGlobals "_law_paper" = some (some (.ref f38))) (l38 : K.lookup f38 = some ⟨oc38, od38, .func (PySem.W.fnOf "_law_paper" "_law_paper" (defArgs d__law_paper.st) (defBody d__law_paper.st) (defScope d__law_paper.st) .none kV38 dc38 pm38 an38 cd38 ct38), sl38⟩) (c38 : PySem.W.codeIn K cd38 "_law_paper" = true) (k38 : PySem.W.keepIn K (.ref f38) = true)
    (a39 : PySem.W.nsIn K mainGlobals "_law_machine" = some (some (.ref f39))) (l39 : K.lookup f39 = some ⟨oc39, od39, .func (PySem.W.fnOf "_law_machine" "_law_machine" (defArgs d__law_machine.st) (defBody d__law_machine.st) (defScope d__law_machine.st) .none kV39 dc39 pm39 an39 cd39 ct39), sl39⟩) (c39 : PySem.W.codeIn K cd39 "_law_machine" = true) (k39 : PySem.W.keepIn K (.ref f39) = true)
    (a40 : PySem.W.nsIn K mainGlobals "law" = some (some (.ref f40))) (l40 : K.lookup f40 = some ⟨oc40, od40, .func (PySem.W.fnOf "law" "law" (defArgs d_law.st) (defBody d_law.st) (defScope d_law.st) .none kV40 dc40 pm40 an40 cd40 ct40), sl40⟩) (c40 : PySem.W.codeIn K cd40 "law" = true) (k40 : PySem.W.keepIn K (.ref f40) = true)
    (z0 : PySem.W.nsIn K mainGlobals "abs" = some none)
    (z1 : PySem.W.nsIn K mainGlobals "all" = some none)
    (z2 : PySem.W.nsIn K mainGlobals "any" = some none)
    (z3 : PySem.W.nsIn K mainGlobals "bool" = some none)
    (z4 : PySem.W.nsIn K mainGlobals "int" = some none)
    (z5 : PySem.W.nsIn K mainGlobals "isinstance" = some none)
    (z6 : PySem.W.nsIn K mainGlobals "len" = some none)
    (z7 : PySem.W.nsIn K mainGlobals "list" = some none)
    (z8 : PySem.W.nsIn K mainGlobals "max" = some none)
    (z9 : PySem.W.nsIn K mainGlobals "min" = some none)
    (z10 : PySem.W.nsIn K mainGlobals "range" = some none)
    (z11 : PySem.W.nsIn K mainGlobals "repr" = some none)
    (z12 : PySem.W.nsIn K mainGlobals "sorted" = some none)
    (z13 : PySem.W.nsIn K mainGlobals "str" = some none)
    (z14 : PySem.W.nsIn K mainGlobals "tuple" = some none)
    (z15 : PySem.W.nsIn K mainGlobals "zip" = some none)
    : ∃ fd : FuncData, (∀ (s : Shared) (v : Value), BindsTo s fd ⟨[v], []⟩ [("script", v)]) ∧ ∀ base : Heap, K.In base → base.Ns mainGlobals mg → RunIn l.prog w K mg base callerA fa fd ["script"] (lift K law_spec) := by
  have e := hfa.symm.trans (PySem.W.mg_of X G a40)
  cases e
  have F0 := fun_mk (st := d_spaced.st) l0 c0 k0
  have B0 : Binds K _ d_spaced.ps [] := F0.binds (ps := d_spaced.ps) fun _ _ _ _ _ _ us hl => match us, hl with | [_], _ => rfl
  have A0 : DefAt K mg KW 0 d_spaced f0 _ := ⟨F0, PySem.W.mg_of X G a0, B0, fun n ks perm hm => by
    simp [KW] at hm⟩
  have F1 := fun_mk (st := d_show_fraction.st) l1 c1 k1
  have B1 : Binds K _ d_show_fraction.ps [] := F1.binds (ps := d_show_fraction.ps) fun _ _ _ _ _ _ us hl => match us, hl with | [_], _ => rfl
  have A1 : DefAt K mg KW 1 d_show_fraction f1 _ := ⟨F1, PySem.W.mg_of X G a1, B1, fun n ks perm hm => by
    simp [KW] at hm
    rcases hm with ⟨rfl, rfl, rfl⟩
    · refine ⟨fun s us ws _ hl => ?_, fun r q => perm_rel r q⟩
      unfold permU at hl ⊢
      split at hl
      · rename_i hc
        rw [if_pos hc]
        exact match us, ws, hc with | [], [_], _ => .of_eq rfl
      · cases hl⟩
  have F2 := fun_mk (st := d_show_numbers.st) l2 c2 k2
  have B2 : Binds K _ d_show_numbers.ps [] := F2.binds (ps := d_show_numbers.ps) fun _ _ _ _ _ _ us hl => match us, hl with | [_], _ => rfl
  have A2 : DefAt K mg KW 2 d_show_numbers f2 _ := ⟨F2, PySem.W.mg_of X G a2, B2, fun n ks perm hm => by
    simp [KW] at hm
    rcases hm with ⟨rfl, rfl, rfl⟩
    · refine ⟨fun s us ws _ hl => ?_, fun r q => perm_rel r q⟩
      unfold permU at hl ⊢
      split at hl
      · rename_i hc
        rw [if_pos hc]
        exact match us, ws, hc with | [], [_], _ => .of_eq rfl
      · cases hl⟩
  have F3 := fun_mk (st := d_show_saying.st) l3 c3 k3
  have B3 : Binds K _ d_show_saying.ps [] := F3.binds (ps := d_show_saying.ps) fun _ _ _ _ _ _ us hl => match us, hl with | [_], _ => rfl
  have A3 : DefAt K mg KW 3 d_show_saying f3 _ := ⟨F3, PySem.W.mg_of X G a3, B3, fun n ks perm hm => by
    simp [KW] at hm
    rcases hm with ⟨rfl, rfl, rfl⟩
    · refine ⟨fun s us ws _ hl => ?_, fun r q => perm_rel r q⟩
      unfold permU at hl ⊢
      split at hl
      · rename_i hc
        rw [if_pos hc]
        exact match us, ws, hc with | [], [_], _ => .of_eq rfl
      · cases hl⟩
  have F4 := fun_mk (st := d_show_span.st) l4 c4 k4
  have B4 : Binds K _ d_show_span.ps [] := F4.binds (ps := d_show_span.ps) fun _ _ _ _ _ _ us hl => match us, hl with | [_], _ => rfl
  have A4 : DefAt K mg KW 4 d_show_span f4 _ := ⟨F4, PySem.W.mg_of X G a4, B4, fun n ks perm hm => by
    simp [KW] at hm⟩
  have F5 := fun_mk (st := d_show_spans.st) l5 c5 k5
  have B5 : Binds K _ d_show_spans.ps [] := F5.binds (ps := d_show_spans.ps) fun _ _ _ _ _ _ us hl => match us, hl with | [_], _ => rfl
  have A5 : DefAt K mg KW 5 d_show_spans f5 _ := ⟨F5, PySem.W.mg_of X G a5, B5, fun n ks perm hm => by
    simp [KW] at hm
    rcases hm with ⟨rfl, rfl, rfl⟩
    · refine ⟨fun s us ws _ hl => ?_, fun r q => perm_rel r q⟩
      unfold permU at hl ⊢
      split at hl
      · rename_i hc
        rw [if_pos hc]
        exact match us, ws, hc with | [], [_], _ => .of_eq rfl
      · cases hl⟩
  have F6 := fun_mk (st := d_show_side.st) l6 c6 k6
  have B6 : Binds K _ d_show_side.ps [] := F6.binds (ps := d_show_side.ps) fun _ _ _ _ _ _ us hl => match us, hl with | [_, _], _ => rfl
  have A6 : DefAt K mg KW 6 d_show_side f6 _ := ⟨F6, PySem.W.mg_of X G a6, B6, fun n ks perm hm => by
    simp [KW] at hm⟩
  have F7 := fun_mk (st := d_show_middle.st) l7 c7 k7
  have B7 : Binds K _ d_show_middle.ps [] := F7.binds (ps := d_show_middle.ps) fun _ _ _ _ _ _ us hl => match us, hl with | [_], _ => rfl
  have A7 : DefAt K mg KW 7 d_show_middle f7 _ := ⟨F7, PySem.W.mg_of X G a7, B7, fun n ks perm hm => by
    simp [KW] at hm⟩
  have F8 := fun_mk (st := d_show_band.st) l8 c8 k8
  have B8 : Binds K _ d_show_band.ps [] := F8.binds (ps := d_show_band.ps) fun _ _ _ _ _ _ us hl => match us, hl with | [_], _ => rfl
  have A8 : DefAt K mg KW 8 d_show_band f8 _ := ⟨F8, PySem.W.mg_of X G a8, B8, fun n ks perm hm => by
    simp [KW] at hm
    rcases hm with ⟨rfl, rfl, rfl⟩
    · refine ⟨fun s us ws _ hl => ?_, fun r q => perm_rel r q⟩
      unfold permU at hl ⊢
      split at hl
      · rename_i hc
        rw [if_pos hc]
        exact match us, ws, hc with | [], [_], _ => .of_eq rfl
      · cases hl⟩
  have F9 := fun_mk (st := d_show_word.st) l9 c9 k9
  have B9 : Binds K _ d_show_word.ps [] := F9.binds (ps := d_show_word.ps) fun _ _ _ _ _ _ us hl => match us, hl with | [_], _ => rfl
  have A9 : DefAt K mg KW 9 d_show_word f9 _ := ⟨F9, PySem.W.mg_of X G a9, B9, fun n ks perm hm => by
    simp [KW] at hm
    rcases hm with ⟨rfl, rfl, rfl⟩
    · refine ⟨fun s us ws _ hl => ?_, fun r q => perm_rel r q⟩
      unfold permU at hl ⊢
      split at hl
      · rename_i hc
        rw [if_pos hc]
        exact match us, ws, hc with | [], [_], _ => .of_eq rfl
      · cases hl⟩
  have F10 := fun_mk (st := d_show_machine.st) l10 c10 k10
  have B10 : Binds K _ d_show_machine.ps [] := F10.binds (ps := d_show_machine.ps) fun _ _ _ _ _ _ us hl => match us, hl with | [_], _ => rfl
  have A10 : DefAt K mg KW 10 d_show_machine f10 _ := ⟨F10, PySem.W.mg_of X G a10, B10, fun n ks perm hm => by
    simp [KW] at hm
    rcases hm with ⟨rfl, rfl, rfl⟩
    · refine ⟨fun s us ws _ hl => ?_, fun r q => perm_rel r q⟩
      unfold permU at hl ⊢
      split at hl
      · rename_i hc
        rw [if_pos hc]
        exact match us, ws, hc with | [], [_], _ => .of_eq rfl
      · cases hl⟩
  have F11 := fun_mk (st := d_show_paper.st) l11 c11 k11
  have B11 : Binds K _ d_show_paper.ps [] := F11.binds (ps := d_show_paper.ps) fun _ _ _ _ _ _ us hl => match us, hl with | [_], _ => rfl
  have A11 : DefAt K mg KW 11 d_show_paper f11 _ := ⟨F11, PySem.W.mg_of X G a11, B11, fun n ks perm hm => by
    simp [KW] at hm
    rcases hm with ⟨rfl, rfl, rfl⟩
    · refine ⟨fun s us ws _ hl => ?_, fun r q => perm_rel r q⟩
      unfold permU at hl ⊢
      split at hl
      · rename_i hc
        rw [if_pos hc]
        exact match us, ws, hc with | [], [_], _ => .of_eq rfl
      · cases hl⟩
  have F12 := fun_mk (st := d__law_well.st) l12 c12 k12
  have B12 : Binds K _ d__law_well.ps [] := F12.binds (ps := d__law_well.ps) fun _ _ _ _ _ _ us hl => match us, hl with | [_, _], _ => rfl
  have A12 : DefAt K mg KW 12 d__law_well f12 _ := ⟨F12, PySem.W.mg_of X G a12, B12, fun n ks perm hm => by
    simp [KW] at hm⟩
  have F13 := fun_mk (st := d__law_draw.st) l13 c13 k13
  have B13 : Binds K _ d__law_draw.ps [] := F13.binds (ps := d__law_draw.ps) fun _ _ _ _ _ _ us hl => match us, hl with | [_, _], _ => rfl
  have A13 : DefAt K mg KW 13 d__law_draw f13 _ := ⟨F13, PySem.W.mg_of X G a13, B13, fun n ks perm hm => by
    simp [KW] at hm⟩
  have F14 := fun_mk (st := d__law_same.st) l14 c14 k14
  have B14 : Binds K _ d__law_same.ps [] := F14.binds (ps := d__law_same.ps) fun _ _ _ _ _ _ us hl => match us, hl with | [_, _], _ => rfl
  have A14 : DefAt K mg KW 14 d__law_same f14 _ := ⟨F14, PySem.W.mg_of X G a14, B14, fun n ks perm hm => by
    simp [KW] at hm⟩
  have F15 := fun_mk (st := d__law_made.st) l15 c15 k15
  have B15 : Binds K _ d__law_made.ps [] := F15.binds (ps := d__law_made.ps) fun _ _ _ _ _ _ us hl => match us, hl with | [_, _], _ => rfl
  have A15 : DefAt K mg KW 15 d__law_made f15 _ := ⟨F15, PySem.W.mg_of X G a15, B15, fun n ks perm hm => by
    simp [KW] at hm⟩
  have F16 := fun_mk (st := d__law_plus.st) l16 c16 k16
  have B16 : Binds K _ d__law_plus.ps [] := F16.binds (ps := d__law_plus.ps) fun _ _ _ _ _ _ us hl => match us, hl with | [_, _], _ => rfl
  have A16 : DefAt K mg KW 16 d__law_plus f16 _ := ⟨F16, PySem.W.mg_of X G a16, B16, fun n ks perm hm => by
    simp [KW] at hm⟩
  have F17 := fun_mk (st := d__law_times.st) l17 c17 k17
  have B17 : Binds K _ d__law_times.ps [] := F17.binds (ps := d__law_times.ps) fun _ _ _ _ _ _ us hl => match us, hl with | [_, _], _ => rfl
  have A17 : DefAt K mg KW 17 d__law_times f17 _ := ⟨F17, PySem.W.mg_of X G a17, B17, fun n ks perm hm => by
    simp [KW] at hm⟩
  have F18 := fun_mk (st := d__law_minus.st) l18 c18 k18
  have B18 : Binds K _ d__law_minus.ps [] := F18.binds (ps := d__law_minus.ps) fun _ _ _ _ _ _ us hl => match us, hl with | [_, _], _ => rfl
  have A18 : DefAt K mg KW 18 d__law_minus f18 _ := ⟨F18, PySem.W.mg_of X G a18, B18, fun n ks perm hm => by
    simp [KW] at hm⟩
  have F19 := fun_mk (st := d__law_less.st) l19 c19 k19
  have B19 : Binds K _ d__law_less.ps [] := F19.binds (ps := d__law_less.ps) fun _ _ _ _ _ _ us hl => match us, hl with | [_, _], _ => rfl
  have A19 : DefAt K mg KW 19 d__law_less f19 _ := ⟨F19, PySem.W.mg_of X G a19, B19, fun n ks perm hm => by
    simp [KW] at hm⟩
  have F20 := fun_mk (st := d__law_spaced.st) l20 c20 k20
  have B20 : Binds K _ d__law_spaced.ps [] := F20.binds (ps := d__law_spaced.ps) fun _ _ _ _ _ _ us hl => match us, hl with | [_], _ => rfl
  have A20 : DefAt K mg KW 20 d__law_spaced f20 _ := ⟨F20, PySem.W.mg_of X G a20, B20, fun n ks perm hm => by
    simp [KW] at hm⟩
  have F21 := fun_mk (st := d__law_shown.st) l21 c21 k21
  have B21 : Binds K _ d__law_shown.ps [] := F21.binds (ps := d__law_shown.ps) fun _ _ _ _ _ _ us hl => match us, hl with | [_], _ => rfl
  have A21 : DefAt K mg KW 21 d__law_shown f21 _ := ⟨F21, PySem.W.mg_of X G a21, B21, fun n ks perm hm => by
    simp [KW] at hm⟩
  have F22 := fun_mk (st := d__law_numbers.st) l22 c22 k22
  have B22 : Binds K _ d__law_numbers.ps [] := F22.binds (ps := d__law_numbers.ps) fun _ _ _ _ _ _ us hl => match us, hl with | [_], _ => rfl
  have A22 : DefAt K mg KW 22 d__law_numbers f22 _ := ⟨F22, PySem.W.mg_of X G a22, B22, fun n ks perm hm => by
    simp [KW] at hm⟩
  have F23 := fun_mk (st := d__law_saying_text.st) l23 c23 k23
  have B23 : Binds K _ d__law_saying_text.ps [] := F23.binds (ps := d__law_saying_text.ps) fun _ _ _ _ _ _ us hl => match us, hl with | [_], _ => rfl
  have A23 : DefAt K mg KW 23 d__law_saying_text f23 _ := ⟨F23, PySem.W.mg_of X G a23, B23, fun n ks perm hm => by
    simp [KW] at hm⟩
  have F24 := fun_mk (st := d__law_spans_text.st) l24 c24 k24
  have B24 : Binds K _ d__law_spans_text.ps [] := F24.binds (ps := d__law_spans_text.ps) fun _ _ _ _ _ _ us hl => match us, hl with | [_], _ => rfl
  have A24 : DefAt K mg KW 24 d__law_spans_text f24 _ := ⟨F24, PySem.W.mg_of X G a24, B24, fun n ks perm hm => by
    simp [KW] at hm⟩
  have F25 := fun_mk (st := d__law_band_text.st) l25 c25 k25
  have B25 : Binds K _ d__law_band_text.ps [] := F25.binds (ps := d__law_band_text.ps) fun _ _ _ _ _ _ us hl => match us, hl with | [_], _ => rfl
  have A25 : DefAt K mg KW 25 d__law_band_text f25 _ := ⟨F25, PySem.W.mg_of X G a25, B25, fun n ks perm hm => by
    simp [KW] at hm⟩
  have F26 := fun_mk (st := d__law_word_text.st) l26 c26 k26
  have B26 : Binds K _ d__law_word_text.ps [] := F26.binds (ps := d__law_word_text.ps) fun _ _ _ _ _ _ us hl => match us, hl with | [_], _ => rfl
  have A26 : DefAt K mg KW 26 d__law_word_text f26 _ := ⟨F26, PySem.W.mg_of X G a26, B26, fun n ks perm hm => by
    simp [KW] at hm⟩
  have F27 := fun_mk (st := d__law_machine_text.st) l27 c27 k27
  have B27 : Binds K _ d__law_machine_text.ps [] := F27.binds (ps := d__law_machine_text.ps) fun _ _ _ _ _ _ us hl => match us, hl with | [_], _ => rfl
  have A27 : DefAt K mg KW 27 d__law_machine_text f27 _ := ⟨F27, PySem.W.mg_of X G a27, B27, fun n ks perm hm => by
    simp [KW] at hm⟩
  have F28 := fun_mk (st := d__law_paper_text.st) l28 c28 k28
  have B28 : Binds K _ d__law_paper_text.ps [] := F28.binds (ps := d__law_paper_text.ps) fun _ _ _ _ _ _ us hl => match us, hl with | [_], _ => rfl
  have A28 : DefAt K mg KW 28 d__law_paper_text f28 _ := ⟨F28, PySem.W.mg_of X G a28, B28, fun n ks perm hm => by
    simp [KW] at hm⟩
  have F29 := fun_mk (st := d__law_big.st) l29 c29 k29
  have B29 : Binds K _ d__law_big.ps [] := F29.binds (ps := d__law_big.ps) fun _ _ _ _ _ _ us hl => match us, hl with | [_], _ => rfl
  have A29 : DefAt K mg KW 29 d__law_big f29 _ := ⟨F29, PySem.W.mg_of X G a29, B29, fun n ks perm hm => by
    simp [KW] at hm⟩
  have F30 := fun_mk (st := d__law_fraction.st) l30 c30 k30
  have B30 : Binds K _ d__law_fraction.ps [] := F30.binds (ps := d__law_fraction.ps) fun _ _ _ _ _ _ us hl => match us, hl with | [_], _ => rfl
  have A30 : DefAt K mg KW 30 d__law_fraction f30 _ := ⟨F30, PySem.W.mg_of X G a30, B30, fun n ks perm hm => by
    simp [KW] at hm⟩
  have F31 := fun_mk (st := d__law_middling.st) l31 c31 k31
  have B31 : Binds K _ d__law_middling.ps [] := F31.binds (ps := d__law_middling.ps) fun _ _ _ _ _ _ us hl => match us, hl with | [_], _ => rfl
  have A31 : DefAt K mg KW 31 d__law_middling f31 _ := ⟨F31, PySem.W.mg_of X G a31, B31, fun n ks perm hm => by
    simp [KW] at hm⟩
  have F32 := fun_mk (st := d__law_any.st) l32 c32 k32
  have B32 : Binds K _ d__law_any.ps [] := F32.binds (ps := d__law_any.ps) fun _ _ _ _ _ _ us hl => match us, hl with | [_, _, _], _ => rfl
  have A32 : DefAt K mg KW 32 d__law_any f32 _ := ⟨F32, PySem.W.mg_of X G a32, B32, fun n ks perm hm => by
    simp [KW] at hm⟩
  have F33 := fun_mk (st := d__law_span_list.st) l33 c33 k33
  have B33 : Binds K _ d__law_span_list.ps [] := F33.binds (ps := d__law_span_list.ps) fun _ _ _ _ _ _ us hl => match us, hl with | [_, _, _, _], _ => rfl
  have A33 : DefAt K mg KW 33 d__law_span_list f33 _ := ⟨F33, PySem.W.mg_of X G a33, B33, fun n ks perm hm => by
    simp [KW] at hm⟩
  have F34 := fun_mk (st := d__law_word.st) l34 c34 k34
  have B34 : Binds K _ d__law_word.ps [] := F34.binds (ps := d__law_word.ps) fun _ _ _ _ _ _ us hl => match us, hl with | [_, _], _ => rfl
  have A34 : DefAt K mg KW 34 d__law_word f34 _ := ⟨F34, PySem.W.mg_of X G a34, B34, fun n ks perm hm => by
    simp [KW] at hm⟩
  have F35 := fun_mk (st := d__law_period.st) l35 c35 k35
  have B35 : Binds K _ d__law_period.ps [] := F35.binds (ps := d__law_period.ps) fun _ _ _ _ _ _ us hl => match us, hl with | [_], _ => rfl
  have A35 : DefAt K mg KW 35 d__law_period f35 _ := ⟨F35, PySem.W.mg_of X G a35, B35, fun n ks perm hm => by
    simp [KW] at hm⟩
  have F36 := fun_mk (st := d__law_side.st) l36 c36 k36
  have B36 : Binds K _ d__law_side.ps [] := F36.binds (ps := d__law_side.ps) fun _ _ _ _ _ _ us hl => match us, hl with | [_], _ => rfl
  have A36 : DefAt K mg KW 36 d__law_side f36 _ := ⟨F36, PySem.W.mg_of X G a36, B36, fun n ks perm hm => by
    simp [KW] at hm⟩
  have F37 := fun_mk (st := d__law_band.st) l37 c37 k37
  have B37 : Binds K _ d__law_band.ps [] := F37.binds (ps := d__law_band.ps) fun _ _ _ _ _ _ us hl => match us, hl with | [_], _ => rfl
  have A37 : DefAt K mg KW 37 d__law_band f37 _ := ⟨F37, PySem.W.mg_of X G a37, B37, fun n ks perm hm => by
    simp [KW] at hm⟩
  have F38 := fun_mk (st := d__law_paper.st) l38 c38 k38
  have B38 : Binds K _ d__law_paper.ps [] := F38.binds (ps := d__law_paper.ps) fun _ _ _ _ _ _ us hl => match us, hl with | [_], _ => rfl
  have A38 : DefAt K mg KW 38 d__law_paper f38 _ := ⟨F38, PySem.W.mg_of X G a38, B38, fun n ks perm hm => by
    simp [KW] at hm⟩
  have F39 := fun_mk (st := d__law_machine.st) l39 c39 k39
  have B39 : Binds K _ d__law_machine.ps [] := F39.binds (ps := d__law_machine.ps) fun _ _ _ _ _ _ us hl => match us, hl with | [_], _ => rfl
  have A39 : DefAt K mg KW 39 d__law_machine f39 _ := ⟨F39, PySem.W.mg_of X G a39, B39, fun n ks perm hm => by
    simp [KW] at hm⟩
  have F40 := fun_mk (st := d_law.st) l40 c40 k40
  have bn : ∀ n ∈ BN, mg n = none := by
    intro n hn
    simp only [BN, List.mem_cons, List.not_mem_nil, or_false] at hn
    rcases hn with rfl | rfl | rfl | rfl | rfl | rfl | rfl | rfl | rfl | rfl | rfl | rfl | rfl | rfl | rfl | rfl
    · exact PySem.W.mg_none_of X G z0
    · exact PySem.W.mg_none_of X G z1
    · exact PySem.W.mg_none_of X G z2
    · exact PySem.W.mg_none_of X G z3
    · exact PySem.W.mg_none_of X G z4
    · exact PySem.W.mg_none_of X G z5
    · exact PySem.W.mg_none_of X G z6
    · exact PySem.W.mg_none_of X G z7
    · exact PySem.W.mg_none_of X G z8
    · exact PySem.W.mg_none_of X G z9
    · exact PySem.W.mg_none_of X G z10
    · exact PySem.W.mg_none_of X G z11
    · exact PySem.W.mg_none_of X G z12
    · exact PySem.W.mg_none_of X G z13
    · exact PySem.W.mg_none_of X G z14
    · exact PySem.W.mg_none_of X G z15
  have at_ : ∀ i d, Ds[i]? = some d → ∃ a fd, DefAt K mg KW i d a fd := by
    intro i d hd
    cases i with
    | zero => cases hd; exact ⟨_, _, A0⟩
    | succ i =>
    cases i with
    | zero => cases hd; exact ⟨_, _, A1⟩
    | succ i =>
    cases i with
    | zero => cases hd; exact ⟨_, _, A2⟩
    | succ i =>
    cases i with
    | zero => cases hd; exact ⟨_, _, A3⟩
    | succ i =>
    cases i with
    | zero => cases hd; exact ⟨_, _, A4⟩
    | succ i =>
    cases i with
    | zero => cases hd; exact ⟨_, _, A5⟩
    | succ i =>
    cases i with
    | zero => cases hd; exact ⟨_, _, A6⟩
    | succ i =>
    cases i with
    | zero => cases hd; exact ⟨_, _, A7⟩
    | succ i =>
    cases i with
    | zero => cases hd; exact ⟨_, _, A8⟩
    | succ i =>
    cases i with
    | zero => cases hd; exact ⟨_, _, A9⟩
    | succ i =>
    cases i with
    | zero => cases hd; exact ⟨_, _, A10⟩
    | succ i =>
    cases i with
    | zero => cases hd; exact ⟨_, _, A11⟩
    | succ i =>
    cases i with
    | zero => cases hd; exact ⟨_, _, A12⟩
    | succ i =>
    cases i with
    | zero => cases hd; exact ⟨_, _, A13⟩
    | succ i =>
    cases i with
    | zero => cases hd; exact ⟨_, _, A14⟩
    | succ i =>
    cases i with
    | zero => cases hd; exact ⟨_, _, A15⟩
    | succ i =>
    cases i with
    | zero => cases hd; exact ⟨_, _, A16⟩
    | succ i =>
    cases i with
    | zero => cases hd; exact ⟨_, _, A17⟩
    | succ i =>
    cases i with
    | zero => cases hd; exact ⟨_, _, A18⟩
    | succ i =>
    cases i with
    | zero => cases hd; exact ⟨_, _, A19⟩
    | succ i =>
    cases i with
    | zero => cases hd; exact ⟨_, _, A20⟩
    | succ i =>
    cases i with
    | zero => cases hd; exact ⟨_, _, A21⟩
    | succ i =>
    cases i with
    | zero => cases hd; exact ⟨_, _, A22⟩
    | succ i =>
    cases i with
    | zero => cases hd; exact ⟨_, _, A23⟩
    | succ i =>
    cases i with
    | zero => cases hd; exact ⟨_, _, A24⟩
    | succ i =>
    cases i with
    | zero => cases hd; exact ⟨_, _, A25⟩
    | succ i =>
    cases i with
    | zero => cases hd; exact ⟨_, _, A26⟩
    | succ i =>
    cases i with
    | zero => cases hd; exact ⟨_, _, A27⟩
    | succ i =>
    cases i with
    | zero => cases hd; exact ⟨_, _, A28⟩
    | succ i =>
    cases i with
    | zero => cases hd; exact ⟨_, _, A29⟩
    | succ i =>
    cases i with
    | zero => cases hd; exact ⟨_, _, A30⟩
    | succ i =>
    cases i with
    | zero => cases hd; exact ⟨_, _, A31⟩
    | succ i =>
    cases i with
    | zero => cases hd; exact ⟨_, _, A32⟩
    | succ i =>
    cases i with
    | zero => cases hd; exact ⟨_, _, A33⟩
    | succ i =>
    cases i with
    | zero => cases hd; exact ⟨_, _, A34⟩
    | succ i =>
    cases i with
    | zero => cases hd; exact ⟨_, _, A35⟩
    | succ i =>
    cases i with
    | zero => cases hd; exact ⟨_, _, A36⟩
    | succ i =>
    cases i with
    | zero => cases hd; exact ⟨_, _, A37⟩
    | succ i =>
    cases i with
    | zero => cases hd; exact ⟨_, _, A38⟩
    | succ i =>
    cases i with
    | zero => cases hd; exact ⟨_, _, A39⟩
    | succ i =>
    cases hd
  refine ⟨PySem.W.fnOf "law" "law" (defArgs d_law.st) (defBody d_law.st) (defScope d_law.st) .none kV40 dc40 pm40 an40 cd40 ct40, fun s v => .of_eq rfl, fun base _ _ => law_ok F40 law_okB rfl (k := LV) ⟨rfl, by decide, by decide⟩ bn (fun _ => by contradiction) (fun f x hx => ?_) law_len law_body⟩
  rw [List.getElem?_map] at hx
  cases e : Ds[f]? with
  | none => rw [e] at hx; cases hx
  | some d' =>
    rw [e] at hx
    cases hx
    obtain ⟨a', fd', F'⟩ := at_ f d' e
    exact ⟨a', fd', d'.ps, F'.at_, F'.fn.kp, all_ok' ds_ok bn (fun _ => by contradiction) at_ T_zero T_len T_body LV f d' a' fd' e F', F'.bi, F'.kb⟩
end K68
open PySem PySem.W PyProof.Rows
set_option maxHeartbeats 0 in
theorem PySem.Challenge.cw_wholelines_k68_whole_texts_shown_holds : PySem.Challenge.rw_wholelines_k68_whole_texts_shown.Holds := by
  w_on; o_law; k_head; (case hw => w_witness2)
  k_fill
  refine Rf.walk_claim (l := PySem.Challenge.rw_wholelines_k68_whole_texts_shown) (n := 63) (x := "script") (sp := fun w => Rf.lift _ K68.law_spec) rfl (by decide) rfl (fun w h Y => PySem.W.kIn_of Y) ?F (fun _ _ a ns hl hb hS => Rf.law_start (K68.law_told ns hl hb) hS)
  case F =>
    intro w mg fa h KX G hmg
    refine' K68.all_mk KX G hmg ?a0 ?l0 ?c0 ?k0 ?a1 ?l1 ?c1 ?k1 ?a2 ?l2 ?c2 ?k2 ?a3 ?l3 ?c3 ?k3 ?a4 ?l4 ?c4 ?k4 ?a5 ?l5 ?c5 ?k5 ?a6 ?l6 ?c6 ?k6 ?a7 ?l7 ?c7 ?k7 ?a8 ?l8 ?c8 ?k8 ?a9 ?l9 ?c9 ?k9 ?a10 ?l10 ?c10 ?k10 ?a11 ?l11 ?c11 ?k11 ?a12 ?l12 ?c12 ?k12 ?a13 ?l13 ?c13 ?k13 ?a14 ?l14 ?c14 ?k14 ?a15 ?l15 ?c15 ?k15 ?a16 ?l16 ?c16 ?k16 ?a17 ?l17 ?c17 ?k17 ?a18 ?l18 ?c18 ?k18 ?a19 ?l19 ?c19 ?k19 ?a20 ?l20 ?c20 ?k20 ?a21 ?l21 ?c21 ?k21 ?a22 ?l22 ?c22 ?k22 ?a23 ?l23 ?c23 ?k23 ?a24 ?l24 ?c24 ?k24 ?a25 ?l25 ?c25 ?k25 ?a26 ?l26 ?c26 ?k26 ?a27 ?l27 ?c27 ?k27 ?a28 ?l28 ?c28 ?k28 ?a29 ?l29 ?c29 ?k29 ?a30 ?l30 ?c30 ?k30 ?a31 ?l31 ?c31 ?k31 ?a32 ?l32 ?c32 ?k32 ?a33 ?l33 ?c33 ?k33 ?a34 ?l34 ?c34 ?k34 ?a35 ?l35 ?c35 ?k35 ?a36 ?l36 ?c36 ?k36 ?a37 ?l37 ?c37 ?k37 ?a38 ?l38 ?c38 ?k38 ?a39 ?l39 ?c39 ?k39 ?a40 ?l40 ?c40 ?k40 ?z0 ?z1 ?z2 ?z3 ?z4 ?z5 ?z6 ?z7 ?z8 ?z9 ?z10 ?z11 ?z12 ?z13 ?z14 ?z15
    (case a0 => k_is); (case l0 => k_is); (case c0 => k_is); (case k0 => k_is); (case a1 => k_is); (case l1 => k_is); (case c1 => k_is); (case k1 => k_is); (case a2 => k_is); (case l2 => k_is); (case c2 => k_is); (case k2 => k_is); (case a3 => k_is); (case l3 => k_is); (case c3 => k_is); (case k3 => k_is); (case a4 => k_is); (case l4 => k_is); (case c4 => k_is); (case k4 => k_is); (case a5 => k_is); (case l5 => k_is); (case c5 => k_is); (case k5 => k_is); (case a6 => k_is); (case l6 => k_is); (case c6 => k_is); (case k6 => k_is); (case a7 => k_is); (case l7 => k_is); (case c7 => k_is); (case k7 => k_is); (case a8 => k_is); (case l8 => k_is); (case c8 => k_is); (case k8 => k_is); (case a9 => k_is); (case l9 => k_is); (case c9 => k_is); (case k9 => k_is); (case a10 => k_is); (case l10 => k_is); (case c10 => k_is); (case k10 => k_is); (case a11 => k_is); (case l11 => k_is); (case c11 => k_is); (case k11 => k_is); (case a12 => k_is); (case l12 => k_is); (case c12 => k_is); (case k12 => k_is); (case a13 => k_is); (case l13 => k_is); (case c13 => k_is); (case k13 => k_is); (case a14 => k_is); (case l14 => k_is); (case c14 => k_is); (case k14 => k_is); (case a15 => k_is); (case l15 => k_is); (case c15 => k_is); (case k15 => k_is); (case a16 => k_is); (case l16 => k_is); (case c16 => k_is); (case k16 => k_is); (case a17 => k_is); (case l17 => k_is); (case c17 => k_is); (case k17 => k_is); (case a18 => k_is); (case l18 => k_is); (case c18 => k_is); (case k18 => k_is); (case a19 => k_is); (case l19 => k_is); (case c19 => k_is); (case k19 => k_is); (case a20 => k_is); (case l20 => k_is); (case c20 => k_is); (case k20 => k_is); (case a21 => k_is); (case l21 => k_is); (case c21 => k_is); (case k21 => k_is); (case a22 => k_is); (case l22 => k_is); (case c22 => k_is); (case k22 => k_is); (case a23 => k_is); (case l23 => k_is); (case c23 => k_is); (case k23 => k_is); (case a24 => k_is); (case l24 => k_is); (case c24 => k_is); (case k24 => k_is); (case a25 => k_is); (case l25 => k_is); (case c25 => k_is); (case k25 => k_is); (case a26 => k_is); (case l26 => k_is); (case c26 => k_is); (case k26 => k_is); (case a27 => k_is); (case l27 => k_is); (case c27 => k_is); (case k27 => k_is); (case a28 => k_is); (case l28 => k_is); (case c28 => k_is); (case k28 => k_is); (case a29 => k_is); (case l29 => k_is); (case c29 => k_is); (case k29 => k_is); (case a30 => k_is); (case l30 => k_is); (case c30 => k_is); (case k30 => k_is); (case a31 => k_is); (case l31 => k_is); (case c31 => k_is); (case k31 => k_is); (case a32 => k_is); (case l32 => k_is); (case c32 => k_is); (case k32 => k_is); (case a33 => k_is); (case l33 => k_is); (case c33 => k_is); (case k33 => k_is); (case a34 => k_is); (case l34 => k_is); (case c34 => k_is); (case k34 => k_is); (case a35 => k_is); (case l35 => k_is); (case c35 => k_is); (case k35 => k_is); (case a36 => k_is); (case l36 => k_is); (case c36 => k_is); (case k36 => k_is); (case a37 => k_is); (case l37 => k_is); (case c37 => k_is); (case k37 => k_is); (case a38 => k_is); (case l38 => k_is); (case c38 => k_is); (case k38 => k_is); (case a39 => k_is); (case l39 => k_is); (case c39 => k_is); (case k39 => k_is); (case a40 => k_is); (case l40 => k_is); (case c40 => k_is); (case k40 => k_is); (case z0 => k_is); (case z1 => k_is); (case z2 => k_is); (case z3 => k_is); (case z4 => k_is); (case z5 => k_is); (case z6 => k_is); (case z7 => k_is); (case z8 => k_is); (case z9 => k_is); (case z10 => k_is); (case z11 => k_is); (case z12 => k_is); (case z13 => k_is); (case z14 => k_is); (case z15 => k_is)

