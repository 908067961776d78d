import PyProof.Rows.All
import Wide.All
import OpenK.AllK
import Wide.FinOn
import HandS.ForMost
import HandS.Wide
import HandS.Gcd
import HandS.IsInst
import HandS.Style
import HandS.NoneIn
import PySem.Challenge.RW_wholelines_k00_fractions
set_option Elab.async false
set_option linter.all false
set_option maxRecDepth 100000
/-! Rf1: plain data, plain states, a small core language of expressions and statements, and what is wanted of them (weakest preconditions over plain data) -/
namespace Rf
open PySem L2

/-- plain data: what an immutable value is; a list that nobody changes; a cell of the state -/
inductive D where
  | non | bl (b : Bool) | int (i : Int) | str (s : Str) | ty (n : String)
  | tup (xs : List D) | lst (xs : List D) | scr (xs : List D) | cel (n : Nat)
  deriving Inhabited
/-- what a cell holds -/
inductive CO where
  | lst (xs : List D) | dK (kvs : List (Key × D))
abbrev Rho := List (Option D)
abbrev M := List CO
abbrev WQ := D → M → Prop
abbrev DSpec := List D → M → WQ → Prop
abbrev Tab := Nat → DSpec

mutual
def D.blw (n : Nat) : D → Bool
  | .tup xs => belowAll n xs
  | .lst xs => belowAll n xs
  | .scr xs => belowAll n xs
  | .cel k => decide (k < n)
  | _ => true
def belowAll (n : Nat) : List D → Bool
  | [] => true
  | x :: xs => x.blw n && belowAll n xs
end
def CO.blw (n : Nat) : CO → Bool
  | .lst xs => belowAll n xs
  | .dK kvs => belowAll n (kvs.map (·.2))
mutual
/-- the cells from n on written out -/
def D.frz (n : Nat) (μ : M) : D → Option D
  | .tup xs => (frzAll n μ xs).map D.tup
  | .lst xs => (frzAll n μ xs).map D.lst
  | .scr xs => if belowAll n xs then some (.scr xs) else none
  | .cel k => if k < n then some (.cel k) else match μ[k]? with
    | some (.lst xs) => if belowAll n xs then some (.lst xs) else none
    | _ => none
  | .non => some .non | .bl b => some (.bl b) | .int i => some (.int i) | .str s => some (.str s) | .ty m => some (.ty m)
def frzAll (n : Nat) (μ : M) : List D → Option (List D)
  | [] => some []
  | x :: xs => match x.frz n μ, frzAll n μ xs with
    | some y, some ys => some (y :: ys)
    | _, _ => none
end

/-! ### operations -/
def newL (xs : List D) (μ : M) (Q : WQ) : Prop := xs.length ≤ sizeLine ∧ (Q (.lst xs) μ ∨ Q (.cel μ.length) (μ ++ [.lst xs]))
/-- the items of a list (a display, a cell) -/
def asL (μ : M) : D → Option (List D)
  | .lst xs => some xs
  | .cel n => match μ[n]? with
    | some (.lst xs) => some xs
    | _ => none
  | _ => none
/-- .. or of any list that is read -/
def asR (μ : M) : D → Option (List D)
  | .scr xs => some xs
  | d => asL μ d
/-- .. or of a tuple -/
def asSq (μ : M) : D → Option (List D)
  | .tup xs => some xs
  | d => asR μ d

def opAdd (x y : D) (μ : M) (Q : WQ) : Prop := match x with
  | .int i => match y with
    | .int j => Q (.int (i + j)) μ
    | _ => False
  | .str a => match y with
    | .str b => a.length + b.length ≤ sizeLine ∧ Q (.str (a ++ b)) μ
    | _ => False
  | .tup xs => match y with
    | .tup ys => xs ≠ [] ∧ xs.length + ys.length ≤ sizeLine ∧ Q (.tup (xs ++ ys)) μ
    | _ => False
  | x => ∃ xs ys, asL μ x = some xs ∧ asL μ y = some ys ∧ newL (xs ++ ys) μ Q
def opI (C : Int → Int → Prop) (g : Int → Int → Int) (x y : D) (μ : M) (Q : WQ) : Prop := match x with
  | .int i => match y with
    | .int j => C i j ∧ Q (.int (g i j)) μ
    | _ => False
  | _ => False
def opBin : Operator → D → D → M → WQ → Prop
  | .Add => opAdd
  | .Sub => opI (fun _ _ => True) fun i j => i - j
  | .Mult => opI (fun i j => CMul i j ∨ CMulW i j) fun i j => i * j
  | .FloorDiv => opI CDivW fun i j => i / j
  | .Mod => opI (fun _ j => 0 < j) fun i j => i % j
  | .Pow => opI CPow fun i j => i ^ j.toNat
  | .LShift => opI CPow fun i j => i * 2 ^ j.toNat
  | .RShift => opI (fun _ j => 0 ≤ j) fun i j => i / 2 ^ j.toNat
  | _ => fun _ _ _ _ => False

mutual
def toP : D → Option PyData
  | .non => some .none
  | .bl b => some (.bool b)
  | .int i => some (.int i)
  | .str s => some (.str s)
  | .tup xs => (toPs xs).map PyData.tuple
  | .lst xs => (toPs xs).map PyData.list
  | .scr _ => none
  | .ty _ => none
  | .cel _ => none
def toPs : List D → Option (List PyData)
  | [] => some []
  | x :: xs => match toP x, toPs xs with
    | some y, some ys => some (y :: ys)
    | _, _ => none
end
def toPm (μ : M) : D → Option PyData
  | .cel n => match μ[n]? with
    | some (.lst xs) => (toPs xs).map PyData.list
    | _ => none
  | d => toP d
/-- == of data -/
def eqD (μ : M) (x y : D) : Option Bool := match toPm μ x, toPm μ y with
  | some a, some b => if SeqAt.shaped a && SeqAt.shaped b then some (PyData.eqv a b) else none
  | _, _ => none
def cmpI (g : Int → Int → Bool) (x y : D) : Option Bool := match x with
  | .int i => match y with
    | .int j => some (g i j)
    | _ => none
  | _ => none
def isD (x y : D) : Option Bool := match y with
  | .non => some (match x with | .non => true | _ => false)
  | .bl b => match x with
    | .bl a => some (decide (a = b))
    | _ => none
  | _ => none
def keyD : D → Option Key
  | .int i => some (.inl i)
  | .str s => some (.inr s)
  | _ => none
def dget (kvs : List (Key × D)) (k : Key) : Option D := (kvs.find? fun kv => decide (kv.1 = k)).map (·.2)
def dput (kvs : List (Key × D)) (k : Key) (v : D) : List (Key × D) :=
  if kvs.any (fun kv => decide (kv.1 = k)) then kvs.map (fun kv => if kv.1 = k then (kv.1, v) else kv) else kvs ++ [(k, v)]
def dmerge (kvs more : List (Key × D)) : List (Key × D) := more.foldl (fun acc kv => dput acc kv.1 kv.2) kvs
/-- the flat value that stands for it -/
def flat : D → Option V
  | .non => some .non
  | .bl b => some (.bl b)
  | .int i => some (.int i)
  | .str s => some (.str s)
  | _ => none
def flats : List D → Option (List V)
  | [] => some []
  | x :: xs => match flat x, flats xs with
    | some y, some ys => some (y :: ys)
    | _, _ => none
def inD (μ : M) (x y : D) : Option Bool := match y with
  | .cel n => match μ[n]? with
    | some (.lst xs) => match flat x, flats xs with
      | some v, some vs => if flatV v && vs.all flatV then some (inV v vs) else none
      | _, _ => none
    | some (.dK kvs) => (keyD x).map fun k => (dget kvs k).isSome
    | _ => none
  | y => match asSq μ y with
    | some xs => match flat x, flats xs with
      | some v, some vs => if flatV v && vs.all flatV then some (inV v vs) else none
      | _, _ => none
    | none => none
def opCmp : CmpOp → M → D → D → Option Bool
  | .Eq => eqD
  | .NotEq => fun μ x y => (eqD μ x y).map (!·)
  | .Lt => fun _ => cmpI fun i j => decide (i < j)
  | .LtE => fun _ => cmpI fun i j => decide (i ≤ j)
  | .Gt => fun _ => cmpI fun i j => decide (j < i)
  | .GtE => fun _ => cmpI fun i j => decide (j ≤ i)
  | .Is => fun _ => isD
  | .IsNot => fun _ x y => (isD x y).map (!·)
  | .In => inD
  | .NotIn => fun μ x y => (inD μ x y).map (!·)
def opIxSq (x y : D) (μ : M) (Q : WQ) : Prop := match asSq μ x, y with
  | some xs, .int i => match atI xs i with
    | some d => Q d μ
    | none => False
  | _, _ => False
def opIdx (x y : D) (μ : M) (Q : WQ) : Prop := match x with
  | .str z => match y with
    | .int i => match atI z.cps.toList i with
      | some c => z.length ≤ sizeLine ∧ Q (.str ⟨#[c]⟩) μ
      | none => False
    | _ => False
  | .cel n => match μ[n]? with
    | some (.lst xs) => match y with
      | .int i => match atI xs i with
        | some d => Q d μ
        | none => False
      | _ => False
    | some (.dK kvs) => match keyD y with
      | some k => match dget kvs k with
        | some d => Q d μ
        | none => False
      | none => False
    | none => False
  | x => opIxSq x y μ Q
/-- .. of a cell -/
def opIdxC (x y : D) (μ : M) (Q : WQ) : Prop := match x with
  | .cel n => opIdx (.cel n) y μ Q
  | _ => False
def cutD (xs : List D) (lo hi : Option Int) : List D := (xs.drop (HT.sIx xs.length 0 lo)).take (HT.sIx xs.length xs.length hi - HT.sIx xs.length 0 lo)
def opSlc (x : D) (lo hi : Option Int) (μ : M) (Q : WQ) : Prop := match x with
  | .tup xs => ¬ (HT.sIx xs.length 0 lo = 0 ∧ HT.sIx xs.length xs.length hi = xs.length) ∧ Q (.tup (cutD xs lo hi)) μ
  | x => match asR μ x with
    | some xs => newL (cutD xs lo hi) μ Q
    | none => False
/-- a value's truth -/
def truD (μ : M) : D → Option Bool
  | .non => some false
  | .bl b => some b
  | .int i => some (i != 0)
  | .str s => if s.length ≤ sizeLine then some ((s.length : Int) != 0) else none
  | .ty _ => none
  | .tup xs => some (!xs.isEmpty)
  | .lst xs => some (!xs.isEmpty)
  | .scr xs => some (!xs.isEmpty)
  | .cel n => match μ[n]? with
    | some (.lst xs) => some (!xs.isEmpty)
    | some (.dK kvs) => some (!kvs.isEmpty)
    | none => none

/-! ### built-in functions -/
inductive BI where
  | len | abs | int | isi | all | any | tuple | list | gcd | max2 | min2
  deriving DecidableEq
def tyD (μ : M) : D → Option String
  | .non => some "NoneType"
  | .bl _ => some "bool"
  | .int _ => some "int"
  | .str _ => some "str"
  | .ty _ => none
  | .tup _ => some "tuple"
  | .lst _ => some "list"
  | .scr _ => none
  | .cel n => match μ[n]? with
    | some (.lst _) => some "list"
    | some (.dK _) => some "dict"
    | none => none
def kitsB (a : String) : List D → Option Bool
  | [] => some false
  | .ty b :: r => match kitB a b, kitsB a r with
    | some true, some _ => some true
    | some false, some k => some k
    | _, _ => none
  | _ :: _ => none
def isiD (μ : M) (x : D) : D → Option Bool
  | .ty b => match tyD μ x with
    | some a => kitB a b
    | none => none
  | .tup cs => match tyD μ x with
    | some a => kitsB a cs
    | none => none
  | _ => none
def blsD : List D → Option (List Bool)
  | [] => some []
  | .bl b :: r => (blsD r).map (b :: ·)
  | _ :: _ => none
def lenD (μ : M) : D → Option Nat
  | .str s => if s.length ≤ sizeLine then some s.length else none
  | .cel n => match μ[n]? with
    | some (.lst xs) => some xs.length
    | some (.dK kvs) => some kvs.length
    | none => none
  | d => (asSq μ d).map (·.length)
def opBlt : BI → List D → M → WQ → Prop
  | .len, [d], μ, Q => match lenD μ d with
    | some n => Q (.int n) μ
    | none => False
  | .abs, [.int i], μ, Q => Q (.int (if i < 0 then -i else i)) μ
  | .int, [.int i], μ, Q => Q (.int i) μ
  | .int, [.bl b], μ, Q => Q (.int (if b then 1 else 0)) μ
  | .isi, [x, t], μ, Q => match isiD μ x t with
    | some b => Q (.bl b) μ
    | none => False
  | .all, [d], μ, Q => match (asL μ d).bind blsD with
    | some bs => Q (.bl (bs.all id)) μ
    | none => False
  | .any, [d], μ, Q => match (asL μ d).bind blsD with
    | some bs => Q (.bl (bs.any id)) μ
    | none => False
  | .tuple, [d], μ, Q => match d with
    | .tup xs => Q (.tup xs) μ
    | d => match asR μ d with
      | some xs => Q (.tup xs) μ
      | none => False
  | .list, [d], μ, Q => match asSq μ d with
    | some xs => newL xs μ Q
    | none => False
  | .gcd, [.int i, .int j], μ, Q => Q (.int ((Nat.gcd i.natAbs j.natAbs : Nat) : Int)) μ
  | .max2, [.int i, .int j], μ, Q => Q (.int (if j > i then j else i)) μ
  | .min2, [.int i, .int j], μ, Q => Q (.int (if j < i then j else i)) μ
  | _, _, _, _ => False
inductive MI where
  | append | extend | pop
  deriving DecidableEq
/-- a list that may be changed -/
def mOk (μ : M) : D → Bool
  | .cel n => match μ[n]? with
    | some (.lst _) => true
    | _ => false
  | _ => false
def opMth : MI → D → List D → M → WQ → Prop
  | .append, .cel n, [d], μ, Q => match μ[n]? with
    | some (.lst xs) => xs.length < sizeLine ∧ Q .non (μ.set n (.lst (xs ++ [d])))
    | _ => False
  | .pop, .cel n, [], μ, Q => match μ[n]? with
    | some (.lst xs) => match xs[xs.length - 1]? with
      | some d => Q d (μ.set n (.lst xs.dropLast))
      | none => False
    | _ => False
  | .extend, .cel n, [d], μ, Q => match μ[n]? with
    | some (.lst xs) => match d with
      | .cel _ => False
      | d => match asL μ d with
        | some ys => xs.length + ys.length ≤ sizeLine ∧ Q .non (μ.set n (.lst (xs ++ ys)))
        | none => False
    | _ => False
  | _, _, _, _, _ => False
/-- o[i] = v -/
def opPut (o i v : D) (μ : M) (Q : M → Prop) : Prop := match o with
  | .cel n => match μ[n]? with
    | some (.lst xs) => match i with
      | .int k => match ixN xs.length k with
        | some j => Q (μ.set n (.lst (xs.set j v)))
        | none => False
      | _ => False
    | some (.dK kvs) => match keyD i with
      | some k => kvs.length < sizeLine ∧ Q (μ.set n (.dK (dput kvs k v)))
      | none => False
    | none => False
  | _ => False

/-! ### the core language -/
inductive CT where
  | nm (i : Nat) | tp (is : List Nat)
mutual
inductive CE where
  | var (i : Nat)
  | cst (d : D)
  | typ (n : String)
  | bin (op : Operator) (a b : CE)
  | neg (a : CE)
  | not (a : CE)
  | cmp (op : CmpOp) (a b : CE)
  | chn (o p : CmpOp) (a b c : CE)
  | and (a b : CE)
  | or (a b : CE)
  | ife (c a b : CE)
  | tup (es : CEs)
  | lst (es : CEs)
  | dct (kvs : CPs)
  | idx (a b : CE)
  | slc (a : CE) (lo hi : CEs)
  | cal (f : Nat) (es : CEs)
  | cak (f : Nat) (es : CEs) (ks : List Str) (kes : CEs) (perm : List Nat) (n : Nat)
  | blt (b : BI) (es : CEs)
  | mth (m : MI) (o : CE) (es : CEs)
  | lc (tg : CT) (it : CI) (ifs : CEs) (elt : CE) (own : List Nat)
inductive CI where
  | sq (e : CE)
  | r1 (a : CE)
  | r2 (a b : CE)
  | zp (a b : CE)
inductive CEs where
  | nil
  | cons (e : CE) (r : CEs)
inductive CPs where
  | nil
  | cons (k v : CE) (r : CPs)
end
mutual
inductive CS where
  | set (i : Nat) (e : CE)
  | unp (is : List Nat) (e : CE)
  | par (i j : Nat) (a b : CE)
  | put (o i e : CE)
  | augV (i : Nat) (op : Operator) (e : CE)
  | augI (o i : CE) (op : Operator) (e : CE)
  | drop (e : CE)
  | ret (e : CE)
  | retN
  | iff (c : CE) (a b : CSs)
  | whl (c : CE) (b : CSs)
  | for (tg : CT) (it : CI) (b : CSs)
  | brk | cnt | pass
  | dead
inductive CSs where
  | nil
  | cons (s : CS) (r : CSs)
end

/-! ### what is wanted -/
/-- positional values and keywords' values in the parameters' order -/
def permD (perm : List Nat) (n m : Nat) (ds zs : List D) : List D := if ds.length = n ∧ zs.length = m then perm.map fun i => (ds ++ zs).getD i .non else []
def getV (ρ : Rho) (i : Nat) : Option D := match ρ[i]? with
  | some (some d) => some d
  | _ => none
def wipeD (ρ : Rho) : List Nat → Rho
  | [] => ρ
  | j :: js => (wipeD ρ js).set j none
/-- names bound one after another -/
def setsD : List Nat → List D → Rho → Option Rho
  | [], [], ρ => some ρ
  | i :: is, d :: ds, ρ => setsD is ds (ρ.set i (some d))
  | _, _, _ => none
def bindT (μ : M) : CT → D → Rho → Option Rho
  | .nm i, d, ρ => some (ρ.set i (some d))
  | .tp is, .tup ds, ρ => setsD is ds ρ
  | .tp _, _, _ => none
def CT.slots : CT → List Nat
  | .nm i => [i]
  | .tp is => is
/-- what a loop walks: where it stands (a cell that must stay), the items -/
structure Src where
  at_ : Option Nat
  items : List D
def Src.ok (s : Src) (μ : M) : Prop := ∀ n, s.at_ = some n → μ[n]? = some (.lst s.items)
def rangeD (lo : Int) (n : Nat) : List D := (List.range n).map fun (i : Nat) => D.int (lo + (i : Int))
def bnd (i : Int) : Prop := -(2 ^ 62) ≤ i ∧ i < 2 ^ 62
def srcOf (μ : M) : D → Option Src
  | .cel n => match μ[n]? with
    | some (.lst xs) => some ⟨some n, xs⟩
    | _ => none
  | d => (asSq μ d).map fun xs => ⟨none, xs⟩
abbrev WE := Rho → M → WQ → Prop
abbrev WT := Rho → M → (Bool → M → Prop) → Prop
abbrev WA := Rho → M → (List D → M → Prop) → Prop
abbrev WI := Rho → M → (Src → M → Prop) → Prop
/-- a value as a test -/
def ofE (w : WE) : WT := fun ρ μ Q => w ρ μ fun d μ1 => match truD μ1 d with
  | some k => Q k μ1
  | none => False
def wLc (tg : CT) (ifs : WT) (elt : WE) (own : List Nat) (s : Src) (ρ : Rho) (μ : M) (Q : WQ) : Prop :=
  ∃ P : Nat → List D → M → Prop, P 0 [] μ ∧ (∀ i acc μ', P i acc μ' → i ≤ s.items.length → s.ok μ') ∧
    (∀ i x acc μ', s.items[i]? = some x → P i acc μ' → ∃ ρ2, bindT μ' tg x (wipeD ρ own) = some ρ2 ∧ ifs ρ2 μ' fun b μ2 =>
      if b = true then elt ρ2 μ2 fun y μ3 => acc.length < sizeLine ∧ P (i + 1) (acc ++ [y]) μ3 else P (i + 1) acc μ2) ∧
    ∀ acc μ', P s.items.length acc μ' → newL acc μ' Q
def wCmp (op : CmpOp) (x y : D) (μ : M) (Q : Bool → Prop) : Prop := match opCmp op μ x y with
  | some k => Q k
  | none => False
mutual
def wE (Γ : Tab) : CE → WE
  | .var i => fun ρ μ Q => match getV ρ i with
    | some d => Q d μ
    | none => False
  | .cst d => fun _ μ Q => Q d μ
  | .typ n => fun _ μ Q => Q (.ty n) μ
  | .bin op a b => fun ρ μ Q => wE Γ a ρ μ fun x μ1 => wE Γ b ρ μ1 fun y μ2 => opBin op x y μ2 Q
  | .neg a => fun ρ μ Q => wE Γ a ρ μ fun x μ1 => match x with
    | .int i => Q (.int (-i)) μ1
    | _ => False
  | .not a => fun ρ μ Q => wE Γ a ρ μ fun x μ1 => match x with
    | .bl b => Q (.bl (!b)) μ1
    | _ => False
  | .cmp op a b => fun ρ μ Q => wE Γ a ρ μ fun x μ1 => wE Γ b ρ μ1 fun y μ2 => wCmp op x y μ2 fun k => Q (.bl k) μ2
  | .chn o p a b c => fun ρ μ Q => wE Γ a ρ μ fun x μ1 => wE Γ b ρ μ1 fun y μ2 => wCmp o x y μ2 fun k =>
      if k = true then wE Γ c ρ μ2 fun z μ3 => wCmp p y z μ3 fun k2 => Q (.bl k2) μ3 else Q (.bl false) μ2
  | .and a b => fun ρ μ Q => wE Γ a ρ μ fun x μ1 => match x with
    | .bl k => if k = true then wE Γ b ρ μ1 Q else Q (.bl false) μ1
    | _ => False
  | .or a b => fun ρ μ Q => wE Γ a ρ μ fun x μ1 => match x with
    | .bl k => if k = true then Q (.bl true) μ1 else wE Γ b ρ μ1 Q
    | _ => False
  | .ife c a b => fun ρ μ Q => wT Γ c ρ μ fun k μ1 => if k = true then wE Γ a ρ μ1 Q else wE Γ b ρ μ1 Q
  | .tup es => fun ρ μ Q => wEs Γ es ρ μ fun ds μ1 => ds.length ≤ sizeLine ∧ Q (.tup ds) μ1
  | .lst es => fun ρ μ Q => wEs Γ es ρ μ fun ds μ1 => newL ds μ1 Q
  | .dct ps => fun ρ μ Q => wPr Γ ps ρ μ fun kvs μ1 => kvs.length ≤ 15 ∧ kvs ≠ [] ∧ Q (.cel μ1.length) (μ1 ++ [.dK (dmerge [] kvs)])
  | .idx a b => fun ρ μ Q => wE Γ a ρ μ fun x μ1 => wE Γ b ρ μ1 fun y μ2 => opIdx x y μ2 Q
  | .slc a lo hi => fun ρ μ Q => wE Γ a ρ μ fun x μ1 => wO Γ lo ρ μ1 fun l μ2 => wO Γ hi ρ μ2 fun h μ3 => opSlc x l h μ3 Q
  | .cal f es => fun ρ μ Q => wEs Γ es ρ μ fun ds μ1 => Γ f ds μ1 Q
  | .cak f es ks kes perm n => fun ρ μ Q => wEs Γ es ρ μ fun ds μ1 => wEs Γ kes ρ μ1 fun zs μ2 => Γ f (permD perm n ks.length ds zs) μ2 Q
  | .blt b es => fun ρ μ Q => wEs Γ es ρ μ fun ds μ1 => opBlt b ds μ1 Q
  | .mth m o es => fun ρ μ Q => wE Γ o ρ μ fun d μ1 => mOk μ1 d = true ∧ wEs Γ es ρ μ1 fun ds μ2 => opMth m d ds μ2 Q
  | .lc tg it ifs elt own => fun ρ μ Q => wI Γ it ρ μ fun s μ1 => wLc tg (wF Γ ifs) (wE Γ elt) own s ρ μ1 Q
def wT (Γ : Tab) : CE → WT
  | .not a => fun ρ μ Q => wT Γ a ρ μ fun k μ1 => Q (!k) μ1
  | .and a b => fun ρ μ Q => wT Γ a ρ μ fun k μ1 => if k = true then wT Γ b ρ μ1 Q else Q false μ1
  | .or a b => fun ρ μ Q => wT Γ a ρ μ fun k μ1 => if k = true then Q true μ1 else wT Γ b ρ μ1 Q
  | .var i => ofE fun ρ μ Q => match getV ρ i with
    | some d => Q d μ
    | none => False
  | .cst d => ofE fun _ μ Q => Q d μ
  | .cmp op a b => fun ρ μ Q => wE Γ a ρ μ fun x μ1 => wE Γ b ρ μ1 fun y μ2 => wCmp op x y μ2 fun k => Q k μ2
  | .chn o p a b c => fun ρ μ Q => wE Γ a ρ μ fun x μ1 => wE Γ b ρ μ1 fun y μ2 => wCmp o x y μ2 fun k =>
      if k = true then wE Γ c ρ μ2 fun z μ3 => wCmp p y z μ3 fun k2 => Q k2 μ3 else Q false μ2
  | .idx a b => ofE fun ρ μ Q => wE Γ a ρ μ fun x μ1 => wE Γ b ρ μ1 fun y μ2 => opIdx x y μ2 Q
  | .cal f es => ofE fun ρ μ Q => wEs Γ es ρ μ fun ds μ1 => Γ f ds μ1 Q
  | .cak f es ks kes perm n => ofE fun ρ μ Q => wEs Γ es ρ μ fun ds μ1 => wEs Γ kes ρ μ1 fun zs μ2 => Γ f (permD perm n ks.length ds zs) μ2 Q
  | .blt b es => ofE fun ρ μ Q => wEs Γ es ρ μ fun ds μ1 => opBlt b ds μ1 Q
  | _ => fun _ _ _ => False
def wEs (Γ : Tab) : CEs → WA
  | .nil => fun _ μ Q => Q [] μ
  | .cons e r => fun ρ μ Q => wE Γ e ρ μ fun d μ1 => wEs Γ r ρ μ1 fun ds μ2 => Q (d :: ds) μ2
def wPr (Γ : Tab) : CPs → Rho → M → (List (Key × D) → M → Prop) → Prop
  | .nil => fun _ μ Q => Q [] μ
  | .cons k v r => fun ρ μ Q => wE Γ k ρ μ fun x μ1 => wE Γ v ρ μ1 fun d μ2 => match keyD x with
    | some key => wPr Γ r ρ μ2 fun kvs μ3 => Q ((key, d) :: kvs) μ3
    | none => False
def wO (Γ : Tab) : CEs → Rho → M → (Option Int → M → Prop) → Prop
  | .nil => fun _ μ Q => Q none μ
  | .cons e .nil => fun ρ μ Q => wE Γ e ρ μ fun d μ1 => match d with
    | .int i => Q (some i) μ1
    | _ => False
  | .cons _ (.cons _ _) => fun _ _ _ => False
/-- a comprehension's tests: none, or one -/
def wF (Γ : Tab) : CEs → WT
  | .nil => fun _ μ Q => Q true μ
  | .cons c .nil => wT Γ c
  | .cons _ (.cons _ _) => fun _ _ _ => False
def wI (Γ : Tab) : CI → WI
  | .sq e => fun ρ μ Q => wE Γ e ρ μ fun d μ1 => match srcOf μ1 d with
    | some s => Q s μ1
    | none => False
  | .r1 a => fun ρ μ Q => wE Γ a ρ μ fun d μ1 => match d with
    | .int j => bnd j ∧ Q ⟨none, rangeD 0 j.toNat⟩ μ1
    | _ => False
  | .r2 a b => fun ρ μ Q => wE Γ a ρ μ fun d μ1 => wE Γ b ρ μ1 fun e μ2 => match d with
    | .int i => match e with
      | .int j => bnd i ∧ bnd j ∧ Q ⟨none, rangeD i (j - i).toNat⟩ μ2
      | _ => False
    | _ => False
  | .zp _ _ => fun _ _ _ => False
end

structure DEnds where
  nx : Rho → M → Prop
  rt : D → M → Prop
  bk : Rho → M → Prop := fun _ _ => False
  ct : Rho → M → Prop := fun _ _ => False
mutual
def wS (Γ : Tab) : CS → DEnds → Rho → M → Prop
  | .set i e => fun E ρ μ => wE Γ e ρ μ fun d μ1 => E.nx (ρ.set i (some d)) μ1
  | .unp is e => fun E ρ μ => wE Γ e ρ μ fun d μ1 => match d with
    | .tup ds => match setsD is ds ρ with
      | some ρ2 => E.nx ρ2 μ1
      | none => False
    | d => match asL μ1 d with
      | some ds => match setsD is ds ρ with
        | some ρ2 => E.nx ρ2 μ1
        | none => False
      | none => False
  | .par i j a b => fun E ρ μ => wE Γ a ρ μ fun x μ1 => wE Γ b ρ μ1 fun y μ2 => E.nx ((ρ.set i (some x)).set j (some y)) μ2
  | .put o i e => fun E ρ μ => wE Γ e ρ μ fun v μ1 => wE Γ o ρ μ1 fun x μ2 => wE Γ i ρ μ2 fun y μ3 => opPut x y v μ3 fun μ4 => E.nx ρ μ4
  | .augV i op e => fun E ρ μ => match getV ρ i with
    | some x => wE Γ e ρ μ fun y μ1 => match x, y with
      | .int a, .int b => opBin op (.int a) (.int b) μ1 fun z μ2 => E.nx (ρ.set i (some z)) μ2
      | _, _ => False
    | none => False
  | .augI o i op e => fun E ρ μ => wE Γ o ρ μ fun x μ1 => wE Γ i ρ μ1 fun y μ2 => opIdxC x y μ2 fun old μ3 => wE Γ e ρ μ3 fun z μ4 => match old, z with
      | .int a, .int b => opBin op (.int a) (.int b) μ4 fun r μ5 => opPut x y r μ5 fun μ6 => E.nx ρ μ6
      | _, _ => False
  | .drop e => fun E ρ μ => wE Γ e ρ μ fun _ μ1 => E.nx ρ μ1
  | .ret e => fun E ρ μ => wE Γ e ρ μ E.rt
  | .retN => fun E _ μ => E.rt .non μ
  | .iff c a b => fun E ρ μ => wT Γ c ρ μ fun k μ1 => if k = true then wSs Γ a E ρ μ1 else wSs Γ b E ρ μ1
  | .whl c b => fun E ρ μ => ∃ W : Nat → Rho → M → Prop, (∃ m, W m ρ μ) ∧ ∀ m ρ' μ', W m ρ' μ' → wT Γ c ρ' μ' fun k μ1 =>
      if k = true then wSs Γ b { E with nx := fun ρ2 μ2 => ∃ m', m' < m ∧ W m' ρ2 μ2, ct := fun ρ2 μ2 => ∃ m', m' < m ∧ W m' ρ2 μ2, bk := E.nx } ρ' μ1 else E.nx ρ' μ1
  | .for tg it b => fun E ρ μ => wI Γ it ρ μ fun s μ1 => ∃ P : Nat → Rho → M → Prop, P 0 ρ μ1 ∧ (∀ i ρ' μ', P i ρ' μ' → i ≤ s.items.length → s.ok μ') ∧
      (∀ i x ρ' μ', s.items[i]? = some x → P i ρ' μ' → ∃ ρ2, bindT μ' tg x ρ' = some ρ2 ∧ wSs Γ b { E with nx := P (i + 1), ct := P (i + 1), bk := E.nx } ρ2 μ') ∧
      ∀ ρ' μ', P s.items.length ρ' μ' → E.nx ρ' μ'
  | .brk => fun E ρ μ => E.bk ρ μ
  | .cnt => fun E ρ μ => E.ct ρ μ
  | .pass => fun E ρ μ => E.nx ρ μ
  | .dead => fun _ _ _ => False
def wSs (Γ : Tab) : CSs → DEnds → Rho → M → Prop
  | .nil => fun E ρ μ => E.nx ρ μ
  | .cons s r => fun E ρ μ => wS Γ s { E with nx := fun ρ1 μ1 => wSs Γ r E ρ1 μ1 } ρ μ
end
/-- what leaves a def: as it is, or with its own cells written out -/
def rtD (μ0 : M) (Q : WQ) : WQ := fun d μ => Q d μ ∨ ∃ d', d.frz μ0.length μ = some d' ∧ (∀ i c, i < μ0.length → μ[i]? = some c → (μ0[i]? = some c ∨ c.blw μ0.length = true)) ∧ Q d' (μ.take μ0.length)
def startD (n : Nat) (ds : List D) : Rho := ds.map some ++ List.replicate (n - ds.length) none
/-- a def of n names: its body reaches what is wanted -/
def wDef (Γ : Tab) (n : Nat) (body : CSs) (ds : List D) (μ : M) (Q : WQ) : Prop :=
  wSs Γ body { nx := fun _ μ' => rtD μ Q .non μ', rt := rtD μ Q } (startD n ds) μ
end Rf

set_option Elab.async false
set_option linter.all false
set_option maxRecDepth 100000
/-! Rf2: how plain data stands in the layer's abstract heap -/
namespace Rf
open PySem L2 PySem.Spec PyProof.Rows

/-- a tuple that stands: tracked and no cell, or the module's -/
def FzT (K : PySem.W.Frag) (H : Hp) (Z B : List Addr) (a : Addr) (vs : List V) : Prop :=
  (H a = some (.tup vs) ∧ a ∉ Z ∧ a ∉ B) ∨ ∃ (o : Obj) (its : Array Value) (n : Nat), K.lookup a = some o ∧ o.cls = .type "tuple" ∧ o.data = .seq its n ∧ its.size ≤ sizeLine ∧ Vals vs its.toList
/-- a list that is only read -/
def FzS (K : PySem.W.Frag) (H : Hp) (Z B : List Addr) (a : Addr) (vs : List V) : Prop :=
  (Rd H a (.lst vs) ∧ a ∉ Z ∧ a ∉ B) ∨ ∃ (o : Obj) (its : Array Value) (n : Nat), K.lookup a = some o ∧ o.cls = .type "list" ∧ o.dict = none ∧ o.data = .seq its n ∧ its.size ≤ sizeLine ∧ Vals vs its.toList

mutual
inductive RD (K : PySem.W.Frag) (H : Hp) (Z B : List Addr) : D → V → Prop
  | non : RD K H Z B .non .non
  | bl (b : Bool) : RD K H Z B (.bl b) (.bl b)
  | int (i : Int) : RD K H Z B (.int i) (.int i)
  | str (s : Str) : RD K H Z B (.str s) (.str s)
  | ty (n : String) : RD K H Z B (.ty n) (.ty n)
  | tup {a : Addr} {vs : List V} {ds : List D} : FzT K H Z B a vs → RDs K H Z B ds vs → RD K H Z B (.tup ds) (.ref a)
  | lst {a : Addr} {vs : List V} {ds : List D} : H a = some (.lst vs) → a ∉ Z → a ∉ B → RDs K H Z B ds vs → RD K H Z B (.lst ds) (.ref a)
  | scr {a : Addr} {vs : List V} {ds : List D} : FzS K H Z B a vs → RDs K H Z B ds vs → RD K H Z B (.scr ds) (.ref a)
  | cel {n : Nat} {a : Addr} : Z[n]? = some a → RD K H Z B (.cel n) (.ref a)
inductive RDs (K : PySem.W.Frag) (H : Hp) (Z B : List Addr) : List D → List V → Prop
  | nil : RDs K H Z B [] []
  | cons {d : D} {v : V} {ds : List D} {vs : List V} : RD K H Z B d v → RDs K H Z B ds vs → RDs K H Z B (d :: ds) (v :: vs)
end
abbrev RKs (K : PySem.W.Frag) (H : Hp) (Z B : List Addr) : List (Key × D) → List (Key × V) → Prop := Paired fun p q => p.1 = q.1 ∧ RD K H Z B p.2 q.2
def COk (K : PySem.W.Frag) (H : Hp) (Z B : List Addr) (a : Addr) : CO → Prop
  | .lst ds => ∃ vs, H a = some (.lst vs) ∧ RDs K H Z B ds vs
  | .dK kvs => ∃ kws, H a = some (.dK kws) ∧ RKs K H Z B kvs kws
structure HRel (K : PySem.W.Frag) (μ : M) (Z B : List Addr) (H : Hp) : Prop where
  len : Z.length = μ.length
  nd : Z.Nodup
  zb : ∀ a ∈ Z, a ∉ B
  hb : ∀ a ∈ B, H a ≠ none
  cel : ∀ (i : Nat) (c : CO), μ[i]? = some c → ∃ a, Z[i]? = some a ∧ COk K H Z B a c

/-- what may have changed: the cells; new ones are behind the old ones. W: what may have changed besides -/
structure LeW (W : List Addr) (H : Hp) (Z : List Addr) (H' : Hp) (Z' : List Addr) : Prop where
  keep : ∀ a o, H a = some o → a ∉ Z → a ∉ W → H' a = some o ∧ a ∉ Z'
  pre : ∃ Y, Z' = Z ++ Y
  there : ∀ a o, H a = some o → ∃ o', H' a = some o'
abbrev Le := LeW []
variable {K : PySem.W.Frag} {H H1 H2 H' : Hp} {Z Z1 Z2 Z' B W : List Addr} {μ μ' : M}
theorem LeW.refl : LeW W H Z H Z := ⟨fun _ _ e n _ => ⟨e, n⟩, ⟨[], by simp⟩, fun _ o e => ⟨o, e⟩⟩
theorem LeW.trans (a : LeW W H Z H1 Z1) (b : LeW W H1 Z1 H2 Z2) : LeW W H Z H2 Z2 := by
  refine ⟨fun x o e n w => ?_, ?_, fun x o e => ?_⟩
  · obtain ⟨e1, n1⟩ := a.keep x o e n w
    exact b.keep x o e1 n1 w
  · obtain ⟨Y, rfl⟩ := a.pre
    obtain ⟨Y', rfl⟩ := b.pre
    exact ⟨Y ++ Y', by simp⟩
  · obtain ⟨o1, e1⟩ := a.there x o e
    exact b.there x o1 e1
theorem LeW.weak (a : Le H Z H1 Z1) : LeW W H Z H1 Z1 := ⟨fun x o e n _ => a.keep x o e n (by simp), a.pre, a.there⟩
theorem LeW.mono {W' : List Addr} (a : LeW W H Z H1 Z1) (h : ∀ x ∈ W, x ∈ W') : LeW W' H Z H1 Z1 := ⟨fun x o e n w => a.keep x o e n fun z => w (h x z), a.pre, a.there⟩
theorem LeW.at_ (a : LeW W H Z H1 Z1) {n : Nat} {x : Addr} (h : Z[n]? = some x) : Z1[n]? = some x := by
  obtain ⟨Y, rfl⟩ := a.pre
  rw [List.getElem?_append_left (List.getElem?_eq_some_iff.mp h).1]
  exact h
/-- a new object that is no cell -/
theorem Le.new {p : Addr} {o : HO} (h : H p = none) : Le H Z (upd H p o) Z := ⟨fun a u e n _ => ⟨by rw [upd_ne (ne_of_none e h)]; exact e, n⟩, ⟨[], by simp⟩, fun a u e => ⟨u, by rw [upd_ne (ne_of_none e h)]; exact e⟩⟩
/-- .. that is one -/
theorem Le.newc {p : Addr} {o : HO} (h : H p = none) : Le H Z (upd H p o) (Z ++ [p]) := by
  refine ⟨fun a u e n _ => ⟨by rw [upd_ne (ne_of_none e h)]; exact e, fun z => ?_⟩, ⟨[p], rfl⟩, fun a u e => ⟨u, by rw [upd_ne (ne_of_none e h)]; exact e⟩⟩
  rcases List.mem_append.mp z with z | z
  · exact n z
  · exact ne_of_none e h (by simpa using z)
/-- a cell is written -/
theorem Le.wr {p : Addr} {o : HO} (h : p ∈ Z) : Le H Z (upd H p o) Z := by
  refine ⟨fun a u e n _ => ⟨?_, n⟩, ⟨[], by simp⟩, fun a u e => ?_⟩
  · have q : a ≠ p := fun z => n (by rw [z]; exact h)
    rw [upd_ne q]
    exact e
  · by_cases z : a = p
    · exact ⟨o, by rw [z, upd_same]⟩
    · exact ⟨u, by rw [upd_ne z]; exact e⟩
/-- a busy object is written -/
theorem LeW.wr {p : Addr} {o : HO} (h : p ∈ W) : LeW W H Z (upd H p o) Z := by
  refine ⟨fun a u e n w => ⟨?_, n⟩, ⟨[], by simp⟩, fun a u e => ?_⟩
  · have q : a ≠ p := fun z => w (by rw [z]; exact h)
    rw [upd_ne q]
    exact e
  · by_cases z : a = p
    · exact ⟨o, by rw [z, upd_same]⟩
    · exact ⟨u, by rw [upd_ne z]; exact e⟩
theorem LeW.rd (l : LeW B H Z H' Z') {a : Addr} {u : HO} (h : Rd H a u) (n : a ∉ Z) (b : a ∉ B) : Rd H' a u ∧ a ∉ Z' := by
  rcases h with h | ⟨o, h⟩
  · obtain ⟨e, z⟩ := l.keep a _ h n b
    exact ⟨.inl e, z⟩
  · obtain ⟨e, z⟩ := l.keep a _ h n b
    exact ⟨.inr ⟨o, e⟩, z⟩
theorem FzT.mono {a : Addr} {vs : List V} (l : LeW B H Z H' Z') (h : FzT K H Z B a vs) : FzT K H' Z' B a vs := by
  rcases h with ⟨h, n, b⟩ | h
  · obtain ⟨h', n'⟩ := l.keep _ _ h n b
    exact .inl ⟨h', n', b⟩
  · exact .inr h
theorem FzS.mono {a : Addr} {vs : List V} (l : LeW B H Z H' Z') (h : FzS K H Z B a vs) : FzS K H' Z' B a vs := by
  rcases h with ⟨h, n, b⟩ | h
  · obtain ⟨h', n'⟩ := l.rd h n b
    exact .inl ⟨h', n', b⟩
  · exact .inr h
mutual
theorem RD.mono (l : LeW B H Z H' Z') : ∀ {d : D} {v : V}, RD K H Z B d v → RD K H' Z' B d v
  | _, _, .non => .non
  | _, _, .bl b => .bl b
  | _, _, .int i => .int i
  | _, _, .str s => .str s
  | _, _, .ty n => .ty n
  | _, _, .tup f r => .tup (f.mono l) (RDs.mono l r)
  | _, _, .lst e n b r => .lst (l.keep _ _ e n b).1 (l.keep _ _ e n b).2 b (RDs.mono l r)
  | _, _, .scr f r => .scr (f.mono l) (RDs.mono l r)
  | _, _, .cel e => .cel (l.at_ e)
theorem RDs.mono (l : LeW B H Z H' Z') : ∀ {ds : List D} {vs : List V}, RDs K H Z B ds vs → RDs K H' Z' B ds vs
  | _, _, .nil => .nil
  | _, _, .cons h r => .cons (RD.mono l h) (RDs.mono l r)
end
theorem RKs.mono (l : LeW B H Z H' Z') : ∀ {ds : List (Key × D)} {vs : List (Key × V)}, RKs K H Z B ds vs → RKs K H' Z' B ds vs
  | _, _, .nil => .nil
  | _, _, .cons h r => .cons ⟨h.1, h.2.mono l⟩ (RKs.mono l r)
theorem RD.le (l : Le H Z H' Z') {d : D} {v : V} (h : RD K H Z B d v) : RD K H' Z' B d v := h.mono l.weak
theorem RDs.le (l : Le H Z H' Z') {d : List D} {v : List V} (h : RDs K H Z B d v) : RDs K H' Z' B d v := h.mono l.weak
theorem COk.mono {a : Addr} {c : CO} (l : LeW B H Z H' Z') (e : H' a = H a) (h : COk K H Z B a c) : COk K H' Z' B a c := by
  cases c with
  | lst ds =>
    obtain ⟨vs, h1, h2⟩ := h
    exact ⟨vs, e.trans h1, h2.mono l⟩
  | dK kvs =>
    obtain ⟨vs, h1, h2⟩ := h
    exact ⟨vs, e.trans h1, h2.mono l⟩
theorem COk.there {a : Addr} {c : CO} (h : COk K H Z B a c) : ∃ o, H a = some o := by
  cases c with
  | lst ds =>
    obtain ⟨vs, h1, h2⟩ := h
    exact ⟨_, h1⟩
  | dK kvs =>
    obtain ⟨vs, h1, h2⟩ := h
    exact ⟨_, h1⟩
theorem HRel.there (h : HRel K μ Z B H) {a : Addr} (z : a ∈ Z) : ∃ o, H a = some o := by
  obtain ⟨i, e⟩ := List.mem_iff_getElem?.mp z
  have hi : i < μ.length := by rw [← h.len]; exact (List.getElem?_eq_some_iff.mp e).1
  obtain ⟨a', e', c⟩ := h.cel i _ (List.getElem?_eq_getElem hi)
  rw [e] at e'
  cases e'
  exact c.there
theorem HRel.fresh (h : HRel K μ Z B H) {p : Addr} (n : H p = none) : p ∉ Z ∧ p ∉ B := by
  refine ⟨fun z => ?_, fun z => h.hb p z n⟩
  obtain ⟨o, e⟩ := h.there z
  rw [n] at e
  cases e
/-- all cells as they stood, the rest by LeW -/
theorem HRel.keep (h : HRel K μ Z B H) (l : LeW B H Z H' Z) (same : ∀ a ∈ Z, H' a = H a) : HRel K μ Z B H' := by
  refine ⟨h.len, h.nd, h.zb, fun a hb z => ?_, fun i c e => ?_⟩
  · have := h.hb a hb
    cases e : H a with
    | none => exact this e
    | some o =>
      obtain ⟨o', e'⟩ := l.there a o e
      rw [z] at e'
      cases e'
  · obtain ⟨a, ea, ok⟩ := h.cel i c e
    exact ⟨a, ea, ok.mono l (same a (List.mem_of_getElem? ea))⟩
theorem HRel.new (h : HRel K μ Z B H) {p : Addr} {o : HO} (n : H p = none) : HRel K μ Z B (upd H p o) :=
  h.keep (Le.new n).weak fun a z => upd_ne fun e => (h.fresh n).1 (e ▸ z)
theorem nodup_at {Z : List Addr} (n : Z.Nodup) {i j : Nat} {a : Addr} (h1 : Z[i]? = some a) (h2 : Z[j]? = some a) : i = j := by
  obtain ⟨l1, e1⟩ := List.getElem?_eq_some_iff.mp h1
  obtain ⟨l2, e2⟩ := List.getElem?_eq_some_iff.mp h2
  exact (List.getElem_inj n).mp (e1.trans e2.symm)
/-- a cell is written -/
theorem HRel.wr (h : HRel K μ Z B H) {i : Nat} {a : Addr} {c : CO} {o : HO} (ea : Z[i]? = some a) (ok : COk K (upd H a o) Z B a c) : HRel K (μ.set i c) Z B (upd H a o) := by
  have l : Le H Z (upd H a o) Z := Le.wr (List.mem_of_getElem? ea)
  have hi : i < μ.length := by rw [← h.len]; exact (List.getElem?_eq_some_iff.mp ea).1
  refine ⟨by rw [List.length_set]; exact h.len, h.nd, h.zb, fun b hb z => ?_, fun j c' e => ?_⟩
  · cases e : H b with
    | none => exact h.hb b hb e
    | some u =>
      obtain ⟨o', e'⟩ := l.there b u e
      rw [z] at e'
      cases e'
  · by_cases hj : i = j
    · subst hj
      rw [List.getElem?_set_self hi] at e
      cases e
      exact ⟨a, ea, ok⟩
    · rw [List.getElem?_set_ne hj] at e
      obtain ⟨b, eb, okb⟩ := h.cel j c' e
      refine ⟨b, eb, okb.mono l.weak (upd_ne fun z => hj ?_)⟩
      subst z
      exact nodup_at h.nd ea eb
/-- a new cell -/
theorem HRel.newc (h : HRel K μ Z B H) {p : Addr} {c : CO} {o : HO} (n : H p = none) (ok : COk K (upd H p o) (Z ++ [p]) B p c) : HRel K (μ ++ [c]) (Z ++ [p]) B (upd H p o) := by
  have l : Le H Z (upd H p o) (Z ++ [p]) := Le.newc n
  obtain ⟨nz, nb⟩ := h.fresh n
  refine ⟨by rw [List.length_append, List.length_append, h.len]; rfl, ?_, fun a z => ?_, fun b hb z => ?_, fun j c' e => ?_⟩
  · rw [List.nodup_append]
    refine ⟨h.nd, by simp, fun x hx y hy => ?_⟩
    have : y = p := by simpa using hy
    subst this
    intro e
    exact nz (e ▸ hx)
  · rcases List.mem_append.mp z with z | z
    · exact h.zb a z
    · have : a = p := by simpa using z
      subst this
      exact nb
  · cases e : H b with
    | none => exact h.hb b hb e
    | some u =>
      obtain ⟨o', e'⟩ := l.there b u e
      rw [z] at e'
      cases e'
  · by_cases hj : j < μ.length
    · rw [List.getElem?_append_left hj] at e
      obtain ⟨b, eb, okb⟩ := h.cel j c' e
      exact ⟨b, l.at_ eb, okb.mono l.weak (upd_ne fun z => nz (z ▸ List.mem_of_getElem? eb))⟩
    · rw [List.getElem?_append_right (by omega)] at e
      have hj' : j - μ.length = 0 := by
        by_cases z : j - μ.length = 0
        · exact z
        · rw [List.getElem?_eq_none (by simp; omega)] at e
          cases e
      rw [hj'] at e
      cases e
      have : j = Z.length := by rw [h.len]; omega
      subst this
      exact ⟨p, by simp, ok⟩
/-- more that is busy -/
theorem FzT.busy {p a : Addr} {vs : List V} (n : H p = none) (h : FzT K H Z B a vs) : FzT K H Z (p :: B) a vs := by
  rcases h with ⟨h, z, b⟩ | h
  · refine .inl ⟨h, z, fun e => ?_⟩
    rcases List.mem_cons.mp e with e | e
    · subst e
      rw [n] at h; cases h
    · exact b e
  · exact .inr h
theorem FzS.busy {p a : Addr} {vs : List V} (n : H p = none) (h : FzS K H Z B a vs) : FzS K H Z (p :: B) a vs := by
  rcases h with ⟨h, z, b⟩ | h
  · refine .inl ⟨h, z, fun e => ?_⟩
    rcases List.mem_cons.mp e with e | e
    · subst e
      rcases h with h | ⟨_, h⟩ <;> (rw [n] at h; cases h)
    · exact b e
  · exact .inr h
mutual
theorem RD.busy {p : Addr} (n : H p = none) : ∀ {d : D} {v : V}, RD K H Z B d v → RD K H Z (p :: B) d v
  | _, _, .non => .non
  | _, _, .bl b => .bl b
  | _, _, .int i => .int i
  | _, _, .str s => .str s
  | _, _, .ty m => .ty m
  | _, _, .tup f r => .tup (f.busy n) (RDs.busy n r)
  | _, _, .lst e z b r => .lst e z (fun q => by
      rcases List.mem_cons.mp q with q | q
      · exact ne_of_none e n q
      · exact b q) (RDs.busy n r)
  | _, _, .scr f r => .scr (f.busy n) (RDs.busy n r)
  | _, _, .cel e => .cel e
theorem RDs.busy {p : Addr} (n : H p = none) : ∀ {ds : List D} {vs : List V}, RDs K H Z B ds vs → RDs K H Z (p :: B) ds vs
  | _, _, .nil => .nil
  | _, _, .cons h r => .cons (RD.busy n h) (RDs.busy n r)
end
mutual
theorem RD.free {p : Addr} : ∀ {d : D} {v : V}, RD K H Z (p :: B) d v → RD K H Z B d v
  | _, _, .non => .non
  | _, _, .bl b => .bl b
  | _, _, .int i => .int i
  | _, _, .str s => .str s
  | _, _, .ty m => .ty m
  | _, _, .tup f r => .tup (by
      rcases f with ⟨h, z, b⟩ | h
      · exact .inl ⟨h, z, fun e => b (List.mem_cons_of_mem _ e)⟩
      · exact .inr h) (RDs.free r)
  | _, _, .lst e z b r => .lst e z (fun q => b (List.mem_cons_of_mem _ q)) (RDs.free r)
  | _, _, .scr f r => .scr (by
      rcases f with ⟨h, z, b⟩ | h
      · exact .inl ⟨h, z, fun e => b (List.mem_cons_of_mem _ e)⟩
      · exact .inr h) (RDs.free r)
  | _, _, .cel e => .cel e
theorem RDs.free {p : Addr} : ∀ {ds : List D} {vs : List V}, RDs K H Z (p :: B) ds vs → RDs K H Z B ds vs
  | _, _, .nil => .nil
  | _, _, .cons h r => .cons (RD.free h) (RDs.free r)
end
theorem RKs.free {p : Addr} : ∀ {ds : List (Key × D)} {vs : List (Key × V)}, RKs K H Z (p :: B) ds vs → RKs K H Z B ds vs
  | _, _, .nil => .nil
  | _, _, .cons h r => .cons ⟨h.1, h.2.free⟩ (RKs.free r)
theorem RKs.busy {p : Addr} (n : H p = none) : ∀ {ds : List (Key × D)} {vs : List (Key × V)}, RKs K H Z B ds vs → RKs K H Z (p :: B) ds vs
  | _, _, .nil => .nil
  | _, _, .cons h r => .cons ⟨h.1, h.2.busy n⟩ (RKs.busy n r)
theorem COk.busy {p a : Addr} {c : CO} (n : H p = none) (h : COk K H Z B a c) : COk K H Z (p :: B) a c := by
  cases c with
  | lst ds =>
    obtain ⟨vs, h1, h2⟩ := h
    exact ⟨vs, h1, h2.busy n⟩
  | dK kvs =>
    obtain ⟨vs, h1, h2⟩ := h
    exact ⟨vs, h1, RKs.busy n h2⟩
theorem COk.free {p a : Addr} {c : CO} (h : COk K H Z (p :: B) a c) : COk K H Z B a c := by
  cases c with
  | lst ds =>
    obtain ⟨vs, h1, h2⟩ := h
    exact ⟨vs, h1, h2.free⟩
  | dK kvs =>
    obtain ⟨vs, h1, h2⟩ := h
    exact ⟨vs, h1, RKs.free h2⟩
/-- a new object is laid and busy -/
theorem HRel.lay (h : HRel K μ Z B H) {p : Addr} {o : HO} (n : H p = none) : HRel K μ Z (p :: B) (upd H p o) := by
  obtain ⟨nz, nb⟩ := h.fresh n
  have l : Le H Z (upd H p o) Z := Le.new n
  refine ⟨h.len, h.nd, fun a z e => ?_, fun a e z => ?_, fun i c e => ?_⟩
  · rcases List.mem_cons.mp e with e | e
    · exact nz (e ▸ z)
    · exact h.zb a z e
  · rcases List.mem_cons.mp e with e | e
    · subst e
      rw [upd_same] at z
      cases z
    · have q : a ≠ p := fun q => nb (by rw [← q]; exact e)
      rw [upd_ne q] at z
      exact h.hb a e z
  · obtain ⟨a, ea, ok⟩ := h.cel i c e
    exact ⟨a, ea, (ok.busy n).mono l.weak (upd_ne fun q => nz (q ▸ List.mem_of_getElem? ea))⟩
theorem HRel.unlay {p : Addr} (h : HRel K μ Z (p :: B) H) : HRel K μ Z B H :=
  ⟨h.len, h.nd, fun a z e => h.zb a z (List.mem_cons_of_mem _ e), fun a e => h.hb a (List.mem_cons_of_mem _ e), fun i c e => by
    obtain ⟨a, ea, ok⟩ := h.cel i c e
    exact ⟨a, ea, ok.free⟩⟩
/-- a busy object becomes a cell -/
theorem LeW.cell {p : Addr} : LeW (p :: B) H Z H (Z ++ [p]) := by
  refine ⟨fun a o e n w => ⟨e, fun z => ?_⟩, ⟨[p], rfl⟩, fun a o e => ⟨o, e⟩⟩
  rcases List.mem_append.mp z with z | z
  · exact n z
  · exact w (by have : a = p := by simpa using z
                rw [this]; exact List.mem_cons_self)
theorem HRel.celled {p : Addr} (h : HRel K μ Z (p :: B) H) (hp : p ∉ B) {c : CO} (ok : COk K H (Z ++ [p]) B p c) : HRel K (μ ++ [c]) (Z ++ [p]) B H := by
  have nz : p ∉ Z := fun z => h.zb p z (List.mem_cons_self)
  refine ⟨by rw [List.length_append, List.length_append, h.len]; rfl, ?_, fun a z => ?_, fun b hb => h.hb b (List.mem_cons_of_mem _ hb), fun j c' e => ?_⟩
  · rw [List.nodup_append]
    refine ⟨h.nd, by simp, fun x hx y hy => ?_⟩
    have : y = p := by simpa using hy
    subst this
    intro e
    exact nz (e ▸ hx)
  · rcases List.mem_append.mp z with z | z
    · exact fun e => h.zb a z (List.mem_cons_of_mem _ e)
    · have : a = p := by simpa using z
      subst this
      exact hp
  · by_cases hj : j < μ.length
    · rw [List.getElem?_append_left hj] at e
      obtain ⟨b, eb, okb⟩ := h.cel j c' e
      exact ⟨b, (LeW.cell (B := B) (H := H) (p := p)).at_ eb, (okb.mono LeW.cell rfl).free⟩
    · rw [List.getElem?_append_right (by omega)] at e
      have hj' : j - μ.length = 0 := by
        by_cases z : j - μ.length = 0
        · exact z
        · rw [List.getElem?_eq_none (by simp; omega)] at e
          cases e
      rw [hj'] at e
      cases e
      have : j = Z.length := by rw [h.len]; omega
      subst this
      exact ⟨p, by simp, ok⟩
theorem RDs.length {ds : List D} {vs : List V} (h : RDs K H Z B ds vs) : ds.length = vs.length := by
  induction ds generalizing vs with
  | nil => cases h; rfl
  | cons d ds ih =>
    cases h with
    | cons _ r => simp [ih r]
theorem RDs.get {ds : List D} {vs : List V} (h : RDs K H Z B ds vs) {i : Nat} {d : D} (e : ds[i]? = some d) : ∃ v, vs[i]? = some v ∧ RD K H Z B d v := by
  induction ds generalizing vs i with
  | nil => simp at e
  | cons x ds ih =>
    cases h with
    | cons r rs =>
      cases i with
      | zero =>
        simp at e
        subst e
        exact ⟨_, rfl, r⟩
      | succ i => exact ih rs (by simpa using e)
theorem RDs.get' {ds : List D} {vs : List V} (h : RDs K H Z B ds vs) {i : Nat} {v : V} (e : vs[i]? = some v) : ∃ d, ds[i]? = some d ∧ RD K H Z B d v := by
  have hi : i < ds.length := by rw [h.length]; exact (List.getElem?_eq_some_iff.mp e).1
  obtain ⟨v', e', r⟩ := h.get (List.getElem?_eq_getElem hi)
  rw [e] at e'
  cases e'
  exact ⟨_, List.getElem?_eq_getElem hi, r⟩
theorem RDs.append {ds es : List D} {vs ws : List V} (h : RDs K H Z B ds vs) (g : RDs K H Z B es ws) : RDs K H Z B (ds ++ es) (vs ++ ws) := by
  induction ds generalizing vs with
  | nil => cases h; exact g
  | cons x ds ih =>
    cases h with
    | cons r rs => exact .cons r (ih rs)
theorem RDs.set {ds : List D} {vs : List V} (h : RDs K H Z B ds vs) {d : D} {v : V} (r : RD K H Z B d v) (i : Nat) : RDs K H Z B (ds.set i d) (vs.set i v) := by
  induction ds generalizing vs i with
  | nil => cases h; exact .nil
  | cons x ds ih =>
    cases h with
    | cons q rs =>
      cases i with
      | zero => exact .cons r rs
      | succ i => exact .cons q (ih rs i)
theorem RDs.take {ds : List D} {vs : List V} (h : RDs K H Z B ds vs) (n : Nat) : RDs K H Z B (ds.take n) (vs.take n) := by
  induction ds generalizing vs n with
  | nil => cases h; simp; exact .nil
  | cons x ds ih =>
    cases h with
    | cons q rs =>
      cases n with
      | zero => exact .nil
      | succ n => exact .cons q (ih rs n)
theorem RDs.drop {ds : List D} {vs : List V} (h : RDs K H Z B ds vs) (n : Nat) : RDs K H Z B (ds.drop n) (vs.drop n) := by
  induction ds generalizing vs n with
  | nil => cases h; simp; exact .nil
  | cons x ds ih =>
    cases h with
    | cons q rs =>
      cases n with
      | zero => exact .cons q rs
      | succ n => exact ih rs n
theorem RDs.dropLast {ds : List D} {vs : List V} (h : RDs K H Z B ds vs) : RDs K H Z B ds.dropLast vs.dropLast := by
  rw [List.dropLast_eq_take, List.dropLast_eq_take, h.length]
  exact h.take _
theorem RDs.isEmpty {ds : List D} {vs : List V} (h : RDs K H Z B ds vs) : ds.isEmpty = vs.isEmpty := by
  cases h <;> rfl
theorem RDs.atI {ds : List D} {vs : List V} (h : RDs K H Z B ds vs) {i : Int} {d : D} (e : L2.atI ds i = some d) : ∃ v, L2.atI vs i = some v ∧ RD K H Z B d v := by
  unfold L2.atI at e ⊢
  rw [← h.length]
  cases q : ixN ds.length i with
  | none => rw [q] at e; cases e
  | some j =>
    rw [q] at e
    exact h.get e
theorem RDs.cut {ds : List D} {vs : List V} (h : RDs K H Z B ds vs) (lo hi : Option Int) : RDs K H Z B (cutD ds lo hi) (cutV vs lo hi) := by
  unfold cutD cutV
  rw [h.length]
  exact (h.drop _).take _
theorem cutD_le (xs : List D) (lo hi : Option Int) : (cutD xs lo hi).length ≤ xs.length := by
  unfold cutD
  rw [List.length_take, List.length_drop]
  omega
/-! ### dicts -/
theorem RKs.get {ds : List (Key × D)} {vs : List (Key × V)} (h : RKs K H Z B ds vs) {k : Key} : (∀ d, dget ds k = some d → ∃ v, valV vs k = some v ∧ RD K H Z B d v) ∧ (dget ds k = none → valV vs k = none) := by
  induction h with
  | nil => exact ⟨fun d e => by simp [dget] at e, fun _ => rfl⟩
  | @cons p q ps qs r rs ih =>
    obtain ⟨k1, d1⟩ := p
    obtain ⟨k2, v2⟩ := q
    obtain ⟨e, r⟩ := r
    simp only at e r
    subst e
    by_cases z : k1 = k
    · refine ⟨fun d e => ?_, fun e => ?_⟩
      · simp [dget, z] at e
        subst e
        exact ⟨v2, valV_pos z, r⟩
      · simp [dget, z] at e
    · have e1 : dget ((k1, d1) :: ps) k = dget ps k := by simp [dget, z]
      have e2 : valV ((k1, v2) :: qs) k = valV qs k := valV_neg z
      rw [e1, e2]
      exact ih
theorem RKs.isSome {ds : List (Key × D)} {vs : List (Key × V)} (h : RKs K H Z B ds vs) {k : Key} : (dget ds k).isSome = (valV vs k).isSome := by
  cases e : dget ds k with
  | none => rw [h.get.2 e]; rfl
  | some d =>
    obtain ⟨v, e', _⟩ := h.get.1 d e
    rw [e']; rfl
theorem RKs.any {ds : List (Key × D)} {vs : List (Key × V)} (h : RKs K H Z B ds vs) {k : Key} : (ds.any fun kv => decide (kv.1 = k)) = (vs.any fun kv => decide (kv.1 = k)) := by
  induction h with
  | nil => rfl
  | @cons p q ps qs r rs ih =>
    simp only [List.any_cons, ih, r.1]
theorem RKs.put {ds : List (Key × D)} {vs : List (Key × V)} (h : RKs K H Z B ds vs) {k : Key} {d : D} {v : V} (r : RD K H Z B d v) : RKs K H Z B (dput ds k d) (putK vs k v) := by
  unfold dput putK
  rw [h.any]
  split
  · induction h with
    | nil => exact .nil
    | @cons p q ps qs s rs ih =>
      refine .cons ?_ ?_
      · obtain ⟨k1, d1⟩ := p
        obtain ⟨k2, v2⟩ := q
        obtain ⟨e, s⟩ := s
        simp only at e s ⊢
        subst e
        split
        · exact ⟨rfl, r⟩
        · exact ⟨rfl, s⟩
      · have go : ∀ {ds : List (Key × D)} {vs : List (Key × V)}, RKs K H Z B ds vs → RKs K H Z B (ds.map fun kv => if kv.1 = k then (kv.1, d) else kv) (vs.map fun kv => if kv.1 = k then (kv.1, v) else kv) := by
          intro ds vs h
          induction h with
          | nil => exact .nil
          | @cons p q ps qs s rs ih =>
            refine .cons ?_ ih
            obtain ⟨k1, d1⟩ := p
            obtain ⟨k2, v2⟩ := q
            obtain ⟨e, s⟩ := s
            simp only at e s ⊢
            subst e
            split
            · exact ⟨rfl, r⟩
            · exact ⟨rfl, s⟩
        exact go rs
  · have go : ∀ {ds : List (Key × D)} {vs : List (Key × V)}, RKs K H Z B ds vs → RKs K H Z B (ds ++ [(k, d)]) (vs ++ [(k, v)]) := by
      intro ds vs h
      induction h with
      | nil => exact .cons ⟨rfl, r⟩ .nil
      | @cons p q ps qs s rs ih => exact .cons s ih
    exact go h
theorem RKs.merge {more : List (Key × D)} {mv : List (Key × V)} (h : RKs K H Z B more mv) : ∀ {ds : List (Key × D)} {vs : List (Key × V)}, RKs K H Z B ds vs → RKs K H Z B (dmerge ds more) (mergeK vs mv) := by
  induction h with
  | nil => intro ds vs h; exact h
  | @cons p q ps qs s rs ih =>
    intro ds vs h
    obtain ⟨k1, d1⟩ := p
    obtain ⟨k2, v2⟩ := q
    obtain ⟨e, s⟩ := s
    simp only at e s
    subst e
    exact ih (h.put s)
theorem RKs.length {ds : List (Key × D)} {vs : List (Key × V)} (h : RKs K H Z B ds vs) : ds.length = vs.length := by
  induction h with
  | nil => rfl
  | cons _ _ ih => simp [ih]
theorem keyD_rel {d : D} {k : Key} (e : keyD d = some k) {v : V} (r : RD K H Z B d v) : v = kV k := by
  cases r <;> simp [keyD] at e <;> subst e <;> rfl
end Rf

set_option Elab.async false
set_option linter.all false
set_option maxRecDepth 100000
/-! Rf3: the operations on plain data are what the layer's operations do -/
namespace Rf
open PySem L2 PySem.Spec PyProof.Rows

/-- what is wanted of a plain end, of the layer's end -/
def Fin (K : PySem.W.Frag) (H : Hp) (Z B : List Addr) (Q : WQ) (Q' : VK) : Prop :=
  ∀ (d : D) (μ' : M) (w : V) (H' : Hp) (Z' : List Addr), Le H Z H' Z' → HRel K μ' Z' B H' → RD K H' Z' B d w → Q d μ' → Q' w H'
variable {K : PySem.W.Frag} {H H1 H2 H' : Hp} {Z Z1 Z' B : List Addr} {μ μ' : M}
theorem Fin.here {Q : WQ} {Q' : VK} (f : Fin K H Z B Q Q') (hr : HRel K μ Z B H) {d : D} {w : V} (r : RD K H Z B d w) (q : Q d μ) : Q' w H := f d μ w H Z LeW.refl hr r q
theorem Fin.later {Q : WQ} {Q' : VK} (f : Fin K H Z B Q Q') (l : Le H Z H1 Z1) : Fin K H1 Z1 B Q Q' := fun d μ' w H' Z' l' hr r q => f d μ' w H' Z' (l.trans l') hr r q
theorem FzT.sq {a : Addr} {vs : List V} (h : FzT K H Z B a vs) : SqT K H a vs := by
  rcases h with ⟨h, _, _⟩ | h
  · exact .inl (.inl h)
  · exact .inr h
theorem FzS.sq {a : Addr} {vs : List V} (h : FzS K H Z B a vs) : SqL K H a vs := by
  rcases h with ⟨h, _, _⟩ | h
  · exact .inl h
  · exact .inr h
/-- a new tuple -/
theorem newT_ok {Q : WQ} {Q' : VK} (f : Fin K H Z B Q Q') (hr : HRel K μ Z B H) {ds : List D} {vs : List V} (r : RDs K H Z B ds vs) (q : Q (.tup ds) μ) {p : Addr} (n : H p = none) : Q' (.ref p) (upd H p (.tup vs)) := by
  have l : Le H Z (upd H p (.tup vs)) Z := Le.new n
  obtain ⟨n1, n2⟩ := hr.fresh n
  exact f _ _ _ _ _ l (hr.new n) (.tup (.inl ⟨upd_same, n1, n2⟩) (r.le l)) q
/-- a new list, by either way -/
theorem newL_ok {Q : WQ} {Q' : VK} (f : Fin K H Z B Q Q') (hr : HRel K μ Z B H) {ds : List D} {vs : List V} (r : RDs K H Z B ds vs) (q : newL ds μ Q) : vs.length ≤ sizeLine ∧ ∀ p, H p = none → Q' (.ref p) (upd H p (.lst vs)) := by
  obtain ⟨hl, q⟩ := q
  refine ⟨by rw [← r.length]; exact hl, fun p n => ?_⟩
  obtain ⟨n1, n2⟩ := hr.fresh n
  rcases q with q | q
  · have l : Le H Z (upd H p (.lst vs)) Z := Le.new n
    exact f _ _ _ _ _ l (hr.new n) (.lst upd_same n1 n2 (r.le l)) q
  · have l : Le H Z (upd H p (.lst vs)) (Z ++ [p]) := Le.newc n
    exact f _ _ _ _ _ l (hr.newc (c := .lst ds) n ⟨vs, upd_same, r.le l⟩) (.cel (by rw [← hr.len]; simp)) q
theorem HRel.at_ (hr : HRel K μ Z B H) {n : Nat} {c : CO} (e : μ[n]? = some c) {v : V} (r : RD K H Z B (.cel n) v) : ∃ a, v = .ref a ∧ Z[n]? = some a ∧ COk K H Z B a c := by
  obtain ⟨a, ea, ok⟩ := hr.cel n c e
  cases r with
  | cel e' => rw [ea] at e'; cases e'; exact ⟨_, rfl, ea, ok⟩
theorem asL_ok (hr : HRel K μ Z B H) {x : D} {xs : List D} (e : asL μ x = some xs) {v : V} (r : RD K H Z B x v) : ∃ a vs, v = .ref a ∧ H a = some (.lst vs) ∧ RDs K H Z B xs vs := by
  cases x with
  | lst ys =>
    cases e
    cases r with
    | lst e _ _ rs => exact ⟨_, _, rfl, e, rs⟩
  | cel n =>
    simp only [asL] at e
    split at e
    · rename_i ys eq
      cases e
      obtain ⟨a, rfl, _, vs, h1, h2⟩ := hr.at_ eq r
      exact ⟨a, vs, rfl, h1, h2⟩
    · cases e
  | _ => simp [asL] at e
theorem asR_eq : ∀ x : D, (∀ ys, x ≠ .scr ys) → asR μ x = asL μ x := fun x h => by
  cases x <;> first
    | rfl
    | exact absurd rfl (h _)
theorem asSq_eq : ∀ x : D, (∀ ys, x ≠ .tup ys) → asSq μ x = asR μ x := fun x h => by
  cases x <;> first
    | rfl
    | exact absurd rfl (h _)
theorem toPm_eq : ∀ x : D, (∀ ys, x ≠ .cel ys) → toPm μ x = toP x := fun x h => by
  cases x <;> first
    | rfl
    | exact absurd rfl (h _)
theorem asR_ok (hr : HRel K μ Z B H) {x : D} {xs : List D} (e : asR μ x = some xs) {v : V} (r : RD K H Z B x v) : ∃ a vs, v = .ref a ∧ SqL K H a vs ∧ RDs K H Z B xs vs := by
  cases x with
  | scr ys =>
    cases e
    cases r with
    | scr f rs => exact ⟨_, _, rfl, f.sq, rs⟩
  | _ =>
    rw [asR_eq _ (by intro ys q; cases q)] at e
    obtain ⟨a, vs, e1, e2, e3⟩ := asL_ok hr e r
    exact ⟨a, vs, e1, .of e2, e3⟩
theorem asSq_ok (hr : HRel K μ Z B H) {x : D} {xs : List D} (e : asSq μ x = some xs) {v : V} (r : RD K H Z B x v) : ∃ a vs, v = .ref a ∧ (SqL K H a vs ∨ SqT K H a vs) ∧ RDs K H Z B xs vs := by
  cases x with
  | tup ys =>
    cases e
    cases r with
    | tup f rs => exact ⟨_, _, rfl, .inr f.sq, rs⟩
  | _ =>
    rw [asSq_eq _ (by intro ys q; cases q)] at e
    obtain ⟨a, vs, e1, e2, e3⟩ := asR_ok hr e r
    exact ⟨a, vs, e1, .inl e2, e3⟩

/-! ### two-place operations -/
def upO (K : PySem.W.Frag) (o : D → D → M → WQ → Prop) : R2 := fun v u H Q' => ∃ (x y : D) (μ : M) (Z B : List Addr) (Q : WQ), HRel K μ Z B H ∧ RD K H Z B x v ∧ RD K H Z B y u ∧ o x y μ Q ∧ Fin K H Z B Q Q'
section
variable {X : Cx}
theorem opI_ok {f : Value → Value → Sem Value} {C : Int → Int → Prop} {g : Int → Int → Int} (h : OpR X f (rI C fun i j => .int (g i j))) : OpR X f (upO X.K (opI C g)) := by
  intro pins s σ H x y v u Q I rx ry hw
  obtain ⟨dx, dy, μ, Z, B, Q0, hr, r1, r2, ho, fin⟩ := hw
  cases dx with
  | int i =>
    cases dy with
    | int j =>
      cases r1
      cases r2
      exact h pins s σ H _ _ v u Q I rx ry ⟨i, j, rfl, rfl, ho.1, fin.here hr (.int _) ho.2⟩
    | _ => exact False.elim ho
  | _ => exact False.elim ho
theorem add_lists {x y : D} {μ : M} {Q0 : WQ} {pins : List (Addr × Obj)} {s : Shared} {σ : L2.St} {H : Hp} {vx vy : V} {v u : Value} {Q : VK} {Z B : List Addr} (I : Inv X pins σ H s) (rx : RelV vx v) (ry : RelV vy u)
    (hr : HRel X.K μ Z B H) (r1 : RD X.K H Z B x vx) (r2 : RD X.K H Z B y vy) (h : ∃ xs ys, asL μ x = some xs ∧ asL μ y = some ys ∧ newL (xs ++ ys) μ Q0) (fin : Fin X.K H Z B Q0 Q) :
    wpAny (model X.prog X.w) X.A (binaryOp .Add v u) (EP X pins σ Q) X.xe s := by
  obtain ⟨xs, ys, e1, e2, q⟩ := h
  obtain ⟨a, vs, rfl, h1, s1⟩ := asL_ok hr e1 r1
  obtain ⟨b, ws, rfl, h2, s2⟩ := asL_ok hr e2 r2
  obtain ⟨hl, k⟩ := newL_ok fin hr (s1.append s2) q
  exact op_cat pins s σ H _ _ v u Q I rx ry ⟨a, b, vs, ws, rfl, rfl, h1, h2, by rw [List.length_append] at hl; exact hl, k⟩
theorem add_ok : OpR X (binaryOp .Add) (upO X.K opAdd) := by
  intro pins s σ H x y v u Q I rx ry hw
  obtain ⟨dx, dy, μ, Z, B, Q0, hr, r1, r2, ho, fin⟩ := hw
  cases dx with
  | int i =>
    cases dy with
    | int j =>
      cases r1
      cases r2
      exact op_add pins s σ H _ _ v u Q I rx ry ⟨i, j, rfl, rfl, fin.here hr (.int _) ho⟩
    | _ => exact False.elim ho
  | str a =>
    cases dy with
    | str b =>
      cases r1
      cases r2
      exact op_add_str pins s σ H _ _ v u Q I rx ry ⟨a, b, rfl, rfl, ho.1, fin.here hr (.str _) ho.2⟩
    | _ => exact False.elim ho
  | tup xs =>
    cases dy with
    | tup ys =>
      cases r1 with
      | tup f1 s1 =>
        cases r2 with
        | tup f2 s2 =>
          obtain ⟨h0, hl, q⟩ := ho
          refine op_catT pins s σ H _ _ v u Q I rx ry ⟨_, _, _, _, rfl, rfl, f1.sq, f2.sq, ?_, ?_, fun e => ?_, fun e p n => ?_⟩
          · intro z
            apply h0
            have := s1.length
            rw [z] at this
            exact List.length_eq_zero_iff.mp this
          · rw [← s1.length, ← s2.length]; exact hl
          · have e2 : ys = [] := by
              have := s2.length
              rw [e] at this
              exact List.length_eq_zero_iff.mp this
            subst e2
            rw [List.append_nil] at q
            exact fin.here hr (.tup f1 s1) q
          · exact newT_ok fin hr (s1.append s2) q n
    | _ => exact False.elim ho
  | lst xs => exact add_lists I rx ry hr r1 r2 ho fin
  | cel n => exact add_lists I rx ry hr r1 r2 ho fin
  | non => exact add_lists I rx ry hr r1 r2 ho fin
  | bl b => exact add_lists I rx ry hr r1 r2 ho fin
  | ty n => exact add_lists I rx ry hr r1 r2 ho fin
  | scr xs => exact add_lists I rx ry hr r1 r2 ho fin
theorem OpR.falls {f : Value → Value → Sem Value} : OpR X f (upO X.K fun _ _ _ _ => False) := by
  intro pins s σ H x y v u Q I rx ry hw
  obtain ⟨dx, dy, μ, Z, B, Q0, hr, r1, r2, ho, fin⟩ := hw
  exact False.elim ho
theorem sub_ok : OpR X (binaryOp .Sub) (upO X.K (opI (fun _ _ => True) fun i j => i - j)) := by
  refine opI_ok fun pins s σ H x y v u Q I rx ry hw => ?_
  obtain ⟨i, j, e1, e2, _, q⟩ := hw
  exact op_sub pins s σ H x y v u Q I rx ry ⟨i, j, e1, e2, q⟩
theorem mul_ok : OpR X (binaryOp .Mult) (upO X.K (opI (fun i j => CMul i j ∨ CMulW i j) fun i j => i * j)) := by
  refine opI_ok fun pins s σ H x y v u Q I rx ry hw => ?_
  obtain ⟨i, j, e1, e2, hc, q⟩ := hw
  rcases hc with hc | hc
  · exact op_mul pins s σ H x y v u Q I rx ry ⟨i, j, e1, e2, hc, q⟩
  · exact op_mulW pins s σ H x y v u Q I rx ry ⟨i, j, e1, e2, hc, q⟩
theorem bin_ok (op : Operator) : OpR X (binaryOp op) (upO X.K (opBin op)) := by
  cases op with
  | Add => exact add_ok
  | Sub => exact sub_ok
  | Mult => exact mul_ok
  | FloorDiv => exact opI_ok op_fdivW
  | Mod => exact opI_ok op_mod
  | Pow => exact opI_ok op_pow
  | LShift => exact opI_ok op_shl
  | RShift => exact opI_ok op_shr
  | _ => exact OpR.falls

/-! ### comparisons -/
mutual
theorem toP_ok : ∀ {d : D} {p : PyData} {v : V}, toP d = some p → RD K H Z B d v → Dp K H v p
  | .non, p, v, e, r => by cases e; cases r; exact .non
  | .bl b, p, v, e, r => by cases e; cases r; exact .bl b
  | .int i, p, v, e, r => by cases e; cases r; exact .int i
  | .str x, p, v, e, r => by cases e; cases r; exact .str x
  | .tup xs, p, v, e, r => by
    cases h : toPs xs with
    | none => rw [toP, h] at e; cases e
    | some ps =>
      rw [toP, h] at e
      cases e
      cases r with
      | tup f rs => exact .tup f.sq (toPs_ok h rs)
  | .lst xs, p, v, e, r => by
    cases h : toPs xs with
    | none => rw [toP, h] at e; cases e
    | some ps =>
      rw [toP, h] at e
      cases e
      cases r with
      | lst f _ _ rs => exact .lst (.of f) (toPs_ok h rs)
  | .scr _, p, v, e, r => by simp [toP] at e
  | .ty _, p, v, e, r => by simp [toP] at e
  | .cel _, p, v, e, r => by simp [toP] at e
theorem toPs_ok : ∀ {ds : List D} {ps : List PyData} {vs : List V}, toPs ds = some ps → RDs K H Z B ds vs → DpAll K H vs ps
  | [], ps, vs, e, r => by cases e; cases r; exact .nil
  | d :: ds, ps, vs, e, r => by
    cases r with
    | cons r1 r2 =>
      cases h1 : toP d with
      | none => simp [toPs, h1] at e
      | some p =>
        cases h2 : toPs ds with
        | none => simp [toPs, h1, h2] at e
        | some qs =>
          simp [toPs, h1, h2] at e
          subst e
          exact .cons (toP_ok h1 r1) (toPs_ok h2 r2)
end
theorem toPm_ok (hr : HRel K μ Z B H) {d : D} {p : PyData} {v : V} (e : toPm μ d = some p) (r : RD K H Z B d v) : Dp K H v p := by
  cases d with
  | cel n =>
    simp only [toPm] at e
    split at e
    · rename_i xs q
      obtain ⟨a, rfl, _, vs, h1, h2⟩ := hr.at_ q r
      cases h : toPs xs with
      | none => rw [h] at e; cases e
      | some ps =>
        rw [h] at e
        cases e
        exact .lst (.of h1) (toPs_ok h h2)
    · cases e
  | _ =>
    rw [toPm_eq _ (by intro ys q; cases q)] at e
    exact toP_ok e r
theorem flat_ok {d : D} {w v : V} (e : flat d = some w) (r : RD K H Z B d v) : v = w := by
  cases r <;> simp [flat] at e <;> exact e
theorem flats_ok {ds : List D} {ws vs : List V} (e : flats ds = some ws) (r : RDs K H Z B ds vs) : vs = ws := by
  induction ds generalizing ws vs with
  | nil => cases e; cases r; rfl
  | cons d ds ih =>
    cases r with
    | cons r1 r2 =>
      cases h1 : flat d with
      | none => simp [flats, h1] at e
      | some p =>
        cases h2 : flats ds with
        | none => simp [flats, h1, h2] at e
        | some qs =>
          simp [flats, h1, h2] at e
          subst e
          rw [flat_ok h1 r1, ih h2 r2]
def upC (K : PySem.W.Frag) (op : CmpOp) : R2 := fun v u H Q' => ∃ (x y : D) (μ : M) (Z B : List Addr) (k : Bool), HRel K μ Z B H ∧ RD K H Z B x v ∧ RD K H Z B y u ∧ opCmp op μ x y = some k ∧ Q' (.bl k) H
theorem cmpI_ok {f : Value → Value → Sem Value} {op : CmpOp} {g : Int → Int → Bool} (e : opCmp op = fun _ => cmpI g) (h : OpR X f (rI0 fun i j => .bl (g i j))) : OpR X f (upC X.K op) := by
  intro pins s σ H x y v u Q I rx ry hw
  obtain ⟨dx, dy, μ, Z, B, k, hr, r1, r2, ho, q⟩ := hw
  rw [e] at ho
  cases dx with
  | int i =>
    cases dy with
    | int j =>
      cases r1
      cases r2
      cases ho
      exact h pins s σ H _ _ v u Q I rx ry ⟨i, j, rfl, rfl, q⟩
    | _ => simp [cmpI] at ho
  | _ => simp [cmpI] at ho
theorem eqD_ok (hr : HRel K μ Z B H) {x y : D} {v u : V} {k : Bool} (r1 : RD K H Z B x v) (r2 : RD K H Z B y u) (h : eqD μ x y = some k) : ∃ d e, Dp K H v d ∧ Dp K H u e ∧ SeqAt.shaped d = true ∧ SeqAt.shaped e = true ∧ PyData.eqv d e = k := by
  unfold eqD at h
  split at h
  · rename_i a b h1 h2
    split at h
    · rename_i hs
      rw [Bool.and_eq_true] at hs
      exact ⟨a, b, toPm_ok hr h1 r1, toPm_ok hr h2 r2, hs.1, hs.2, Option.some.inj h⟩
    · cases h
  · cases h
theorem eq_ok (hu : X.A.units + 64 < cLine) : OpR X (compareOp .Eq) (upC X.K .Eq) := by
  intro pins s σ H x y v u Q I rx ry hw
  obtain ⟨dx, dy, μ, Z, B, k, hr, r1, r2, ho, q⟩ := hw
  obtain ⟨d, e, h1, h2, h3, h4, h5⟩ := eqD_ok hr r1 r2 ho
  exact op_eqD hu pins s σ H x y v u Q I rx ry ⟨d, e, h1, h2, h3, h4, by rw [h5]; exact q⟩
theorem ne_ok (hu : X.A.units + 64 < cLine) : OpR X (compareOp .NotEq) (upC X.K .NotEq) := by
  intro pins s σ H x y v u Q I rx ry hw
  obtain ⟨dx, dy, μ, Z, B, k, hr, r1, r2, ho, q⟩ := hw
  have ho : (eqD μ dx dy).map (!·) = some k := ho
  cases e : eqD μ dx dy with
  | none => rw [e] at ho; cases ho
  | some j =>
    rw [e] at ho
    cases ho
    obtain ⟨d, e, h1, h2, h3, h4, h5⟩ := eqD_ok hr r1 r2 e
    exact op_neD hu pins s σ H x y v u Q I rx ry ⟨d, e, h1, h2, h3, h4, by rw [h5]; exact q⟩
theorem is_ok : OpR X (compareOp .Is) (upC X.K .Is) := by
  intro pins s σ H x y v u Q I rx ry hw
  obtain ⟨dx, dy, μ, Z, B, k, hr, r1, r2, ho, q⟩ := hw
  have ho : isD dx dy = some k := ho
  cases dy with
  | non =>
    cases r2
    refine op_isN pins s σ H x _ v u Q I rx ry ⟨rfl, ?_⟩
    cases r1 <;> (simp [isD] at ho; subst ho; simpa using q)
  | bl b =>
    cases dx with
    | bl a =>
      cases r1
      cases r2
      cases ho
      exact op_isBl pins s σ H _ _ v u Q I rx ry ⟨a, b, rfl, rfl, q⟩
    | _ => simp [isD] at ho
  | _ => simp [isD] at ho
theorem isnot_ok : OpR X (compareOp .IsNot) (upC X.K .IsNot) := by
  intro pins s σ H x y v u Q I rx ry hw
  obtain ⟨dx, dy, μ, Z, B, k, hr, r1, r2, ho, q⟩ := hw
  have ho : (isD dx dy).map (!·) = some k := ho
  cases dy with
  | non =>
    cases r2
    refine op_notN pins s σ H x _ v u Q I rx ry ⟨rfl, ?_⟩
    cases r1 <;> (simp [isD] at ho; subst ho; simpa using q)
  | bl b =>
    cases dx with
    | bl a =>
      cases r1
      cases r2
      cases ho
      exact op_notBl pins s σ H _ _ v u Q I rx ry ⟨a, b, rfl, rfl, q⟩
    | _ => simp [isD] at ho
  | _ => simp [isD] at ho
theorem inD_ok (hr : HRel K μ Z B H) {x y : D} {v u : V} {k : Bool} (r1 : RD K H Z B x v) (r2 : RD K H Z B y u) (h : inD μ x y = some k) :
    (∃ p ws, u = .ref p ∧ (SqL K H p ws ∨ SqT K H p ws) ∧ flatV v = true ∧ ws.all flatV = true ∧ inV v ws = k) ∨ ∃ p o, u = .ref p ∧ DGet H p v o ∧ o.isSome = k := by
  have seqs : ∀ {xs : List D} {p : Addr} {ws : List V}, u = .ref p → (SqL K H p ws ∨ SqT K H p ws) → RDs K H Z B xs ws →
      (match flat x, flats xs with | some v, some vs => if flatV v && vs.all flatV then some (inV v vs) else none | _, _ => none) = some k →
      ∃ p ws, u = .ref p ∧ (SqL K H p ws ∨ SqT K H p ws) ∧ flatV v = true ∧ ws.all flatV = true ∧ inV v ws = k := by
    intro xs p ws eu sq rs h
    split at h
    · rename_i a b e1 e2
      have := flat_ok e1 r1
      subst this
      have := flats_ok e2 rs
      subst this
      split at h
      · rename_i hc
        rw [Bool.and_eq_true] at hc
        exact ⟨p, _, eu, sq, hc.1, hc.2, Option.some.inj h⟩
      · cases h
    · cases h
  cases y with
  | cel n =>
    unfold inD at h
    simp only at h
    split at h
    · rename_i xs q
      obtain ⟨a, rfl, _, vs, h1, h2⟩ := hr.at_ q r2
      exact .inl (seqs rfl (.inl (.of h1)) h2 h)
    · rename_i kvs q
      obtain ⟨a, rfl, _, kws, h1, h2⟩ := hr.at_ q r2
      cases e : keyD x with
      | none => rw [e] at h; cases h
      | some key =>
        rw [e] at h
        have h : (dget kvs key).isSome = k := Option.some.inj h
        have ev := keyD_rel e r1
        subst ev
        exact .inr ⟨a, _, rfl, DGet.k h1, by rw [← h2.isSome]; exact h⟩
    · cases h
  | _ =>
    unfold inD at h
    simp only at h
    split at h
    · rename_i xs q
      obtain ⟨a, vs, eu, sq, rs⟩ := asSq_ok hr q r2
      exact .inl (seqs eu sq rs h)
    · cases h
theorem in_ok (hu : X.A.units + 64 < cLine) : OpR X (compareOp .In) (upC X.K .In) := by
  intro pins s σ H x y v u Q I rx ry hw
  obtain ⟨dx, dy, μ, Z, B, k, hr, r1, r2, ho, q⟩ := hw
  rcases inD_ok hr r1 r2 ho with ⟨p, ws, rfl, sq, f1, f2, e⟩ | ⟨p, o, rfl, g, e⟩
  · exact op_in_seq pins s σ H x _ v u Q I rx ry ⟨p, ws, rfl, sq, f1, f2, by simp only [e]; exact q⟩
  · cases (show u = Value.ref p from ry)
    exact d_in (by omega) I g rx fun s3 I3 => ⟨.bl _, H, I3, rfl, by rw [e]; exact q⟩
theorem notin_ok (hu : X.A.units + 64 < cLine) : OpR X (compareOp .NotIn) (upC X.K .NotIn) := by
  intro pins s σ H x y v u Q I rx ry hw
  obtain ⟨dx, dy, μ, Z, B, k, hr, r1, r2, ho, q⟩ := hw
  have ho : (inD μ dx dy).map (!·) = some k := ho
  cases e0 : inD μ dx dy with
  | none => rw [e0] at ho; cases ho
  | some j =>
    rw [e0] at ho
    cases ho
    rcases inD_ok hr r1 r2 e0 with ⟨p, ws, rfl, sq, f1, f2, e⟩ | ⟨p, o, rfl, g, e⟩
    · exact op_notIn_seq pins s σ H x _ v u Q I rx ry ⟨p, ws, rfl, sq, f1, f2, by simp only [e]; exact q⟩
    · cases (show u = Value.ref p from ry)
      exact d_notIn (by omega) I g rx fun s3 I3 => ⟨.bl _, H, I3, rfl, by rw [e]; exact q⟩
theorem cmp_ok (hu : X.A.units + 64 < cLine) (op : CmpOp) : OpR X (compareOp op) (upC X.K op) := by
  cases op with
  | Eq => exact eq_ok hu
  | NotEq => exact ne_ok hu
  | Lt => exact cmpI_ok rfl op_lt
  | LtE => exact cmpI_ok rfl op_le
  | Gt => exact cmpI_ok rfl op_gt
  | GtE => exact cmpI_ok rfl op_ge
  | Is => exact is_ok
  | IsNot => exact isnot_ok
  | In => exact in_ok hu
  | NotIn => exact notin_ok hu

/-! ### subscripts -/
theorem ix_dict (hu : X.A.units + 64 < cLine) : IxR X (fun x y H Q => ∃ a v, x = .ref a ∧ DGet H a y (some v) ∧ Q v H) := by
  intro value slice pins s σ H x y v u Q I rx ry h hs
  obtain ⟨a, w, rfl, g, q⟩ := h
  cases (show v = Value.ref a from rx)
  have hT := dict_typeIs I g
  unfold subscriptTail
  refine wpAny_bind ?_
  rw [getitemInPython_of_ne hT.not_modules]
  refine wpAny_bind (wpAny_specialOf hT PySem.F.slot_dict_getitem.lookup ?_)
  have fin : wpAny (model X.prog X.w) X.A (subscripted slice false (.ref a) u) (fun r s₃ => wpAny (model X.prog X.w) X.A (letTemporaryGo value (.ref a) r >>= fun _ => pure r) (EP X pins σ Q) X.xe s₃) X.xe s := by
    rw [hs]
    exact wpAny_operating (d_getItem (by omega) I g ry fun w' s3 I3 rw' => wpAny_bind (wpAny_letTemporaryGo (wpAny_pure ⟨w, H, I3, rw', q⟩)))
  first
    | exact wpAny_pure (wpAny_bind fin)
    | exact wpAny_bind (wpAny_pure (wpAny_bind fin))
    | exact wpAny_bind fin
theorem idx_ok (hu : X.A.units + 64 < cLine) : IxR X (upO X.K opIdx) := by
  intro value slice pins s σ H x y v u Q I rx ry hw hs
  obtain ⟨dx, dy, μ, Z, B, Q0, hr, r1, r2, ho, fin⟩ := hw
  have seqs : opIxSq dx dy μ Q0 → wpAny (model X.prog X.w) X.A (subscriptTail value slice v u) (EP X pins σ Q) X.xe s := by
    intro ho
    unfold opIxSq at ho
    cases e1 : asSq μ dx with
    | none => rw [e1] at ho; exact ho.elim
    | some xs =>
    rw [e1] at ho
    cases dy with
    | int i =>
      simp only at ho
      split at ho
      · rename_i d e2
        obtain ⟨a, vs, rfl, sq, rs⟩ := asSq_ok hr e1 r1
        obtain ⟨w, e3, rw'⟩ := rs.atI e2
        cases r2
        have q := fin.here hr rw' ho
        exact ix_seq value slice pins s σ H _ _ v u Q I rx ry (by
          rcases sq with sq | sq
          · exact .inl ⟨a, vs, i, w, rfl, rfl, sq, e3, q⟩
          · exact .inr (.inl ⟨a, vs, i, w, rfl, rfl, sq, e3, q⟩)) hs
      · exact ho.elim
    | _ => exact ho.elim
  cases dx with
  | str z =>
    cases r1
    cases dy with
    | int i =>
      cases r2
      unfold opIdx at ho
      simp only at ho
      split at ho
      · rename_i c e
        exact ix_str value slice pins s σ H _ _ v u Q I rx ry ⟨z, i, c, rfl, rfl, ho.1, e, fin.here hr (.str _) ho.2⟩ hs
      · exact ho.elim
    | _ => exact False.elim ho
  | cel n =>
    unfold opIdx at ho
    simp only at ho
    split at ho
    · rename_i xs e
      cases dy with
      | int i =>
        simp only at ho
        split at ho
        · rename_i d e2
          obtain ⟨a, rfl, _, vs, h1, rs⟩ := hr.at_ e r1
          obtain ⟨w, e3, rw'⟩ := rs.atI e2
          cases r2
          exact ix_list value slice pins s σ H _ _ v u Q I rx ry ⟨a, vs, i, w, rfl, rfl, .of h1, e3, fin.here hr rw' ho⟩ hs
        · exact ho.elim
      | _ => exact False.elim ho
    · rename_i kvs e
      split at ho
      · rename_i k ek
        split at ho
        · rename_i d e2
          obtain ⟨a, rfl, _, kws, h1, rs⟩ := hr.at_ e r1
          obtain ⟨w, e3, rw'⟩ := rs.get.1 d e2
          have ev := keyD_rel ek r2
          subst ev
          exact ix_dict hu value slice pins s σ H _ _ v u Q I rx ry ⟨a, w, rfl, by rw [← e3]; exact DGet.k h1, fin.here hr rw' ho⟩ hs
        · exact ho.elim
      · exact ho.elim
    · exact ho.elim
  | tup xs => exact seqs ho
  | lst xs => exact seqs ho
  | scr xs => exact seqs ho
  | non => exact seqs ho
  | bl b => exact seqs ho
  | int b => exact seqs ho
  | ty b => exact seqs ho

/-! ### slices -/
def upS (K : PySem.W.Frag) : V → Option Int → Option Int → Hp → VK → Prop := fun v lo hi H Q' => ∃ (x : D) (μ : M) (Z B : List Addr) (Q : WQ), HRel K μ Z B H ∧ RD K H Z B x v ∧ opSlc x lo hi μ Q ∧ Fin K H Z B Q Q'
theorem slc_ok : SlR X (upS X.K) := by
  have go : SlR X (fun x lo hi H Q => rSlT X.K x lo hi H Q ∨ rSlL X.K x lo hi H Q) := sl_tup.or sl_list
  intro a b c d e f g h lo hi k l m n o p p' ho
  refine go a b c d e f g h lo hi k l m n o p p' ?_
  clear go
  obtain ⟨x, μ, Z, B, Q0, hr, r1, ho, fin⟩ := ho
  have lists : (match asR μ x with | some xs => newL (cutD xs lo hi) μ Q0 | none => False) → rSlL X.K e lo hi d l := by
    intro ho
    split at ho
    · rename_i xs q
      obtain ⟨a, vs, rfl, sq, rs⟩ := asR_ok hr q r1
      exact ⟨a, vs, rfl, sq, (newL_ok fin hr (rs.cut lo hi) ho).2⟩
    · exact ho.elim
  cases x with
  | tup xs =>
    obtain ⟨h1, q⟩ := ho
    cases r1 with
    | tup ft rs => exact .inl ⟨_, _, rfl, ft.sq, by rw [← rs.length]; exact h1, fun p n => newT_ok fin hr (rs.cut lo hi) q n⟩
  | lst xs => exact .inr (lists ho)
  | scr xs => exact .inr (lists ho)
  | cel n => exact .inr (lists ho)
  | non => exact .inr (lists ho)
  | bl b => exact .inr (lists ho)
  | int b => exact .inr (lists ho)
  | str b => exact .inr (lists ho)
  | ty b => exact .inr (lists ho)
end
end Rf

set_option Elab.async false
set_option linter.all false
set_option maxRecDepth 100000
/-! Rf4: truth, built-ins, methods, stores; expressions by parts -/
namespace Rf
open PySem L2 PySem.Spec PyProof.Rows
variable {K : PySem.W.Frag} {H H1 H2 H' : Hp} {Z Z1 Z' B : List Addr} {μ μ' : M}

theorem tru_rel (hr : HRel K μ Z B H) {d : D} {k : Bool} (e : truD μ d = some k) {v : V} (r : RD K H Z B d v) : TruV K v H k := by
  cases d with
  | non => cases r; simp [truD] at e; subst e; rfl
  | bl b => cases r; simp [truD] at e; subst e; rfl
  | int i => cases r; simp only [truD] at e; cases e; rfl
  | str s =>
    cases r
    simp only [truD] at e
    split at e
    · rename_i h
      cases e
      exact ⟨h, rfl⟩
    · cases e
  | ty n => simp [truD] at e
  | tup xs =>
    cases r with
    | tup f rs =>
      simp only [truD] at e
      cases e
      exact .inr (.inl ⟨_, f.sq, by rw [rs.isEmpty]⟩)
  | lst xs =>
    cases r with
    | lst f _ _ rs =>
      simp only [truD] at e
      cases e
      exact .inl ⟨_, .of f, by rw [rs.isEmpty]⟩
  | scr xs =>
    cases r with
    | scr f rs =>
      simp only [truD] at e
      cases e
      exact .inl ⟨_, f.sq, by rw [rs.isEmpty]⟩
  | cel n =>
    simp only [truD] at e
    split at e
    · rename_i xs q
      cases e
      obtain ⟨a, rfl, _, vs, h1, rs⟩ := hr.at_ q r
      exact .inl ⟨_, .of h1, by rw [rs.isEmpty]⟩
    · rename_i kvs q
      cases e
      obtain ⟨a, rfl, _, vs, h1, rs⟩ := hr.at_ q r
      refine .inr (.inr ⟨_, h1, ?_⟩)
      cases rs <;> rfl
    · cases e

/-! ### types -/
theorem ty_rel (hr : HRel K μ Z B H) {d : D} {t : String} (e : tyD μ d = some t) {v : V} (r : RD K H Z B d v) : TyX K H v (.type t) := by
  cases d with
  | non => cases r; cases e; exact .base .non
  | bl b => cases r; cases e; exact .base (.bl _)
  | int i => cases r; cases e; exact .base (.int _)
  | str s => cases r; cases e; exact .base (.str _)
  | ty n => cases e
  | tup xs =>
    cases e
    cases r with
    | tup f rs =>
      rcases f with ⟨f, _, _⟩ | ⟨o, its, n, k, c, _⟩
      · exact .base (.tup f)
      · exact .kTuple k c
  | lst xs =>
    cases e
    cases r with
    | lst f _ _ rs => exact .base (.lst f)
  | scr xs => cases e
  | cel n =>
    simp only [tyD] at e
    split at e
    · rename_i xs q
      cases e
      obtain ⟨a, rfl, _, vs, h1, rs⟩ := hr.at_ q r
      exact .base (.lst h1)
    · rename_i kvs q
      cases e
      obtain ⟨a, rfl, _, vs, h1, rs⟩ := hr.at_ q r
      exact .base (.dK h1)
    · cases e
theorem kits_ok {a : String} : ∀ {cs : List D} {k : Bool} {vs : List V}, kitsB a cs = some k → RDs K H Z B cs vs → ∃ us, Paired ClsV vs us ∧ PySem.W.kitAny K (.type a) us = some k
  | [], k, vs, e, r => by
    cases r
    cases e
    exact ⟨[], .nil, rfl⟩
  | d :: cs, k, vs, e, r => by
    cases r with
    | cons r1 r2 =>
      cases d with
      | ty b =>
        cases r1
        simp only [kitsB] at e
        cases h1 : kitB a b with
        | none => rw [h1] at e; simp at e
        | some j =>
          cases h2 : kitsB a cs with
          | none =>
            rw [h1, h2] at e
            cases j <;> simp at e
          | some l =>
            obtain ⟨us, p, q⟩ := kits_ok h2 r2
            rw [h1, h2] at e
            refine ⟨.type b :: us, .cons (.ty b) p, ?_⟩
            cases j with
            | true =>
              simp at e
              subst e
              exact kitAny_cons (kit_ty h1) (fun z => by cases z) fun _ => rfl
            | false =>
              simp at e
              subst e
              exact kitAny_cons (kit_ty h1) (fun _ => q) fun z => by cases z
      | _ => simp [kitsB] at e

/-! ### built-in functions -/
def upL (K : PySem.W.Frag) (o : List D → M → WQ → Prop) : List V → Hp → VK → Prop := fun vs H Q' => ∃ (ds : List D) (μ : M) (Z B : List Addr) (Q : WQ), HRel K μ Z B H ∧ RDs K H Z B ds vs ∧ o ds μ Q ∧ Fin K H Z B Q Q'
theorem rds1 {d : D} {vs : List V} (r : RDs K H Z B [d] vs) : ∃ v, vs = [v] ∧ RD K H Z B d v := by
  cases r with
  | cons r1 r2 => cases r2; exact ⟨_, rfl, r1⟩
theorem rds2 {d e : D} {vs : List V} (r : RDs K H Z B [d, e] vs) : ∃ v w, vs = [v, w] ∧ RD K H Z B d v ∧ RD K H Z B e w := by
  cases r with
  | cons r1 r2 =>
    obtain ⟨w, rfl, r3⟩ := rds1 r2
    exact ⟨_, w, rfl, r1, r3⟩
theorem bls_ok : ∀ {ds : List D} {bs : List Bool} {vs : List V}, blsD ds = some bs → RDs K H Z B ds vs → vs = bs.map V.bl
  | [], bs, vs, e, r => by cases r; cases e; rfl
  | d :: ds, bs, vs, e, r => by
    cases r with
    | cons r1 r2 =>
      cases d with
      | bl b =>
        cases r1
        cases h : blsD ds with
        | none => simp [blsD, h] at e
        | some cs =>
          simp [blsD, h] at e
          subst e
          rw [bls_ok h r2]
          rfl
      | _ => simp [blsD] at e
section
variable {X : Cx}
theorem CallR.falls {f : Value} : CallR X f (upL X.K fun _ _ _ => False) := by
  intro pins s σ H xs us Q I r hw
  obtain ⟨ds, μ, Z, B, Q0, hr, rs, ho, fin⟩ := hw
  exact ho.elim
/-- the shape of an argument list that a built-in serves -/
theorem len_ok : CallR X (.builtin "len") (upL X.K (opBlt .len)) := by
  intro pins s σ H xs us Q I r hw
  obtain ⟨ds, μ, Z, B, Q0, hr, rs, ho, fin⟩ := hw
  match ds, rs, ho with
  | [], rs, ho => exact ho.elim
  | _ :: _ :: _, rs, ho => exact ho.elim
  | [d], rs, ho =>
    obtain ⟨v, rfl, rv⟩ := rds1 rs
    simp only [opBlt] at ho
    cases e : lenD μ d with
    | none => rw [e] at ho; exact ho.elim
    | some n =>
      rw [e] at ho
      have q := fin.here hr (.int n) ho
      cases d with
      | str z =>
        cases rv
        simp only [lenD] at e
        split at e
        · rename_i hz
          cases e
          exact call_len pins s σ H _ us Q I r ⟨_, _, rfl, ⟨hz, rfl⟩, q⟩
        · cases e
      | cel m =>
        simp only [lenD] at e
        split at e
        · rename_i ys h
          cases e
          obtain ⟨a, rfl, _, vs, h1, rs'⟩ := hr.at_ h rv
          exact call_len pins s σ H _ us Q I r ⟨_, _, rfl, .inl ⟨_, .of h1, by rw [rs'.length]⟩, q⟩
        · rename_i kvs h
          cases e
          obtain ⟨a, rfl, _, vs, h1, rs'⟩ := hr.at_ h rv
          exact call_lenD pins s σ H _ us Q I r ⟨a, vs, rfl, h1, by rw [← rs'.length]; exact q⟩
        · cases e
      | _ =>
        simp only [lenD, Option.map_eq_some_iff] at e
        obtain ⟨ys, e1, e2⟩ := e
        obtain ⟨a, vs, rfl, sq, rs'⟩ := asSq_ok hr e1 rv
        subst e2
        rw [rs'.length] at q
        refine call_len pins s σ H _ us Q I r ⟨_, _, rfl, ?_, q⟩
        rcases sq with sq | sq
        · exact .inl ⟨_, sq, rfl⟩
        · exact .inr ⟨_, sq, rfl⟩
theorem abs_ok : CallR X (.builtin "abs") (upL X.K (opBlt .abs)) := by
  intro pins s σ H xs us Q I r hw
  obtain ⟨ds, μ, Z, B, Q0, hr, rs, ho, fin⟩ := hw
  match ds, rs, ho with
  | [], rs, ho => exact ho.elim
  | _ :: _ :: _, rs, ho => simp [opBlt] at ho
  | [d], rs, ho =>
    obtain ⟨v, rfl, rv⟩ := rds1 rs
    cases d with
    | int i => cases rv; exact call_abs pins s σ H _ us Q I r ⟨i, rfl, fin.here hr (.int _) ho⟩
    | _ => simp [opBlt] at ho
theorem int_ok : CallR X (.type "int") (upL X.K (opBlt .int)) := by
  intro pins s σ H xs us Q I r hw
  obtain ⟨ds, μ, Z, B, Q0, hr, rs, ho, fin⟩ := hw
  match ds, rs, ho with
  | [], rs, ho => exact ho.elim
  | _ :: _ :: _, rs, ho => simp [opBlt] at ho
  | [d], rs, ho =>
    obtain ⟨v, rfl, rv⟩ := rds1 rs
    cases d with
    | int i => cases rv; exact call_int1 pins s σ H _ us Q I r (.inl ⟨i, rfl, fin.here hr (.int _) ho⟩)
    | bl i => cases rv; exact call_int1 pins s σ H _ us Q I r (.inr ⟨i, rfl, fin.here hr (.int _) ho⟩)
    | _ => simp [opBlt] at ho
theorem isi_ok : CallR X (.builtin "isinstance") (upL X.K (opBlt .isi)) := by
  intro pins s σ H xs us Q I r hw
  obtain ⟨ds, μ, Z, B, Q0, hr, rs, ho, fin⟩ := hw
  match ds, rs, ho with
  | [], rs, ho => exact ho.elim
  | [_], rs, ho => simp [opBlt] at ho
  | _ :: _ :: _ :: _, rs, ho => simp [opBlt] at ho
  | [d, t], rs, ho =>
    obtain ⟨v, w, rfl, rv, rw'⟩ := rds2 rs
    simp only [opBlt] at ho
    cases e : isiD μ d t with
    | none => rw [e] at ho; exact ho.elim
    | some k =>
      rw [e] at ho
      have q := fin.here hr (.bl k) ho
      cases t with
      | ty b =>
        cases rw'
        simp only [isiD] at e
        split at e
        · rename_i a h
          exact call_isi pins s σ H _ us Q I r ⟨v, .ty b, .type a, .type b, k, rfl, .ty b, ty_rel hr h rv, kit_ty e, q⟩
        · cases e
      | tup cs =>
        simp only [isiD] at e
        split at e
        · rename_i a h
          cases rw' with
          | tup f rs' =>
            obtain ⟨us', p, q'⟩ := kits_ok e rs'
            rcases f with ⟨f, _, _⟩ | ⟨o, its, n, k', c, d', e', f'⟩
            · exact call_isiT pins s σ H _ us Q I r ⟨v, _, _, .type a, us', k, rfl, f, p, ty_rel hr h rv, q', q⟩
            · have e2 := ClsV.all p f'
              obtain ⟨oc, od, dt, sl⟩ := o
              simp only at c d'
              subst c d'
              exact call_isiK pins s σ H _ us Q I r ⟨v, _, od, its.toList, n, sl, .type a, k, rfl, by simpa using k', ty_rel hr h rv, by rw [e2]; exact q', q⟩
        · cases e
      | _ => simp [isiD] at e
theorem all_ok (hc : X.calm = true) : CallR X (.builtin "all") (upL X.K (opBlt .all)) := by
  intro pins s σ H xs us Q I r hw
  obtain ⟨ds, μ, Z, B, Q0, hr, rs, ho, fin⟩ := hw
  match ds, rs, ho with
  | [], rs, ho => exact ho.elim
  | _ :: _ :: _, rs, ho => simp [opBlt] at ho
  | [d], rs, ho =>
    obtain ⟨v, rfl, rv⟩ := rds1 rs
    simp only [opBlt] at ho
    cases e : asL μ d with
    | none => rw [e] at ho; exact ho.elim
    | some ys =>
      rw [e] at ho
      cases e2 : blsD ys with
      | none => simp [e2] at ho
      | some bs =>
        simp only [Option.bind_some, e2] at ho
        obtain ⟨a, vs, rfl, h1, rs'⟩ := asL_ok hr e rv
        have := bls_ok e2 rs'
        subst this
        exact cr_all hc pins s σ H _ us Q I r ⟨a, bs, rfl, .of h1, fin.here hr (.bl _) ho⟩
theorem any_ok (hc : X.calm = true) : CallR X (.builtin "any") (upL X.K (opBlt .any)) := by
  intro pins s σ H xs us Q I r hw
  obtain ⟨ds, μ, Z, B, Q0, hr, rs, ho, fin⟩ := hw
  match ds, rs, ho with
  | [], rs, ho => exact ho.elim
  | _ :: _ :: _, rs, ho => simp [opBlt] at ho
  | [d], rs, ho =>
    obtain ⟨v, rfl, rv⟩ := rds1 rs
    simp only [opBlt] at ho
    cases e : asL μ d with
    | none => rw [e] at ho; exact ho.elim
    | some ys =>
      rw [e] at ho
      cases e2 : blsD ys with
      | none => simp [e2] at ho
      | some bs =>
        simp only [Option.bind_some, e2] at ho
        obtain ⟨a, vs, rfl, h1, rs'⟩ := asL_ok hr e rv
        have := bls_ok e2 rs'
        subst this
        exact cr_any hc pins s σ H _ us Q I r ⟨a, bs, rfl, .of h1, fin.here hr (.bl _) ho⟩
theorem tuple_ok : CallR X (.type "tuple") (upL X.K (opBlt .tuple)) := by
  intro pins s σ H xs us Q I r hw
  obtain ⟨ds, μ, Z, B, Q0, hr, rs, ho, fin⟩ := hw
  match ds, rs, ho with
  | [], rs, ho => exact ho.elim
  | _ :: _ :: _, rs, ho => simp [opBlt] at ho
  | [d], rs, ho =>
    obtain ⟨v, rfl, rv⟩ := rds1 rs
    have lists : (match asR μ d with | some xs => Q0 (.tup xs) μ | none => False) → wpAny (model X.prog X.w) X.A (call (.type "tuple") us) (EP X pins σ Q) X.xe s := by
      intro ho
      cases e : asR μ d with
      | none => rw [e] at ho; exact ho.elim
      | some ys =>
        rw [e] at ho
        obtain ⟨a, vs, rfl, sq, rs'⟩ := asR_ok hr e rv
        exact call_tuple_of pins s σ H _ us Q I r ⟨a, vs, rfl, .inl ⟨sq, fun l n => newT_ok fin hr rs' ho n⟩⟩
    cases d with
    | tup ys =>
      cases rv with
      | tup f rs' => exact call_tuple_of pins s σ H _ us Q I r ⟨_, _, rfl, .inr ⟨f.sq, fin.here hr (.tup f rs') ho⟩⟩
    | lst ys => exact lists ho
    | scr ys => exact lists ho
    | cel ys => exact lists ho
    | non => exact lists ho
    | bl ys => exact lists ho
    | int ys => exact lists ho
    | str ys => exact lists ho
    | ty ys => exact lists ho
theorem list_ok : CallR X (.type "list") (upL X.K (opBlt .list)) := by
  intro pins s σ H xs us Q I r hw
  obtain ⟨ds, μ, Z, B, Q0, hr, rs, ho, fin⟩ := hw
  match ds, rs, ho with
  | [], rs, ho => exact ho.elim
  | _ :: _ :: _, rs, ho => simp [opBlt] at ho
  | [d], rs, ho =>
    obtain ⟨v, rfl, rv⟩ := rds1 rs
    simp only [opBlt] at ho
    cases e : asSq μ d with
    | none => rw [e] at ho; exact ho.elim
    | some ys =>
      rw [e] at ho
      obtain ⟨a, vs, rfl, sq, rs'⟩ := asSq_ok hr e rv
      exact call_list_of pins s σ H _ us Q I r ⟨a, vs, rfl, sq, (newL_ok fin hr rs' ho).2⟩
theorem two_ints {f : Value} {b : BI} {g : Int → Int → Int} (e : ∀ ds μ Q, opBlt b ds μ Q → ∃ i j, ds = [.int i, .int j] ∧ Q (.int (g i j)) μ)
    (h : CallR X f (fun xs H Q => ∃ i j, xs = [.int i, .int j] ∧ Q (.int (g i j)) H)) : CallR X f (upL X.K (opBlt b)) := by
  intro pins s σ H xs us Q I r hw
  obtain ⟨ds, μ, Z, B, Q0, hr, rs, ho, fin⟩ := hw
  obtain ⟨i, j, rfl, q⟩ := e _ _ _ ho
  obtain ⟨v, w, rfl, r1, r2⟩ := rds2 rs
  cases r1
  cases r2
  exact h pins s σ H _ us Q I r ⟨i, j, rfl, fin.here hr (.int _) q⟩
theorem op_two {b : BI} {g : Int → Int → Int} {ds : List D} {μ : M} {Q : WQ} (hb : b = .gcd ∨ b = .max2 ∨ b = .min2) (h : opBlt b ds μ Q) : ∃ i j, ds = [.int i, .int j] := by
  match ds, h with
  | [], h => rcases hb with rfl | rfl | rfl <;> exact h.elim
  | [d], h => rcases hb with rfl | rfl | rfl <;> cases d <;> simp [opBlt] at h
  | [d, e], h => rcases hb with rfl | rfl | rfl <;> cases d <;> cases e <;> simp [opBlt] at h <;> exact ⟨_, _, rfl⟩
  | _ :: _ :: _ :: _, h => rcases hb with rfl | rfl | rfl <;> simp [opBlt] at h
theorem gcd_ok : CallR X (.builtin "math.gcd") (upL X.K (opBlt .gcd)) := two_ints (g := fun i j => ((Nat.gcd i.natAbs j.natAbs : Nat) : Int)) (fun ds μ Q h => by
  obtain ⟨i, j, rfl⟩ := op_two (g := fun i _ => i) (.inl rfl) h
  exact ⟨i, j, rfl, h⟩) cr_gcd
theorem max_ok (hc : X.calm = true) : CallR X (.builtin "max") (upL X.K (opBlt .max2)) := two_ints (g := fun i j => if j > i then j else i) (fun ds μ Q h => by
  obtain ⟨i, j, rfl⟩ := op_two (g := fun i _ => i) (.inr (.inl rfl)) h
  exact ⟨i, j, rfl, h⟩) (call_max2 hc)
theorem min_ok (hc : X.calm = true) : CallR X (.builtin "min") (upL X.K (opBlt .min2)) := two_ints (g := fun i j => if j < i then j else i) (fun ds μ Q h => by
  obtain ⟨i, j, rfl⟩ := op_two (g := fun i _ => i) (.inr (.inr rfl)) h
  exact ⟨i, j, rfl, h⟩) (call_min2 hc)

/-! ### methods -/
def upM (K : PySem.W.Frag) (m : MI) : V → List V → Hp → VK → Prop := fun x vs H Q' => ∃ (d : D) (ds : List D) (μ : M) (Z B : List Addr) (Q : WQ), HRel K μ Z B H ∧ RD K H Z B d x ∧ RDs K H Z B ds vs ∧ opMth m d ds μ Q ∧ Fin K H Z B Q Q'
/-- a list that is a cell is written -/
theorem wrL_ok {Q : WQ} {Q' : VK} {n : Nat} {a : Addr} {vs : List V} {ds : List D} {d : D} {w : V} (hr : HRel K μ Z B H) (ea : Z[n]? = some a) (rs : RDs K H Z B ds vs) (rd : RD K H Z B d w) (fin : Fin K H Z B Q Q')
    (q : Q d (μ.set n (.lst ds))) : Q' w (upd H a (.lst vs)) := by
  have l : Le H Z (upd H a (.lst vs)) Z := Le.wr (List.mem_of_getElem? ea)
  exact fin _ _ _ _ _ l (hr.wr (c := .lst ds) ea ⟨vs, upd_same, rs.le l⟩) (rd.le l) q
theorem append_ok : MtR X "list.append" (upM X.K .append) := by
  intro pins s σ H x xs v us Q I rx r hw
  obtain ⟨d, ds, μ, Z, B, Q0, hr, rd, rs, ho, fin⟩ := hw
  match d, ds, rd, rs, ho with
  | .cel n, [e], rd, rs, ho =>
    obtain ⟨w, rfl, rw'⟩ := rds1 rs
    simp only [opMth] at ho
    split at ho
    · rename_i ys q
      obtain ⟨a, rfl, ea, vs, h1, rs'⟩ := hr.at_ q rd
      refine mt_append pins s σ H _ _ v us Q I rx r ⟨a, vs, w, rfl, rfl, h1, by rw [← rs'.length]; exact ho.1, ?_⟩
      exact wrL_ok hr ea (rs'.append (.cons rw' .nil)) .non fin ho.2
    · exact ho.elim
  | .cel n, [], rd, rs, ho => simp [opMth] at ho
  | .cel n, _ :: _ :: _, rd, rs, ho => simp [opMth] at ho
  | .non, _, rd, rs, ho => simp [opMth] at ho
  | .bl _, _, rd, rs, ho => simp [opMth] at ho
  | .int _, _, rd, rs, ho => simp [opMth] at ho
  | .str _, _, rd, rs, ho => simp [opMth] at ho
  | .ty _, _, rd, rs, ho => simp [opMth] at ho
  | .tup _, _, rd, rs, ho => simp [opMth] at ho
  | .lst _, _, rd, rs, ho => simp [opMth] at ho
  | .scr _, _, rd, rs, ho => simp [opMth] at ho

theorem pop_ok : MtR X "list.pop" (upM X.K .pop) := by
  intro pins s σ H x xs v us Q I rx r hw
  obtain ⟨d, ds, μ, Z, B, Q0, hr, rd, rs, ho, fin⟩ := hw
  match d, ds, rd, rs, ho with
  | .cel n, [], rd, rs, ho =>
    simp only [opMth] at ho
    split at ho
    · rename_i ys q
      split at ho
      · rename_i e he
        obtain ⟨a, rfl, ea, vs, h1, rs'⟩ := hr.at_ q rd
        obtain ⟨w, hw, rw'⟩ := rs'.get he
        cases rs
        refine mt_pop pins s σ H _ _ v us Q I rx r ⟨a, vs, w, rfl, rfl, h1, by rw [← rs'.length]; exact hw, ?_⟩
        exact wrL_ok hr ea rs'.dropLast rw' fin ho
      · exact ho.elim
    · exact ho.elim
  | .cel n, _ :: _, rd, rs, ho => simp [opMth] at ho
  | .non, _, rd, rs, ho => simp [opMth] at ho
  | .bl _, _, rd, rs, ho => simp [opMth] at ho
  | .int _, _, rd, rs, ho => simp [opMth] at ho
  | .str _, _, rd, rs, ho => simp [opMth] at ho
  | .ty _, _, rd, rs, ho => simp [opMth] at ho
  | .tup _, _, rd, rs, ho => simp [opMth] at ho
  | .lst _, _, rd, rs, ho => simp [opMth] at ho
  | .scr _, _, rd, rs, ho => simp [opMth] at ho
theorem extend_ok : MtR X "list.extend" (upM X.K .extend) := by
  intro pins s σ H x xs v us Q I rx r hw
  obtain ⟨d, ds, μ, Z, B, Q0, hr, rd, rs, ho, fin⟩ := hw
  match d, ds, rd, rs, ho with
  | .cel n, [e], rd, rs, ho =>
    obtain ⟨w, rfl, rw'⟩ := rds1 rs
    simp only [opMth] at ho
    split at ho
    · rename_i ys q
      have go : (match asL μ e with | some zs => ys.length + zs.length ≤ sizeLine ∧ Q0 .non (μ.set n (.lst (ys ++ zs))) | none => False) → wpAny (model X.prog X.w) X.A (call (.builtin "list.extend") (v :: us)) (EP X pins σ Q) X.xe s := by
        intro ho
        cases he : asL μ e with
        | none => rw [he] at ho; exact ho.elim
        | some zs =>
          rw [he] at ho
          obtain ⟨a, rfl, ea, vs, h1, rs'⟩ := hr.at_ q rd
          obtain ⟨b, ws, rfl, h2, rs2⟩ := asL_ok hr he rw'
          refine mt_extend pins s σ H _ _ v us Q I rx r ⟨a, b, vs, ws, rfl, rfl, h1, h2, by rw [← rs'.length, ← rs2.length]; exact ho.1, ?_⟩
          exact wrL_ok hr ea (rs'.append rs2) .non fin ho.2
      cases e with
      | cel _ => exact ho.elim
      | _ => exact go ho
    · exact ho.elim
  | .cel n, [], rd, rs, ho => simp [opMth] at ho
  | .cel n, _ :: _ :: _, rd, rs, ho => simp [opMth] at ho
  | .non, _, rd, rs, ho => simp [opMth] at ho
  | .bl _, _, rd, rs, ho => simp [opMth] at ho
  | .int _, _, rd, rs, ho => simp [opMth] at ho
  | .str _, _, rd, rs, ho => simp [opMth] at ho
  | .ty _, _, rd, rs, ho => simp [opMth] at ho
  | .tup _, _, rd, rs, ho => simp [opMth] at ho
  | .lst _, _, rd, rs, ho => simp [opMth] at ho
  | .scr _, _, rd, rs, ho => simp [opMth] at ho

/-! ### stores -/
def upP (K : PySem.W.Frag) : V → V → V → Hp → (Hp → Prop) → Prop := fun o i v H Q' => ∃ (x y z : D) (μ : M) (Z B : List Addr) (Q : M → Prop), HRel K μ Z B H ∧ RD K H Z B x o ∧ RD K H Z B y i ∧ RD K H Z B z v ∧ opPut x y z μ Q ∧
  ∀ μ' H', Le H Z H' Z → HRel K μ' Z B H' → Q μ' → Q' H'
theorem put_ok (hu : X.A.units + 64 < cLine) : PSet X (upP X.K) := by
  intro pins s σ H o i v ov iv u Q I r1 r2 r3 hw
  obtain ⟨x, y, z, μ, Z, B, Q0, hr, rx, ry, rz, ho, fin⟩ := hw
  cases x with
  | cel n =>
    simp only [opPut] at ho
    split at ho
    · rename_i xs q
      obtain ⟨a, rfl, ea, vs, h1, rs⟩ := hr.at_ q rx
      cases y with
      | int k =>
        simp only at ho
        split at ho
        · rename_i j ej
          cases ry
          refine set_list pins s σ H _ _ _ ov iv u Q I r1 r2 r3 ⟨a, vs, k, j, rfl, rfl, h1, by rw [← rs.length]; exact ej, ?_⟩
          have l : Le H Z (upd H a (.lst (vs.set j v))) Z := Le.wr (List.mem_of_getElem? ea)
          exact fin _ _ l (hr.wr (c := .lst (xs.set j z)) ea ⟨_, upd_same, (rs.set rz j).le l⟩) ho
        · exact ho.elim
      | _ => exact ho.elim
    · rename_i kvs q
      obtain ⟨a, rfl, ea, kws, h1, rs⟩ := hr.at_ q rx
      split at ho
      · rename_i k ek
        have ev := keyD_rel ek ry
        subst ev
        cases (show ov = Value.ref a from r1)
        have l : Le H Z (upd H a (.dK (putK kws k v))) Z := Le.wr (List.mem_of_getElem? ea)
        refine d_setItem (by omega) I (DPut.k h1 (by rw [← rs.length]; exact ho.1)) r2 r3 fun s' I' => ⟨_, I', fin _ _ l (hr.wr (c := .dK (dput kvs k z)) ea ⟨_, upd_same, (rs.put rz).mono l.weak⟩) ho.2⟩
      · exact ho.elim
    · exact ho.elim
  | _ => exact ho.elim
end
end Rf

set_option Elab.async false
set_option linter.all false
set_option maxRecDepth 100000
/-! Rf5: expressions: what the core language says of them is so -/
namespace Rf
open PySem L2 PySem.Spec PyProof.Rows
variable {K : PySem.W.Frag} {H H1 H2 H' : Hp} {Z Z1 Z' B : List Addr} {μ μ' : M} {ρ ρ' : Rho} {σ : L2.St}

/-! ### names -/
def RR (K : PySem.W.Frag) (H : Hp) (Z B : List Addr) (ρ : Rho) (σ : L2.St) : Prop := σ.length = ρ.length ∧ ∀ (i : Nat) (d : D), ρ[i]? = some (some d) → ∃ v, σ[i]? = some (some v) ∧ RD K H Z B d v
theorem RR.mono (l : LeW B H Z H' Z') (r : RR K H Z B ρ σ) : RR K H' Z' B ρ σ := ⟨r.1, fun i d e => by
  obtain ⟨v, h1, h2⟩ := r.2 i d e
  exact ⟨v, h1, h2.mono l⟩⟩
theorem RR.set (r : RR K H Z B ρ σ) {d : D} {v : V} (h : RD K H Z B d v) (i : Nat) : RR K H Z B (ρ.set i (some d)) (σ.set i (some v)) := ⟨by rw [List.length_set, List.length_set, r.1], fun j e q => by
  by_cases hj : i = j
  · subst hj
    by_cases hi : i < ρ.length
    · rw [List.getElem?_set_self hi] at q
      cases q
      exact ⟨v, by rw [List.getElem?_set_self (by rw [r.1]; exact hi)], h⟩
    · rw [List.getElem?_eq_none (by rw [List.length_set]; omega)] at q
      cases q
  · rw [List.getElem?_set_ne hj] at q ⊢
    exact r.2 j e q⟩
theorem RR.none (r : RR K H Z B ρ σ) (i : Nat) : RR K H Z B (ρ.set i none) (σ.set i none) := ⟨by rw [List.length_set, List.length_set, r.1], fun j e q => by
  by_cases hj : i = j
  · subst hj
    by_cases hi : i < ρ.length
    · rw [List.getElem?_set_self hi] at q
      cases q
    · rw [List.getElem?_eq_none (by rw [List.length_set]; omega)] at q
      cases q
  · rw [List.getElem?_set_ne hj] at q ⊢
    exact r.2 j e q⟩
theorem RR.wipe (r : RR K H Z B ρ σ) : ∀ js : List Nat, RR K H Z B (wipeD ρ js) (L2.wipe σ js)
  | [] => r
  | j :: js => (r.wipe js).none j
theorem RR.busy {p : Addr} (n : H p = Option.none) (r : RR K H Z B ρ σ) : RR K H Z (p :: B) ρ σ := ⟨r.1, fun i d e => by
  obtain ⟨v, h1, h2⟩ := r.2 i d e
  exact ⟨v, h1, h2.busy n⟩⟩
def Sta (K : PySem.W.Frag) (ρ : Rho) (μ : M) (Z B : List Addr) (σ : L2.St) (H : Hp) : Prop := HRel K μ Z B H ∧ RR K H Z B ρ σ
/-! ### what is read off the core language -/
def upE (K : PySem.W.Frag) (w : WE) : TE := fun σ H Q' => ∃ (ρ : Rho) (μ : M) (Z B : List Addr) (Q : WQ), Sta K ρ μ Z B σ H ∧ w ρ μ Q ∧ Fin K H Z B Q Q'
def upT (K : PySem.W.Frag) (w : WT) : TT := fun σ H Q' => ∃ (ρ : Rho) (μ : M) (Z B : List Addr) (Q : Bool → M → Prop), Sta K ρ μ Z B σ H ∧ w ρ μ Q ∧ ∀ k μ' H' Z', Le H Z H' Z' → HRel K μ' Z' B H' → Q k μ' → Q' k H'
def upA (K : PySem.W.Frag) (w : WA) : TA := fun σ H Q' => ∃ (ρ : Rho) (μ : M) (Z B : List Addr) (Q : List D → M → Prop), Sta K ρ μ Z B σ H ∧ w ρ μ Q ∧ ∀ ds μ' vs H' Z', Le H Z H' Z' → HRel K μ' Z' B H' → RDs K H' Z' B ds vs → Q ds μ' → Q' vs H'
theorem Sta.le (s : Sta K ρ μ Z B σ H) (l : Le H Z H' Z') (hr : HRel K μ' Z' B H') : Sta K ρ μ' Z' B σ H' := ⟨hr, s.2.mono l.weak⟩
theorem upE_i {w : WE} {Q : WQ} {R : VK} (hs : Sta K ρ μ Z B σ H) (hw : w ρ μ Q) (k : ∀ d μ' v H' Z', Le H Z H' Z' → Sta K ρ μ' Z' B σ H' → RD K H' Z' B d v → Q d μ' → R v H') : upE K w σ H R :=
  ⟨ρ, μ, Z, B, Q, hs, hw, fun d μ' v H' Z' l hr r q => k d μ' v H' Z' l (hs.le l hr) r q⟩
theorem upT_i {w : WT} {Q : Bool → M → Prop} {R : Bool → Hp → Prop} (hs : Sta K ρ μ Z B σ H) (hw : w ρ μ Q) (k : ∀ b μ' H' Z', Le H Z H' Z' → Sta K ρ μ' Z' B σ H' → Q b μ' → R b H') : upT K w σ H R :=
  ⟨ρ, μ, Z, B, Q, hs, hw, fun b μ' H' Z' l hr q => k b μ' H' Z' l (hs.le l hr) q⟩
theorem upA_i {w : WA} {Q : List D → M → Prop} {R : List V → Hp → Prop} (hs : Sta K ρ μ Z B σ H) (hw : w ρ μ Q) (k : ∀ ds μ' vs H' Z', Le H Z H' Z' → Sta K ρ μ' Z' B σ H' → RDs K H' Z' B ds vs → Q ds μ' → R vs H') : upA K w σ H R :=
  ⟨ρ, μ, Z, B, Q, hs, hw, fun d μ' v H' Z' l hr r q => k d μ' v H' Z' l (hs.le l hr) r q⟩
section
variable {X : Cx} {a b c : Expr} {pos : Pos} {wa wb wc : WE} {t u : TE}
theorem _root_.L2.PE.imp (h : PE X a t) (f : ∀ σ H Q, u σ H Q → t σ H Q) : PE X a u := ⟨fun pins s σ H Q I q => h.run pins s σ H Q I (f σ H Q q)⟩
theorem _root_.L2.PT.imp {t u : TT} (h : PT X a t) (f : ∀ σ H Q, u σ H Q → t σ H Q) : PT X a u := ⟨fun pins s σ H Q I q => h.run pins s σ H Q I (f σ H Q q)⟩
theorem _root_.L2.PA.imp {es : List Expr} {t u : TA} (h : PA X es t) (f : ∀ σ H Q, u σ H Q → t σ H Q) : PA X es u := ⟨fun pos pins s σ H Q I q => h.run pos pins s σ H Q I (f σ H Q q)⟩
theorem _root_.L2.PI.imp {tg it : Expr} {t u : TI} (h : PI X tg it t) (f : ∀ σ H Q, u σ H Q → t σ H Q) : PI X tg it u := ⟨fun pins s σ H Q I q => h.run pins s σ H Q I (f σ H Q q)⟩
theorem _root_.L2.PS.imp {st : Stmt} {t u : TS} (h : PS X st t) (f : ∀ D σ H, u D σ H → t D σ H) : PS X st u := ⟨fun pins s σ H D I q => h.run pins s σ H D I (f D σ H q)⟩
theorem _root_.L2.PSs.imp {st : List Stmt} {t u : TS} (h : PSs X st t) (f : ∀ D σ H, u D σ H → t D σ H) : PSs X st u := ⟨fun pins s σ H D I q => h.run pins s σ H D I (f D σ H q)⟩
theorem PE.falls : PE X a (upE X.K fun _ _ _ => False) := ⟨fun pins s σ H Q I q => by
  obtain ⟨ρ, μ, Z, B, Q, hs, hw, fin⟩ := q
  exact hw.elim⟩
theorem PT.falls : PT X a (upT X.K fun _ _ _ => False) := ⟨fun pins s σ H Q I q => by
  obtain ⟨ρ, μ, Z, B, Q, hs, hw, fin⟩ := q
  exact hw.elim⟩
theorem e_var {i : Nat} {x : Str} (hN : X.N[i]? = some x) (hv : Vis X.env.scope x) (hd : (x == ("__debug__" : Str)) = false) (hcd : (x == ("__classdict__" : Str)) = false) :
    PE X (.Name x pos) (upE X.K fun ρ μ Q => match getV ρ i with | some d => Q d μ | none => False) := by
  refine (pe_var hN hv hd hcd).imp fun σ H Q' ⟨ρ, μ, Z, B, Q, hs, hw, fin⟩ => ?_
  cases e : getV ρ i with
  | none => simp only [e] at hw
  | some d =>
    simp only [e] at hw
    unfold getV at e
    split at e
    · rename_i d' e'
      cases e
      obtain ⟨v, h1, h2⟩ := hs.2.2 i d e'
      exact ⟨v, h1, fin.here hs.1 h2 hw⟩
    · cases e
theorem e_con {d : D} {v : V} (h : PE X a (tC v)) (r : ∀ H Z B, RD X.K H Z B d v) : PE X a (upE X.K fun _ μ Q => Q d μ) :=
  h.imp fun σ H Q' ⟨ρ, μ, Z, B, Q, hs, hw, fin⟩ => fin.here hs.1 (r _ _ _) hw
theorem e_bin (op : Operator) (ha : PE X a (upE X.K wa)) (hb : PE X b (upE X.K wb)) : PE X (.BinOp a op b pos) (upE X.K fun ρ μ Q => wa ρ μ fun x μ1 => wb ρ μ1 fun y μ2 => opBin op x y μ2 Q) :=
  (pe_op (bin_ok op) ha hb).imp fun σ H Q' ⟨ρ, μ, Z, B, Q, hs, hw, fin⟩ => upE_i hs hw fun x μ1 v H1 Z1 l1 hs1 r1 hw1 => upE_i hs1 hw1 fun y μ2 u H2 Z2 l2 hs2 r2 ho =>
    ⟨x, y, μ2, Z2, B, Q, hs2.1, r1.le l2, r2, ho, fin.later (l1.trans l2)⟩
theorem e_neg (ha : PE X a (upE X.K wa)) : PE X (.UnaryOp .USub a pos) (upE X.K fun ρ μ Q => wa ρ μ fun x μ1 => match x with | .int i => Q (.int (-i)) μ1 | _ => False) :=
  (pe_un un_neg ha).imp fun σ H Q' ⟨ρ, μ, Z, B, Q, hs, hw, fin⟩ => upE_i hs hw fun x μ1 v H1 Z1 l1 hs1 r1 hw1 => by
    cases x with
    | int i => cases r1; exact ⟨i, rfl, (fin.later l1).here hs1.1 (.int _) hw1⟩
    | _ => exact hw1.elim
theorem e_not (ha : PE X a (upE X.K wa)) : PE X (.UnaryOp .Not a pos) (upE X.K fun ρ μ Q => wa ρ μ fun x μ1 => match x with | .bl i => Q (.bl (!i)) μ1 | _ => False) :=
  (pe_not ha).imp fun σ H Q' ⟨ρ, μ, Z, B, Q, hs, hw, fin⟩ => upE_i hs hw fun x μ1 v H1 Z1 l1 hs1 r1 hw1 => by
    cases x with
    | bl i => cases r1; exact ⟨i, rfl, (fin.later l1).here hs1.1 (.bl _) hw1⟩
    | _ => exact hw1.elim
theorem wCmp_some {op : CmpOp} {x y : D} {Q : Bool → Prop} (h : wCmp op x y μ Q) : ∃ k, opCmp op μ x y = some k ∧ Q k := by
  unfold wCmp at h
  cases e : opCmp op μ x y with
  | none => rw [e] at h; exact h.elim
  | some k => rw [e] at h; exact ⟨k, rfl, h⟩
theorem e_cmp (hu : X.A.units + 64 < cLine) (op : CmpOp) (hm : behindInMarks op b = false) (ha : PE X a (upE X.K wa)) (hb : PE X b (upE X.K wb)) :
    PE X (.Compare a [op] [b] pos) (upE X.K fun ρ μ Q => wa ρ μ fun x μ1 => wb ρ μ1 fun y μ2 => wCmp op x y μ2 fun k => Q (.bl k) μ2) :=
  (pe_cmpR (cmp_ok hu op) ha hb hm).imp fun σ H Q' ⟨ρ, μ, Z, B, Q, hs, hw, fin⟩ => upE_i hs hw fun x μ1 v H1 Z1 l1 hs1 r1 hw1 => upE_i hs1 hw1 fun y μ2 u H2 Z2 l2 hs2 r2 ho => by
    obtain ⟨k, e, q⟩ := wCmp_some ho
    exact ⟨x, y, μ2, Z2, B, k, hs2.1, r1.le l2, r2, e, (fin.later (l1.trans l2)).here hs2.1 (.bl _) q⟩
theorem t_cmp (hu : X.A.units + 64 < cLine) (op : CmpOp) (hm : behindInMarks op b = false) (ha : PE X a (upE X.K wa)) (hb : PE X b (upE X.K wb)) :
    PT X (.Compare a [op] [b] pos) (upT X.K fun ρ μ Q => wa ρ μ fun x μ1 => wb ρ μ1 fun y μ2 => wCmp op x y μ2 fun k => Q k μ2) :=
  (pt_cmpR (cmp_ok hu op) ha hb hm).imp fun σ H Q' ⟨ρ, μ, Z, B, Q, hs, hw, fin⟩ => upE_i hs hw fun x μ1 v H1 Z1 l1 hs1 r1 hw1 => upE_i hs1 hw1 fun y μ2 u H2 Z2 l2 hs2 r2 ho => by
    obtain ⟨k, e, q⟩ := wCmp_some ho
    exact ⟨x, y, μ2, Z2, B, k, hs2.1, r1.le l2, r2, e, k, rfl, fin _ _ _ _ (l1.trans l2) hs2.1 q⟩
theorem e_chn (hu : X.A.units + 64 < cLine) (o p : CmpOp) (hm : lastMarks [o, p] [b, c] = false) (ha : PE X a (upE X.K wa)) (hb : PE X b (upE X.K wb)) (hc : PE X c (upE X.K wc)) :
    PE X (.Compare a [o, p] [b, c] pos) (upE X.K fun ρ μ Q => wa ρ μ fun x μ1 => wb ρ μ1 fun y μ2 => wCmp o x y μ2 fun k =>
      if k = true then wc ρ μ2 fun z μ3 => wCmp p y z μ3 fun k2 => Q (.bl k2) μ3 else Q (.bl false) μ2) :=
  (pe_chain (cmp_ok hu o) (cmp_ok hu p) ha hb hc hm).imp fun σ H Q' ⟨ρ, μ, Z, B, Q, hs, hw, fin⟩ => upE_i hs hw fun x μ1 v H1 Z1 l1 hs1 r1 hw1 => upE_i hs1 hw1 fun y μ2 u H2 Z2 l2 hs2 r2 ho => by
    obtain ⟨k, e, q⟩ := wCmp_some ho
    refine ⟨x, y, μ2, Z2, B, k, hs2.1, r1.le l2, r2, e, k, rfl, ?_⟩
    cases k with
    | true =>
      rw [if_pos rfl] at q ⊢
      refine upE_i hs2 q fun z μ3 w H3 Z3 l3 hs3 r3 q3 => ?_
      obtain ⟨k2, e2, q2⟩ := wCmp_some q3
      exact ⟨y, z, μ3, Z3, B, k2, hs3.1, r2.le l3, r3, e2, (fin.later ((l1.trans l2).trans l3)).here hs3.1 (.bl _) q2⟩
    | false =>
      rw [if_neg Bool.false_ne_true] at q ⊢
      exact (fin.later (l1.trans l2)).here hs2.1 (.bl _) q
theorem t_chn (hu : X.A.units + 64 < cLine) (o p : CmpOp) (hm : lastMarks [o, p] [b, c] = false) (ha : PE X a (upE X.K wa)) (hb : PE X b (upE X.K wb)) (hc : PE X c (upE X.K wc)) :
    PT X (.Compare a [o, p] [b, c] pos) (upT X.K fun ρ μ Q => wa ρ μ fun x μ1 => wb ρ μ1 fun y μ2 => wCmp o x y μ2 fun k =>
      if k = true then wc ρ μ2 fun z μ3 => wCmp p y z μ3 fun k2 => Q k2 μ3 else Q false μ2) :=
  (pt_chain (cmp_ok hu o) (cmp_ok hu p) ha hb hc hm).imp fun σ H Q' ⟨ρ, μ, Z, B, Q, hs, hw, fin⟩ => upE_i hs hw fun x μ1 v H1 Z1 l1 hs1 r1 hw1 => upE_i hs1 hw1 fun y μ2 u H2 Z2 l2 hs2 r2 ho => by
    obtain ⟨k, e, q⟩ := wCmp_some ho
    refine ⟨x, y, μ2, Z2, B, k, hs2.1, r1.le l2, r2, e, k, rfl, ?_⟩
    cases k with
    | true =>
      rw [if_pos rfl] at q ⊢
      refine upE_i hs2 q fun z μ3 w H3 Z3 l3 hs3 r3 q3 => ?_
      obtain ⟨k2, e2, q2⟩ := wCmp_some q3
      exact ⟨y, z, μ3, Z3, B, k2, hs3.1, r2.le l3, r3, e2, k2, rfl, fin _ _ _ _ ((l1.trans l2).trans l3) hs3.1 q2⟩
    | false =>
      rw [if_neg Bool.false_ne_true] at q ⊢
      exact ⟨false, rfl, fin _ _ _ _ (l1.trans l2) hs2.1 q⟩
theorem e_and {r : List Expr} (ha : PE X a (upE X.K wa)) (hb : PE X (.BoolOp .And (b :: r) pos) (upE X.K wb)) :
    PE X (.BoolOp .And (a :: b :: r) pos) (upE X.K fun ρ μ Q => wa ρ μ fun x μ1 => match x with | .bl k => if k = true then wb ρ μ1 Q else Q (.bl false) μ1 | _ => False) :=
  (pe_and ha hb).imp fun σ H Q' ⟨ρ, μ, Z, B, Q, hs, hw, fin⟩ => upE_i hs hw fun x μ1 v H1 Z1 l1 hs1 r1 hw1 => by
    cases x with
    | bl k =>
      cases r1
      refine ⟨k, rfl, ?_⟩
      cases k with
      | true =>
        simp only [if_true] at hw1
        rw [if_pos rfl]
        exact upE_i hs1 hw1 fun y μ2 u H2 Z2 l2 hs2 r2 q => fin _ _ _ _ _ (l1.trans l2) hs2.1 r2 q
      | false =>
        simp only [Bool.false_eq_true, if_false] at hw1
        rw [if_neg Bool.false_ne_true]
        exact fin _ _ _ _ _ l1 hs1.1 (.bl _) hw1
    | _ => exact hw1.elim
theorem e_or {r : List Expr} (ha : PE X a (upE X.K wa)) (hb : PE X (.BoolOp .Or (b :: r) pos) (upE X.K wb)) :
    PE X (.BoolOp .Or (a :: b :: r) pos) (upE X.K fun ρ μ Q => wa ρ μ fun x μ1 => match x with | .bl k => if k = true then Q (.bl true) μ1 else wb ρ μ1 Q | _ => False) :=
  (pe_or ha hb).imp fun σ H Q' ⟨ρ, μ, Z, B, Q, hs, hw, fin⟩ => upE_i hs hw fun x μ1 v H1 Z1 l1 hs1 r1 hw1 => by
    cases x with
    | bl k =>
      cases r1
      refine ⟨k, rfl, ?_⟩
      cases k with
      | false =>
        simp only [Bool.false_eq_true, if_false] at hw1
        rw [if_neg Bool.false_ne_true]
        exact upE_i hs1 hw1 fun y μ2 u H2 Z2 l2 hs2 r2 q => fin _ _ _ _ _ (l1.trans l2) hs2.1 r2 q
      | true =>
        simp only [if_true] at hw1
        rw [if_pos rfl]
        exact fin _ _ _ _ _ l1 hs1.1 (.bl _) hw1
    | _ => exact hw1.elim
variable {ta tb tc : WT}
theorem PT.pw {op : BoolOp} {vs : List Expr} {t : TT} (h : PT X (.BoolOp op vs pos) t) : PW X (.BoolOp op vs pos) t := ⟨fun _ pins s σ H Q I q => h.run pins s σ H Q I q⟩
theorem t_and {r : List Expr} (ha : PT X a (upT X.K ta)) (hb : PT X (.BoolOp .And (b :: r) pos) (upT X.K tb)) :
    PT X (.BoolOp .And (a :: b :: r) pos) (upT X.K fun ρ μ Q => ta ρ μ fun k μ1 => if k = true then tb ρ μ1 Q else Q false μ1) :=
  (PW.pt (pw_and ha (PT.pw hb))).imp fun σ H Q' ⟨ρ, μ, Z, B, Q, hs, hw, fin⟩ => upT_i hs hw fun k μ1 H1 Z1 l1 hs1 hw1 => by
    cases k with
    | true =>
      rw [if_pos rfl] at hw1 ⊢
      exact upT_i hs1 hw1 fun y μ2 H2 Z2 l2 hs2 q => fin _ _ _ _ (l1.trans l2) hs2.1 q
    | false =>
      rw [if_neg Bool.false_ne_true] at hw1 ⊢
      exact fin _ _ _ _ l1 hs1.1 hw1
theorem t_or {r : List Expr} (ha : PT X a (upT X.K ta)) (hb : PT X (.BoolOp .Or (b :: r) pos) (upT X.K tb)) :
    PT X (.BoolOp .Or (a :: b :: r) pos) (upT X.K fun ρ μ Q => ta ρ μ fun k μ1 => if k = true then Q true μ1 else tb ρ μ1 Q) :=
  (PW.pt (pw_or ha (PT.pw hb))).imp fun σ H Q' ⟨ρ, μ, Z, B, Q, hs, hw, fin⟩ => upT_i hs hw fun k μ1 H1 Z1 l1 hs1 hw1 => by
    cases k with
    | false =>
      rw [if_neg Bool.false_ne_true] at hw1 ⊢
      exact upT_i hs1 hw1 fun y μ2 H2 Z2 l2 hs2 q => fin _ _ _ _ (l1.trans l2) hs2.1 q
    | true =>
      rw [if_pos rfl] at hw1 ⊢
      exact fin _ _ _ _ l1 hs1.1 hw1
theorem t_not (ha : PT X a (upT X.K ta)) : PT X (.UnaryOp .Not a pos) (upT X.K fun ρ μ Q => ta ρ μ fun k μ1 => Q (!k) μ1) :=
  (pt_not ha).imp fun σ H Q' ⟨ρ, μ, Z, B, Q, hs, hw, fin⟩ => upT_i hs hw fun k μ1 H1 Z1 l1 hs1 hw1 => fin _ _ _ _ l1 hs1.1 hw1
theorem e_ife (hc : PT X c (upT X.K tc)) (ha : PE X a (upE X.K wa)) (hb : PE X b (upE X.K wb)) : PE X (.IfExp c a b pos) (upE X.K fun ρ μ Q => tc ρ μ fun k μ1 => if k = true then wa ρ μ1 Q else wb ρ μ1 Q) :=
  (pe_ifExp hc ha hb).imp fun σ H Q' ⟨ρ, μ, Z, B, Q, hs, hw, fin⟩ => upT_i hs hw fun k μ1 H1 Z1 l1 hs1 hw1 => by
    cases k with
    | true =>
      rw [if_pos rfl] at hw1 ⊢
      exact upE_i hs1 hw1 fun y μ2 u H2 Z2 l2 hs2 r q => fin _ _ _ _ _ (l1.trans l2) hs2.1 r q
    | false =>
      rw [if_neg Bool.false_ne_true] at hw1 ⊢
      exact upE_i hs1 hw1 fun y μ2 u H2 Z2 l2 hs2 r q => fin _ _ _ _ _ (l1.trans l2) hs2.1 r q
/-- a value as a test -/
theorem t_tru (ha : PE X a (upE X.K wa)) (he : ∀ whole, isTrue a X.env whole = (do let v ← whole; standAt a.pos; holding [v] (truthy v))) : PT X a (upT X.K (ofE wa)) :=
  (pt_truth ha he).imp fun σ H Q' ⟨ρ, μ, Z, B, Q, hs, hw, fin⟩ => upE_i hs hw fun x μ1 v H1 Z1 l1 hs1 r1 hw1 => by
    cases e : truD μ1 x with
    | none => rw [e] at hw1; exact hw1.elim
    | some k =>
      rw [e] at hw1
      exact ⟨k, tru_rel hs1.1 e r1, fin _ _ _ _ l1 hs1.1 hw1⟩

/-! ### lists of expressions -/
variable {es : List Expr} {was wbs : WA}
theorem a_nil : PA X [] (upA X.K fun _ μ Q => Q [] μ) :=
  pa_nil.imp fun σ H Q' ⟨ρ, μ, Z, B, Q, hs, hw, fin⟩ => fin _ _ _ _ _ LeW.refl hs.1 .nil hw
def notSt : Expr → Bool
  | .Starred .. => false
  | _ => true
theorem star_one {e : Expr} {es : List Expr} {env : Env} (h : notSt e = true) : starEach (e :: es) env = (false, eval e env) :: starEach es env := by
  cases e <;> first
    | rfl
    | cases h
theorem star_any {env : Env} {pos : Pos} : ∀ {es : List Expr}, es.all notSt = true → (backTo pos (starEach es env)).any (·.1) = false
  | [], _ => rfl
  | e :: es, h => by
    simp only [List.all_cons, Bool.and_eq_true] at h
    rw [star_one h.1]
    show (false || (backTo pos (starEach es env)).any (·.1)) = false
    rw [star_any h.2]; rfl
theorem a_cons (hst : notSt a = true) (ha : PE X a (upE X.K wa)) (hr : PA X es (upA X.K was)) : PA X (a :: es) (upA X.K fun ρ μ Q => wa ρ μ fun d μ1 => was ρ μ1 fun ds μ2 => Q (d :: ds) μ2) :=
  (pa_cons ha hr (star_one hst)).imp fun σ H Q' ⟨ρ, μ, Z, B, Q, hs, hw, fin⟩ => upE_i hs hw fun x μ1 v H1 Z1 l1 hs1 r1 hw1 => upA_i hs1 hw1 fun ds μ2 vs H2 Z2 l2 hs2 r2 q =>
    fin _ _ _ _ _ (l1.trans l2) hs2.1 (.cons (r1.le l2) r2) q
theorem e_tup {k : Nat} (h : PA X es (upA X.K was)) : PE X (.Tuple es k pos) (upE X.K fun ρ μ Q => was ρ μ fun ds μ1 => ds.length ≤ sizeLine ∧ Q (.tup ds) μ1) :=
  (pe_tup h).imp fun σ H Q' ⟨ρ, μ, Z, B, Q, hs, hw, fin⟩ => upA_i hs hw fun ds μ1 vs H1 Z1 l1 hs1 r1 hw1 => ⟨by rw [← r1.length]; exact hw1.1, fun p n => newT_ok (fin.later l1) hs1.1 r1 hw1.2 n⟩
theorem e_lst (h : PA X es (upA X.K was)) : PE X (.List es pos) (upE X.K fun ρ μ Q => was ρ μ fun ds μ1 => newL ds μ1 Q) :=
  (pe_lst h).imp fun σ H Q' ⟨ρ, μ, Z, B, Q, hs, hw, fin⟩ => upA_i hs hw fun ds μ1 vs H1 Z1 l1 hs1 r1 hw1 => newL_ok (fin.later l1) hs1.1 r1 hw1
theorem e_idx (hu : X.A.units + 64 < cLine) (hs : PlainIx b) (ha : PE X a (upE X.K wa)) (hb : PE X b (upE X.K wb)) : PE X (.Subscript a b pos) (upE X.K fun ρ μ Q => wa ρ μ fun x μ1 => wb ρ μ1 fun y μ2 => opIdx x y μ2 Q) :=
  (pe_ix (idx_ok hu) ha hb hs).imp fun σ H Q' ⟨ρ, μ, Z, B, Q, hs, hw, fin⟩ => upE_i hs hw fun x μ1 v H1 Z1 l1 hs1 r1 hw1 => upE_i hs1 hw1 fun y μ2 u H2 Z2 l2 hs2 r2 ho =>
    ⟨x, y, μ2, Z2, B, Q, hs2.1, r1.le l2, r2, ho, fin.later (l1.trans l2)⟩
def upO' (K : PySem.W.Frag) (w : Rho → M → (Option Int → M → Prop) → Prop) : TO := fun σ H Q' => ∃ (ρ : Rho) (μ : M) (Z B : List Addr) (Q : Option Int → M → Prop), Sta K ρ μ Z B σ H ∧ w ρ μ Q ∧ ∀ o μ' H' Z', Le H Z H' Z' → HRel K μ' Z' B H' → Q o μ' → Q' o H'
theorem upO_i {w : Rho → M → (Option Int → M → Prop) → Prop} {Q : Option Int → M → Prop} {R : Option Int → Hp → Prop} (hs : Sta K ρ μ Z B σ H) (hw : w ρ μ Q) (k : ∀ b μ' H' Z', Le H Z H' Z' → Sta K ρ μ' Z' B σ H' → Q b μ' → R b H') : upO' K w σ H R :=
  ⟨ρ, μ, Z, B, Q, hs, hw, fun b μ' H' Z' l hr q => k b μ' H' Z' l (hs.le l hr) q⟩
theorem o_none : PO X none (upO' X.K fun _ μ Q => Q none μ) := ⟨fun pins s σ H Q I ⟨ρ, μ, Z, B, Q0, hs, hw, fin⟩ => po_none.run pins s σ H Q I (fin _ _ _ _ LeW.refl hs.1 hw)⟩
theorem o_some (ha : PE X a (upE X.K wa)) : PO X (some a) (upO' X.K fun ρ μ Q => wa ρ μ fun d μ1 => match d with | .int i => Q (some i) μ1 | _ => False) :=
  ⟨fun pins s σ H Q I ⟨ρ, μ, Z, B, Q0, hs, hw, fin⟩ => (po_some ha).run pins s σ H Q I (upE_i hs hw fun x μ1 v H1 Z1 l1 hs1 r1 hw1 => by
    cases x with
    | int i => cases r1; exact ⟨i, rfl, fin _ _ _ _ l1 hs1.1 hw1⟩
    | _ => exact hw1.elim)⟩
theorem e_slc {lo hi : Option Expr} {p2 : Pos} {wl wh : Rho → M → (Option Int → M → Prop) → Prop} (ha : PE X a (upE X.K wa)) (hl : PO X lo (upO' X.K wl)) (hh : PO X hi (upO' X.K wh)) :
    PE X (.Subscript a (.Slice lo hi none p2) pos) (upE X.K fun ρ μ Q => wa ρ μ fun x μ1 => wl ρ μ1 fun l μ2 => wh ρ μ2 fun h μ3 => opSlc x l h μ3 Q) :=
  (pe_slice slc_ok ha hl hh).imp fun σ H Q' ⟨ρ, μ, Z, B, Q, hs, hw, fin⟩ => upE_i hs hw fun x μ1 v H1 Z1 l1 hs1 r1 hw1 => upO_i hs1 hw1 fun l μ2 H2 Z2 l2 hs2 hw2 => upO_i hs2 hw2 fun h μ3 H3 Z3 l3 hs3 q =>
    ⟨x, μ3, Z3, B, Q, hs3.1, (r1.le l2).le l3, q, fin.later ((l1.trans l2).trans l3)⟩

/-! ### calls -/
theorem up_cb {o : List D → M → WQ → Prop} (ha : PA X es (upA X.K was)) (h : PE X a (tCB (upL X.K o) (upA X.K was))) : PE X a (upE X.K fun ρ μ Q => was ρ μ fun ds μ1 => o ds μ1 Q) :=
  h.imp fun σ H Q' ⟨ρ, μ, Z, B, Q, hs, hw, fin⟩ => upA_i hs hw fun ds μ1 vs H1 Z1 l1 hs1 r1 hw1 => ⟨ds, μ1, Z1, B, Q, hs1.1, r1, hw1, fin.later l1⟩
/-- what a def promises over plain data is a promise over the heap -/
def lift (K : PySem.W.Frag) (S : DSpec) : Sp := fun vs H Q' _ => ∃ (ds : List D) (μ : M) (Z B : List Addr) (Q : WQ), HRel K μ Z B H ∧ RDs K H Z B ds vs ∧ S ds μ Q ∧ Fin K H Z B Q Q'
section
variable {k : Nat} {x : Str} {p : Pos} {f : Addr} {fd : FuncData} {ps : List Str} {S : DSpec} {e : Expr}
theorem e_cal (F : FnOk X.prog X.w X.K X.mg X.base CX0 k f fd ps (lift X.K S)) (hr : Room k X.A) (hg : Gl X x) (hm : X.mg x = some (.ref f)) (hk : PySem.W.keepIn X.K (.ref f) = true)
    (hb : Binds X.K fd ps []) (hst : (e :: es).all notSt = true) (hdb : (x == ("__debug__" : Str)) = false) (ha : PA X (e :: es) (upA X.K was)) :
    PE X (.Call (.Name x p) (e :: es) [] pos) (upE X.K fun ρ μ Q => was ρ μ fun ds μ1 => S ds μ1 Q) := by
  simp only [List.all_cons, Bool.and_eq_true] at hst
  refine (pe_call F hr hg hm hk hb .nil pass0 ha hdb (star_one hst.1) (star_any hst.2)).imp fun σ H Q' ⟨ρ, μ, Z, B, Q, hs, h, fin⟩ => upA_i hs h fun ds μ1 vs H1 Z1 l1 hs1 r1 q => ?_
  show lift X.K S (vs ++ []) H1 Q' E0
  rw [List.append_nil]
  exact ⟨ds, μ1, Z1, B, Q, hs1.1, r1, q, fin.later l1⟩
theorem e_cal0 (F : FnOk X.prog X.w X.K X.mg X.base CX0 k f fd ps (lift X.K S)) (hr : Room k X.A) (hg : Gl X x) (hm : X.mg x = some (.ref f)) (hk : PySem.W.keepIn X.K (.ref f) = true)
    (hb : Binds X.K fd ps []) (hdb : (x == ("__debug__" : Str)) = false) :
    PE X (.Call (.Name x p) [] [] pos) (upE X.K fun ρ μ Q => S [] μ Q) := by
  refine (pe_call0 F hr hg hm hk hb .nil pass0 hdb).imp fun σ H Q' ⟨ρ, μ, Z, B, Q, hs, h, fin⟩ => ?_
  exact ⟨[], μ, Z, B, Q, hs.1, .nil, h, fin⟩
/-! ### calls with keywords -/
def permV (perm : List Nat) (n m : Nat) (ds zs : List V) : List V := if ds.length = n ∧ zs.length = m then perm.map fun i => (ds ++ zs).getD i .non else []
def permU (perm : List Nat) (n m : Nat) (ds zs : List Value) : List Value := if ds.length = n ∧ zs.length = m then perm.map fun i => (ds ++ zs).getD i .none else []
theorem RDs.getD {ds : List D} {vs : List V} (r : RDs K H Z B ds vs) (i : Nat) : RD K H Z B (ds.getD i .non) (vs.getD i .non) := by
  rw [List.getD_eq_getElem?_getD, List.getD_eq_getElem?_getD]
  cases e : ds[i]? with
  | none =>
    have : vs[i]? = none := by
      rw [List.getElem?_eq_none_iff] at e ⊢
      rw [← r.length]
      exact e
    rw [this]
    exact .non
  | some d =>
    obtain ⟨v, e2, r2⟩ := r.get e
    rw [e2]
    exact r2
theorem perm_rd {perm : List Nat} {n m : Nat} {ds zs : List D} {vs ws : List V} (r : RDs K H Z B ds vs) (q : RDs K H Z B zs ws) : RDs K H Z B (permD perm n m ds zs) (permV perm n m vs ws) := by
  unfold permD permV
  rw [r.length, q.length]
  split
  · induction perm with
    | nil => exact .nil
    | cons i perm ih => exact .cons ((r.append q).getD i) ih
  · exact .nil
theorem vals_getD {vs : List V} {us : List Value} (r : Vals vs us) (i : Nat) : RelV (vs.getD i .non) (us.getD i .none) := by
  rw [List.getD_eq_getElem?_getD, List.getD_eq_getElem?_getD]
  cases e : vs[i]? with
  | none => rw [Vals.none_of r e]; exact rfl
  | some d =>
    obtain ⟨v, e2, r2⟩ := r.get e
    rw [e2]
    exact r2
theorem perm_rel {perm : List Nat} {n m : Nat} {vs zs : List V} {us ws : List Value} (r : Vals vs us) (q : Vals zs ws) : Vals (permV perm n m vs zs) (permU perm n m us ws) := by
  unfold permV permU
  rw [r.length, q.length]
  split
  · induction perm with
    | nil => exact .nil
    | cons i perm ih => exact .cons (vals_getD (r.append q) i) ih
  · exact .nil
def wKs (was wbs : WA) (n m : Nat) (perm : List Nat) (S : DSpec) : WE := fun ρ μ Q => was ρ μ fun ds μ1 => wbs ρ μ1 fun zs μ2 => S (permD perm n m ds zs) μ2 Q
def upK (K : PySem.W.Frag) (w : WA) : TA := upA K w
theorem kw_all {env : Env} {pos : Pos} : ∀ {kws : List Keyword}, kws.all (fun k => k.arg.isSome) = true → (backToKw pos (keywordEach kws env)).all (·.1.isSome) = true ∧ (backToKw pos (keywordEach kws env)).any (·.1.isNone) = false ∧
    (backToKw pos (keywordEach kws env)).filterMap (·.1) = kws.filterMap (·.arg)
  | [], _ => ⟨rfl, rfl, rfl⟩
  | ⟨nm, e, p⟩ :: r, h => by
    simp only [List.all_cons, Bool.and_eq_true] at h
    obtain ⟨h1, h2, h3⟩ := kw_all (env := env) (pos := pos) h.2
    cases nm with
    | none => exact absurd h.1 (by simp)
    | some y =>
      refine ⟨?_, ?_, ?_⟩
      · show (true && (backToKw pos (keywordEach r env)).all (·.1.isSome)) = true
        rw [h1]; rfl
      · show (false || (backToKw pos (keywordEach r env)).any (·.1.isNone)) = false
        rw [h2]; rfl
      · show y :: (backToKw pos (keywordEach r env)).filterMap (·.1) = y :: r.filterMap (·.arg)
        rw [h3]
theorem k_nil : PK X [] (upA X.K fun _ μ Q => Q [] μ) :=
  ⟨fun pos pins s σ H Q I ⟨ρ, μ, Z, B, Q0, hs, hw, fin⟩ => pk_nil.run pos pins s σ H Q I (fin _ _ _ _ _ LeW.refl hs.1 .nil hw)⟩
theorem k_cons {nm : Option Str} {kpos : Pos} {kws : List Keyword} (ha : PE X a (upE X.K wa)) (hr : PK X kws (upA X.K was)) : PK X (⟨nm, a, kpos⟩ :: kws) (upA X.K fun ρ μ Q => wa ρ μ fun d μ1 => was ρ μ1 fun ds μ2 => Q (d :: ds) μ2) :=
  ⟨fun pos pins s σ H Q' I ⟨ρ, μ, Z, B, Q, hs, hw, fin⟩ => (pk_cons ha hr).run pos pins s σ H Q' I (upE_i hs hw fun x μ1 v H1 Z1 l1 hs1 r1 hw1 => upA_i hs1 hw1 fun ds μ2 vs H2 Z2 l2 hs2 r2 q =>
    fin _ _ _ _ _ (l1.trans l2) hs2.1 (.cons (r1.le l2) r2) q)⟩
variable {ks : List Str} {kws : List Keyword} {n m : Nat} {perm : List Nat}
theorem e_cak (F : FnOk X.prog X.w X.K X.mg X.base CX0 k f fd ps (lift X.K S)) (hr : Room k X.A) (hg : Gl X x) (hm : X.mg x = some (.ref f)) (hk : PySem.W.keepIn X.K (.ref f) = true)
    (hb : KBinds X.K fd ps ks (permU perm n m) (permV perm n m)) (hst : (e :: es).all notSt = true) (hdb : (x == ("__debug__" : Str)) = false) (ha : PA X (e :: es) (upA X.K was)) (hkw : PK X kws (upA X.K wbs))
    (hall : kws.all (fun k => k.arg.isSome) = true) (hks : kws.filterMap (·.arg) = ks) :
    PE X (.Call (.Name x p) (e :: es) kws pos) (upE X.K (wKs was wbs n m perm S)) := by
  simp only [List.all_cons, Bool.and_eq_true] at hst
  obtain ⟨h1, h2, h3⟩ := kw_all (env := X.env) (pos := pos) hall
  refine (pe_callK F hr hg hm hk hb pass0 ha hkw h1 (h3.trans hks) hdb (star_one hst.1) ?_).imp fun σ H Q' ⟨ρ, μ, Z, B, Q, hs, h, fin⟩ => upA_i hs h fun ds μ1 vs H1 Z1 l1 hs1 r1 q1 => upA_i hs1 q1 fun zs μ2 ws H2 Z2 l2 hs2 r2 q2 => ?_
  · rw [h2, Bool.or_false]
    exact star_any (es := e :: es) (by simp only [List.all_cons, Bool.and_eq_true]; exact hst)
  · exact ⟨_, μ2, Z2, B, Q, hs2.1, perm_rd (r1.le l2) r2, q2, fin.later (l1.trans l2)⟩
theorem e_cak0 (F : FnOk X.prog X.w X.K X.mg X.base CX0 k f fd ps (lift X.K S)) (hr : Room k X.A) (hg : Gl X x) (hm : X.mg x = some (.ref f)) (hk : PySem.W.keepIn X.K (.ref f) = true)
    (hb : KBinds X.K fd ps ks (permU perm n m) (permV perm n m)) (hdb : (x == ("__debug__" : Str)) = false) (hkw : PK X kws (upA X.K wbs))
    (hall : kws.all (fun k => k.arg.isSome) = true) (hks : kws.filterMap (·.arg) = ks) :
    PE X (.Call (.Name x p) [] kws pos) (upE X.K (wKs (fun _ μ Q => Q [] μ) wbs n m perm S)) := by
  obtain ⟨h1, h2, h3⟩ := kw_all (env := X.env) (pos := pos) hall
  refine ⟨fun pins s σ H Q' I ⟨ρ, μ, Z, B, Q, hs, h, fin⟩ => ?_⟩
  refine wpAny_Call_Name_kw (ld_glob I hg hm ?_ hdb)
  refine PySem.W.callWith_KW0 (h₀ := X.base) I.ok.mod.kin hk h1 (thn (hkw.run pos pins s σ H _ I (upA_i (R := fun zs H2 => lift X.K S (permV perm n m [] zs) H2 Q' E0) hs h fun zs μ2 ws H2 Z2 l2 hs2 r2 q2 => ?_)) fun ws s2 ⟨zs, H2, I2, rz, q2⟩ => ?_) ?_
  · exact ⟨_, μ2, Z2, B, Q, hs2.1, perm_rd .nil r2, q2, fin.later l2⟩
  · rw [h3, hks]
    exact ⟨I2.kIn, run_fnk F hr hb pass0 I2 .nil rz q2⟩
  · rw [h2]; rfl
end

/-! ### methods of built-in types -/
def notCall : Expr → Bool
  | .Call .. => false
  | _ => true
theorem base_of {o : Expr} {name : Str} {env : Env} {w : Sem Value} (h : notCall o = true) : attributeBase o name env w = w := by
  cases o <;> first
    | rfl
    | cases h
theorem few_of {e : Expr} {es : List Expr} {pos : Pos} {env : Env} (hst : (e :: es).all notSt = true) (hl : (e :: es).length < 30) :
    ((backTo pos (starEach (e :: es) env)).all (fun x => !x.1) && (backToKw pos (keywordEach [] env)).all (fun x => x.1.isSome)
      && decide ((e :: es).length + ([] : List Keyword).length + (if ([] : List Keyword).isEmpty then 0 else 1) < 30)) = true := by
  have h1 := star_any (env := env) (pos := pos) hst
  have h2 : (backTo pos (starEach (e :: es) env)).all (fun x => !x.1) = true := by
    rw [List.all_eq_true]
    intro y hy
    rw [List.any_eq_false] at h1
    have := h1 y hy
    simpa using this
  rw [h2]
  simp only [List.length_nil, List.isEmpty_nil, if_true, Nat.add_zero, Bool.true_and]
  show (true && _) = true
  simpa using hl
theorem mok_ty {d : D} {v : V} (hr : HRel K μ Z B H) (h : mOk μ d = true) (r : RD K H Z B d v) : tyV K "list" v H := by
  cases d with
  | cel n =>
    simp only [mOk] at h
    split at h
    · rename_i xs q
      obtain ⟨a, rfl, _, vs, h1, _⟩ := hr.at_ q r
      exact .inl ⟨rfl, _, .of h1⟩
    · cases h
  | _ => cases h
theorem e_mth {m : MI} {o e : Expr} {es : List Expr} {wo : WE} {name : Str} {apos cpos : Pos} {id : String} (slot : Slot "list" name id) (hty : typeOf (.builtin id) = pure (.type "method_descriptor")) (hm : MtR X id (upM X.K m))
    (ho : PE X o (upE X.K wo)) (ha : PA X (e :: es) (upA X.K was)) (hb : notCall o = true) (hl : (e :: es).length < 30) (hst : (e :: es).all notSt = true) (hline : (apos.endLine == cpos.line) = true) :
    PE X (.Call (.Attribute o name apos) (e :: es) [] cpos) (upE X.K fun ρ μ Q => wo ρ μ fun d μ1 => mOk μ1 d = true ∧ was ρ μ1 fun ds μ2 => opMth m d ds μ2 Q) := by
  have hst' := hst
  simp only [List.all_cons, Bool.and_eq_true] at hst'
  refine (pe_bm PySem.F.plainAttrs_list slot hty hm ho ha (base_of hb) (few_of hst hl) hline (star_one hst'.1) (star_any hst'.2)).imp fun σ H Q' ⟨ρ, μ, Z, B, Q, hs, h, fin⟩ => upE_i hs h fun d μ1 v H1 Z1 l1 hs1 r1 q1 => ⟨mok_ty hs1.1 q1.1 r1, upA_i hs1 q1.2 fun ds μ2 vs H2 Z2 l2 hs2 r2 q2 => ?_⟩
  exact ⟨d, ds, μ2, Z2, B, Q, hs2.1, r1.le l2, r2, q2, fin.later (l1.trans l2)⟩
theorem e_mth0 {m : MI} {o : Expr} {wo : WE} {name : Str} {apos cpos : Pos} {id : String} (slot : Slot "list" name id) (hty : typeOf (.builtin id) = pure (.type "method_descriptor")) (hm : MtR X id (upM X.K m))
    (ho : PE X o (upE X.K wo)) (hb : notCall o = true) (hline : (apos.endLine == cpos.line) = true) :
    PE X (.Call (.Attribute o name apos) [] [] cpos) (upE X.K fun ρ μ Q => wo ρ μ fun d μ1 => mOk μ1 d = true ∧ opMth m d [] μ1 Q) :=
  (pe_bm0 PySem.F.plainAttrs_list slot hty hm ho (base_of hb) hline).imp fun σ H Q' ⟨ρ, μ, Z, B, Q, hs, h, fin⟩ => upE_i hs h fun d μ1 v H1 Z1 l1 hs1 r1 q1 => ⟨mok_ty hs1.1 q1.1 r1,
    d, [], μ1, Z1, B, Q, hs1.1, r1, .nil, q1.2, fin.later l1⟩
end
end Rf

set_option Elab.async false
set_option linter.all false
set_option maxRecDepth 100000
/-! Rf6: displays of dicts, what is walked, comprehensions -/
namespace Rf
open PySem L2 PySem.Spec PyProof.Rows
variable {K : PySem.W.Frag} {H H1 H2 H' : Hp} {Z Z1 Z' B : List Addr} {μ μ' : M} {ρ ρ' : Rho} {σ : L2.St}

/-! ### dicts -/
/-- pairs evaluated from the left -/
def upPr (K : PySem.W.Frag) (w : Rho → M → (List (Key × D) → M → Prop) → Prop) (trs : List (TE × TE)) : Prop :=
  ∀ (σ : L2.St) (H : Hp) (Q' : List (V × V) → Hp → Prop) (ρ : Rho) (μ : M) (Z B : List Addr) (Q : List (Key × D) → M → Prop), Sta K ρ μ Z B σ H → w ρ μ Q →
    (∀ kvs μ' kws H' Z', Le H Z H' Z' → HRel K μ' Z' B H' → RKs K H' Z' B kvs kws → Q kvs μ' → Q' (kws.map fun kv => (kV kv.1, kv.2)) H') → tPairs trs σ H Q'
theorem pr_nil : upPr K (fun _ μ Q => Q [] μ) [] := fun σ H Q' ρ μ Z B Q hs hw fin => fin [] μ [] H Z LeW.refl hs.1 .nil hw
theorem pr_cons {wk wv : WE} {w : Rho → M → (List (Key × D) → M → Prop) → Prop} {trs : List (TE × TE)} (h : upPr K w trs) :
    upPr K (fun ρ μ Q => wk ρ μ fun x μ1 => wv ρ μ1 fun d μ2 => match keyD x with | some key => w ρ μ2 fun kvs μ3 => Q ((key, d) :: kvs) μ3 | none => False) ((upE K wk, upE K wv) :: trs) := by
  intro σ H Q' ρ μ Z B Q hs hw fin
  refine upE_i hs hw fun x μ1 v H1 Z1 l1 hs1 r1 hw1 => upE_i hs1 hw1 fun d μ2 u H2 Z2 l2 hs2 r2 hw2 => ?_
  cases e : keyD x with
  | none => rw [e] at hw2; exact hw2.elim
  | some key =>
    rw [e] at hw2
    have ev := keyD_rel e r1
    subst ev
    refine h σ H2 _ ρ μ2 Z2 B _ hs2 hw2 fun kvs μ3 kws H3 Z3 l3 hr3 r3 q => ?_
    exact fin ((key, d) :: kvs) μ3 ((key, u) :: kws) H3 Z3 ((l1.trans l2).trans l3) hr3 (.cons ⟨rfl, r2.le l3⟩ r3) q
theorem Le.celled {p : Addr} {o o' : HO} (n : H p = none) (l : Le (upd H p o) Z H1 Z1) (e : H1 p = some o) : Le H Z (upd H1 p o') (Z1 ++ [p]) := by
  refine ⟨fun a u ea nz _ => ?_, ?_, fun a u ea => ?_⟩
  · have hne : a ≠ p := ne_of_none ea n
    obtain ⟨h1, h2⟩ := l.keep a u (by rw [upd_ne hne]; exact ea) nz (by simp)
    refine ⟨by rw [upd_ne hne]; exact h1, fun z => ?_⟩
    rcases List.mem_append.mp z with z | z
    · exact h2 z
    · exact hne (by simpa using z)
  · obtain ⟨Y, rfl⟩ := l.pre
    exact ⟨Y ++ [p], by simp⟩
  · have hne : a ≠ p := ne_of_none ea n
    obtain ⟨u', h1⟩ := l.there a u (by rw [upd_ne hne]; exact ea)
    exact ⟨u', by rw [upd_ne hne]; exact h1⟩
theorem Le.frozen {p : Addr} {o o' : HO} (n : H p = none) (l : Le (upd H p o) Z H1 Z1) : Le H Z (upd H1 p o') Z1 := by
  refine ⟨fun a u ea nz _ => ?_, l.pre, fun a u ea => ?_⟩
  · have hne : a ≠ p := ne_of_none ea n
    obtain ⟨h1, h2⟩ := l.keep a u (by rw [upd_ne hne]; exact ea) nz (by simp)
    exact ⟨by rw [upd_ne hne]; exact h1, h2⟩
  · have hne : a ≠ p := ne_of_none ea n
    obtain ⟨u', h1⟩ := l.there a u (by rw [upd_ne hne]; exact ea)
    exact ⟨u', by rw [upd_ne hne]; exact h1⟩
section
variable {X : Cx} {pos : Pos}
theorem e_dct {w : Rho → M → (List (Key × D) → M → Prop) → Prop} {keys : List (Option Expr)} {values : List Expr} {trs : List (TE × TE)} (h : PPs X pos keys values trs) (hu : upPr X.K w trs) (hall : keys.all (·.isSome) = true)
    (hl : keys.length = values.length) (h0 : keys ≠ []) (hle : keys.length ≤ 15) : PE X (.Dict keys values pos) (upE X.K fun ρ μ Q => w ρ μ fun kvs μ1 => kvs.length ≤ 15 ∧ kvs ≠ [] ∧ Q (.cel μ1.length) (μ1 ++ [.dK (dmerge [] kvs)])) := by
  refine (pe_disp h hall hl h0 (by omega)).imp fun σ H Q' ⟨ρ, μ, Z, B, Q, hs, hw, fin⟩ => fun p n => ?_
  have hr1 := hs.1.lay (o := .dK []) n
  have l0 : Le H Z (upd H p (.dK [])) Z := Le.new n
  have hs1 : Sta X.K ρ μ Z (p :: B) σ (upd H p (.dK [])) := ⟨hr1, (hs.2.busy n).mono l0.weak⟩
  refine hu σ _ _ ρ μ Z (p :: B) _ hs1 hw fun kvs μ1 kws H1 Z1 l1 hr r q => ?_
  obtain ⟨q1, q2, q3⟩ := q
  have hp : p ∉ Z := (hs.1.fresh n).1
  have hpB : p ∉ B := (hs.1.fresh n).2
  have e1 : H1 p = some (.dK []) := (l1.keep p _ upd_same hp (by simp)).1
  refine ⟨e1, kws, rfl, by rw [← r.length]; exact q1, ?_⟩
  have l2 : Le H Z (upd H1 p (.dK (mergeK [] kws))) (Z1 ++ [p]) := Le.celled n l1 e1
  have lw : LeW (p :: B) H1 Z1 (upd H1 p (.dK (mergeK [] kws))) Z1 := LeW.wr (List.mem_cons_self)
  have nz1 : p ∉ Z1 := fun z => hr.zb p z (List.mem_cons_self)
  have hr2 : HRel X.K μ1 Z1 (p :: B) (upd H1 p (.dK (mergeK [] kws))) := hr.keep lw fun a za => upd_ne fun z => nz1 (z ▸ za)
  exact fin (.cel μ1.length) _ (.ref p) _ _ l2 (hr2.celled hpB (c := .dK (dmerge [] kvs)) ⟨_, upd_same, RKs.free (RKs.mono LeW.cell (RKs.mono lw (r.merge .nil)))⟩) (.cel (by rw [← hr.len]; simp)) q3

/-! ### what is walked -/
def Serves (K : PySem.W.Frag) (J : It) (s : Src) (H0 : Hp) (Z0 B : List Addr) : Prop :=
  ∀ (Bx : List Addr), (Bx = B ∨ ∃ p, H0 p = none ∧ Bx = p :: B) → ∀ (H' : Hp) (Z' : List Addr) (μ' : M), LeW Bx H0 Z0 H' Z' → HRel K μ' Z' Bx H' → s.ok μ' →
    (∀ i, i < s.items.length → J.go i H') ∧ (∀ i v H'' d, J.yld i H' v H'' → s.items[i]? = some d → H'' = H' ∧ RD K H' Z' Bx d v) ∧ ∀ i, s.items.length ≤ i → J.stop i H'
def upI (K : PySem.W.Frag) (w : WI) : TI := fun σ H R => ∃ (ρ : Rho) (μ : M) (Z B : List Addr) (Q : Src → M → Prop), Sta K ρ μ Z B σ H ∧ w ρ μ Q ∧ ∀ s μ' J H' Z', Le H Z H' Z' → HRel K μ' Z' B H' → s.ok μ' → Serves K J s H' Z' B → Q s μ' → R J H'
variable {e : Expr} {we : WE} {tg : Expr}
def iSeq (K : PySem.W.Frag) (tl : TE) : TI := fun σ H R => tl σ H fun x H1 => ∃ a, x = .ref a ∧ (((∃ xs, SqL K H1 a xs) ∧ R (Itl K a) H1) ∨ ((∃ xs, SqT K H1 a xs) ∧ R (Itt K a) H1))
theorem pi_seq {tl : TE} (hl : PE X e tl) : PI X tg e (iSeq X.K tl) := by
  refine ⟨fun pins s σ H R I h => ?_⟩
  refine thn (hl.run pins s σ H _ I h) fun v s1 ⟨x, H1, I1, r1, q1⟩ => ?_
  obtain ⟨a, ex, q1⟩ := q1
  subst ex
  cases r1
  rcases q1 with ⟨⟨xs, hq⟩, q⟩ | ⟨⟨xs, hq⟩, q⟩
  · obtain ⟨its, rv, p, hz⟩ := I1.list hq
    refine wpAny_pyIter_list p.isList ?_
    refine ⟨s1.heap.objs.size, [s1.heap.objs.size], _, _, H1, rfl, I1.kept (t' := s1.toks) fun b o e => Heap.get?_push_of_some _ e, turn_list a _, ⟨_, Heap.get?_push_size _ rfl, rfl, rfl⟩, fun b hb => ?_, q⟩
    have e : b = s1.heap.objs.size := by simpa using hb
    subst e
    exact I1.fpOk (Nat.le_refl _) (I1.hok.fresh (Nat.le_refl _))
  · obtain ⟨its, rv, p, hz⟩ := I1.tuple hq
    refine wpAny_pyIter_tuple (show s1.heap.IsTuple a its.toArray from p) ?_
    refine ⟨s1.heap.objs.size, [s1.heap.objs.size], _, _, H1, rfl, I1.kept (t' := s1.toks) fun b o e => Heap.get?_push_of_some _ e, turn_tuple a _, ⟨_, Heap.get?_push_size _ rfl, rfl, rfl⟩, fun b hb => ?_, q⟩
    have e : b = s1.heap.objs.size := by simpa using hb
    subst e
    exact I1.fpOk (Nat.le_refl _) (I1.hok.fresh (Nat.le_refl _))
theorem sq_inj {a : Addr} {xs ys : List V} {Hx : Hp} (h1 : SqL K Hx a xs) (hn : Hx a = some (.lst xs) ∨ ∃ o, Hx a = some (.frz o (.lst xs))) (h2 : Rd Hx a (.lst ys)) : xs = ys := by
  rcases hn with hn | ⟨o, hn⟩ <;> rcases h2 with h2 | ⟨o', h2⟩ <;> (rw [hn] at h2; cases h2; try rfl)
theorem serves_list {a : Addr} {vs : List V} {s : Src} (h : ∀ (Bx : List Addr), (Bx = B ∨ ∃ p, H p = none ∧ Bx = p :: B) → ∀ (H' : Hp) (Z' : List Addr) (μ' : M), LeW Bx H Z H' Z' → HRel K μ' Z' Bx H' → s.ok μ' → ∃ vs, SqL K H' a vs ∧ RDs K H' Z' Bx s.items vs) : Serves K (Itl K a) s H Z B := by
  intro Bx hB H' Z' μ' l hr ok
  obtain ⟨vs, sq, rs⟩ := h Bx hB H' Z' μ' l hr ok
  refine ⟨fun i hi => ?_, fun i v H'' d y e => ?_, fun i hi => ⟨vs, sq, by rw [← rs.length]; exact hi⟩⟩
  · obtain ⟨v, e, _⟩ := rs.get (List.getElem?_eq_getElem hi)
    exact ⟨vs, v, sq, e⟩
  · obtain ⟨e1, e2⟩ := y
    subst e1
    obtain ⟨w, e3, r⟩ := rs.get e
    have := e2 vs sq
    rw [e3] at this
    cases this
    exact ⟨rfl, r⟩
theorem serves_tup {a : Addr} {s : Src} (h : ∀ (Bx : List Addr), (Bx = B ∨ ∃ p, H p = none ∧ Bx = p :: B) → ∀ (H' : Hp) (Z' : List Addr) (μ' : M), LeW Bx H Z H' Z' → HRel K μ' Z' Bx H' → s.ok μ' → ∃ vs, SqT K H' a vs ∧ RDs K H' Z' Bx s.items vs) : Serves K (Itt K a) s H Z B := by
  intro Bx hB H' Z' μ' l hr ok
  obtain ⟨vs, sq, rs⟩ := h Bx hB H' Z' μ' l hr ok
  refine ⟨fun i hi => ?_, fun i v H'' d y e => ?_, fun i hi => ⟨vs, sq, by rw [← rs.length]; exact hi⟩⟩
  · obtain ⟨v, e, _⟩ := rs.get (List.getElem?_eq_getElem hi)
    exact ⟨vs, v, sq, e⟩
  · obtain ⟨e1, e2⟩ := y
    subst e1
    obtain ⟨w, e3, r⟩ := rs.get e
    have := e2 vs sq
    rw [e3] at this
    cases this
    exact ⟨rfl, r⟩
theorem rds_bx {Bx : List Addr} (hB : Bx = B ∨ ∃ p, H p = none ∧ Bx = p :: B) {ds : List D} {vs : List V} (r : RDs K H Z B ds vs) : RDs K H Z Bx ds vs := by
  rcases hB with rfl | ⟨p, n, rfl⟩
  · exact r
  · exact r.busy n
theorem fzt_bx {Bx : List Addr} (hB : Bx = B ∨ ∃ p, H p = none ∧ Bx = p :: B) {a : Addr} {vs : List V} (r : FzT K H Z B a vs) : FzT K H Z Bx a vs := by
  rcases hB with rfl | ⟨p, n, rfl⟩
  · exact r
  · exact r.busy n
theorem fzs_bx {Bx : List Addr} (hB : Bx = B ∨ ∃ p, H p = none ∧ Bx = p :: B) {a : Addr} {vs : List V} (r : FzS K H Z B a vs) : FzS K H Z Bx a vs := by
  rcases hB with rfl | ⟨p, n, rfl⟩
  · exact r
  · exact r.busy n
theorem nbx {Bx : List Addr} (hB : Bx = B ∨ ∃ p, H p = none ∧ Bx = p :: B) {a : Addr} {o : HO} (f : H a = some o) (b : a ∉ B) : a ∉ Bx := by
  rcases hB with rfl | ⟨p, n, rfl⟩
  · exact b
  · intro z
    rcases List.mem_cons.mp z with z | z
    · exact ne_of_none f n z
    · exact b z
theorem src_ok {d : D} {s : Src} {v : V} (hr : HRel K μ Z B H) (e : srcOf μ d = some s) (r : RD K H Z B d v) : s.ok μ ∧ ∃ a, v = .ref a ∧ ((∃ vs, SqL K H a vs) ∧ Serves K (Itl K a) s H Z B ∨ (∃ vs, SqT K H a vs) ∧ Serves K (Itt K a) s H Z B) := by
  cases d with
  | cel n =>
    simp only [srcOf] at e
    split at e
    · rename_i xs q
      cases e
      refine ⟨fun m em => by cases em; exact q, ?_⟩
      obtain ⟨a, rfl, ea, vs, h1, rs⟩ := hr.at_ q r
      refine ⟨a, rfl, .inl ⟨⟨vs, .of h1⟩, serves_list (vs := vs) fun Bx hB H' Z' μ' l hr' ok => ?_⟩⟩
      have q' := ok n rfl
      obtain ⟨a', ea', vs', h1', rs'⟩ := hr'.cel n _ q'
      rw [l.at_ ea] at ea'
      cases ea'
      exact ⟨vs', .of h1', rs'⟩
    · cases e
  | tup xs =>
    cases e
    refine ⟨fun m em => (by cases em), ?_⟩
    cases r with
    | tup f rs => exact ⟨_, rfl, .inr ⟨⟨_, f.sq⟩, serves_tup fun Bx hB H' Z' μ' l hr' ok => ⟨_, (FzT.mono l (fzt_bx hB f)).sq, RDs.mono l (rds_bx hB rs)⟩⟩⟩
  | lst xs =>
    cases e
    refine ⟨fun m em => (by cases em), ?_⟩
    cases r with
    | lst f n b rs => exact ⟨_, rfl, .inl ⟨⟨_, .of f⟩, serves_list (vs := []) fun Bx hB H' Z' μ' l hr' ok => by
        exact ⟨_, .of (l.keep _ _ f n (nbx hB f b)).1, RDs.mono l (rds_bx hB rs)⟩⟩⟩
  | scr xs =>
    cases e
    refine ⟨fun m em => (by cases em), ?_⟩
    cases r with
    | scr f rs => exact ⟨_, rfl, .inl ⟨⟨_, f.sq⟩, serves_list (vs := []) fun Bx hB H' Z' μ' l hr' ok => ⟨_, (FzS.mono l (fzs_bx hB f)).sq, RDs.mono l (rds_bx hB rs)⟩⟩⟩
  | _ => cases e
theorem i_sq (ha : PE X e (upE X.K we)) : PI X tg e (upI X.K fun ρ μ Q => we ρ μ fun d μ1 => match srcOf μ1 d with | some s => Q s μ1 | none => False) :=
  (pi_seq ha).imp fun σ H R ⟨ρ, μ, Z, B, Q, hs, h, fin⟩ => upE_i hs h fun d μ1 v H1 Z1 l1 hs1 r1 q1 => by
    cases es : srcOf μ1 d with
    | none => rw [es] at q1; exact q1.elim
    | some s =>
      rw [es] at q1
      obtain ⟨ok, a, rfl, ⟨q, sv⟩ | ⟨q, sv⟩⟩ := src_ok hs1.1 es r1
      · exact ⟨a, rfl, .inl ⟨q, fin s μ1 _ H1 Z1 l1 hs1.1 ok sv q1⟩⟩
      · exact ⟨a, rfl, .inr ⟨q, fin s μ1 _ H1 Z1 l1 hs1.1 ok sv q1⟩⟩
theorem serves_range {lo : Int} {n : Nat} : Serves K (Itr lo n) ⟨none, rangeD lo n⟩ H Z B := by
  intro Bx hB H' Z' μ' l hr ok
  have hl : (rangeD lo n).length = n := by simp [rangeD]
  refine ⟨fun i hi => ?_, fun i v H'' d y e => ?_, fun i hi => ?_⟩
  · show i < n
    rw [← hl]; exact hi
  · obtain ⟨e1, e2⟩ := y
    subst e1 e2
    refine ⟨rfl, ?_⟩
    have e : (rangeD lo n)[i]? = some d := e
    unfold rangeD at e
    rw [List.getElem?_map] at e
    cases q : (List.range n)[i]? with
    | none => rw [q] at e; cases e
    | some j =>
      rw [q] at e
      cases e
      have : j = i := by
        have hi := (List.getElem?_eq_some_iff.mp q).1
        rw [List.getElem?_range (by simpa using hi)] at q
        exact (Option.some.inj q).symm
      subst this
      exact .int _
  · show n ≤ i
    rw [← hl]; exact hi
variable {a b : Expr} {wa wb : WE} {p : Pos}
theorem i_r1 (hg : Gl X "range") (hm : X.mg "range" = none) (hst : notSt a = true) (ha : PE X a (upE X.K wa)) : PI X tg (.Call (.Name "range" p) [a] [] pos) (upI X.K fun ρ μ Q => wa ρ μ fun d μ1 => match d with | .int j => bnd j ∧ Q ⟨none, rangeD 0 j.toNat⟩ μ1 | _ => False) :=
  (pi_range1 hg hm (pa_cons ha pa_nil (star_one hst)) (star_one hst)).imp fun σ H R ⟨ρ, μ, Z, B, Q, hs, h, fin⟩ => upE_i hs h fun d μ1 v H1 Z1 l1 hs1 r1 q1 => by
    cases d with
    | int j =>
      obtain ⟨⟨b1, b2⟩, q⟩ := q1
      cases r1
      exact ⟨j, rfl, b1, b2, fin _ _ _ _ _ l1 hs1.1 (fun m em => by cases em) serves_range q⟩
    | _ => exact q1.elim
theorem i_r2 (hg : Gl X "range") (hm : X.mg "range" = none) (hst : notSt a = true) (hst2 : notSt b = true) (ha : PE X a (upE X.K wa)) (hb : PE X b (upE X.K wb)) : PI X tg (.Call (.Name "range" p) [a, b] [] pos) (upI X.K fun ρ μ Q => wa ρ μ fun d μ1 => wb ρ μ1 fun e μ2 => match d with
    | .int i => match e with
      | .int j => bnd i ∧ bnd j ∧ Q ⟨none, rangeD i (j - i).toNat⟩ μ2
      | _ => False
    | _ => False) :=
  (pi_range2 hg hm (pa_cons ha (pa_cons hb pa_nil (star_one hst2)) (star_one hst)) (by rw [star_one hst, star_one hst2]; rfl) (star_one hst2)).imp fun σ H R ⟨ρ, μ, Z, B, Q, hs, h, fin⟩ => upE_i hs h fun d μ1 v H1 Z1 l1 hs1 r1 q1 => upE_i hs1 q1 fun e μ2 w H2 Z2 l2 hs2 r2 q2 => by
    cases d with
    | int i =>
      cases e with
      | int j =>
        obtain ⟨⟨b1, b2⟩, ⟨b3, b4⟩, q⟩ := q2
        cases r1
        cases r2
        exact ⟨i, j, rfl, ⟨b1, b2, b3, b4⟩, fin _ _ _ _ _ (l1.trans l2) hs2.1 (fun m em => by cases em) serves_range q⟩
      | _ => exact q2.elim
    | _ => exact q2.elim

/-! ### targets -/
theorem wipe_in {σ : L2.St} {j : Nat} : ∀ {vs : List Nat}, j ∈ vs → j < σ.length → (L2.wipe σ vs)[j]? = some none
  | v :: vs, h, hl => by
    unfold L2.wipe
    by_cases e : v = j
    · subst e
      rw [List.getElem?_set_self (by rw [L2.wipe_length]; exact hl)]
    · rw [List.getElem?_set_ne e]
      exact wipe_in ((List.mem_cons.mp h).resolve_left fun z => e z.symm) hl
theorem wipe_ext {σ σ' : L2.St} {own : List Nat} (hl : σ.length = σ'.length) (h : ∀ j, j ∉ own → σ[j]? = σ'[j]?) : L2.wipe σ own = L2.wipe σ' own := by
  apply List.ext_getElem?
  intro j
  by_cases hj : j ∈ own
  · by_cases hl' : j < σ.length
    · rw [wipe_in hj hl', wipe_in hj (by rw [← hl]; exact hl')]
    · rw [List.getElem?_eq_none (by rw [L2.wipe_length]; omega), List.getElem?_eq_none (by rw [L2.wipe_length]; omega)]
  · rw [L2.wipe_out hj, L2.wipe_out hj]
    exact h j hj
/-- only these slots differ -/
def Dif (is : List Nat) (σ σ' : L2.St) : Prop := σ.length = σ'.length ∧ ∀ j, j ∉ is → σ[j]? = σ'[j]?
theorem Dif.wipe {is own : List Nat} {σ σ' : L2.St} (d : Dif is σ σ') (h : ∀ i ∈ is, i ∈ own) : L2.wipe σ' own = L2.wipe σ own :=
  (wipe_ext d.1 fun j hj => d.2 j fun z => hj (h j z)).symm
theorem wipe_wipe {σ : L2.St} {own : List Nat} : L2.wipe (L2.wipe σ own) own = L2.wipe σ own :=
  wipe_ext (L2.wipe_length _ _) fun j hj => L2.wipe_out hj
/-- a name, a tuple of names: what is bound -/
def upG (K : PySem.W.Frag) (tg : CT) (g : TG) : Prop := ∀ (v : V) (σ : L2.St) (H : Hp) (R : L2.St → Hp → Prop) (d : D) (ρ ρ2 : Rho) (μ : M) (Z B : List Addr), RR K H Z B ρ σ → RD K H Z B d v → bindT μ tg d ρ = some ρ2 →
  (∀ σ2, RR K H Z B ρ2 σ2 → Dif tg.slots σ σ2 → R σ2 H) → g v σ H R
theorem Dif.set {i : Nat} {σ : L2.St} {v : V} : Dif [i] σ (σ.set i (some v)) := ⟨by rw [List.length_set], fun j hj => by rw [List.getElem?_set_ne (fun z => hj (by simp [z]))]⟩
theorem g_nm {i : Nat} : upG K (.nm i) (gName i) := fun v σ H R d ρ ρ2 μ Z B hr r e k => by
  cases e
  exact k _ (hr.set r i) Dif.set
def gNames : List Nat → TGs
  | [] => gNil
  | i :: is => gCons (gName i) (gNames is)
theorem gNames_ok : ∀ {is : List Nat} {ds : List D} {vs : List V} {ρ ρ2 : Rho} {σ : L2.St} {R : L2.St → Hp → Prop}, RR K H Z B ρ σ → RDs K H Z B ds vs → setsD is ds ρ = some ρ2 → (∀ σ2, RR K H Z B ρ2 σ2 → Dif is σ σ2 → R σ2 H) → gNames is vs σ H R
  | [], [], vs, ρ, ρ2, σ, R, hr, r, e, k => by cases e; cases r; exact ⟨rfl, k _ hr ⟨rfl, fun _ _ => rfl⟩⟩
  | [], _ :: _, vs, ρ, ρ2, σ, R, hr, r, e, k => by cases e
  | _ :: _, [], vs, ρ, ρ2, σ, R, hr, r, e, k => by cases e
  | i :: is, d :: ds, vs, ρ, ρ2, σ, R, hr, r, e, k => by
    cases r with
    | cons r1 r2 =>
      refine ⟨_, _, rfl, gNames_ok (hr.set r1 i) r2 e fun σ2 h1 h2 => k σ2 h1 ⟨by rw [← h2.1, List.length_set], fun j hj => ?_⟩⟩
      rw [← h2.2 j fun z => hj (List.mem_cons_of_mem _ z), List.getElem?_set_ne (fun z => hj (by rw [z]; exact List.mem_cons_self))]
theorem setsD_len : ∀ {is : List Nat} {ds : List D} {ρ ρ2 : Rho}, setsD is ds ρ = some ρ2 → ds.length = is.length ∧ ρ2.length = ρ.length
  | [], [], ρ, ρ2, e => by cases e; exact ⟨rfl, rfl⟩
  | [], _ :: _, ρ, ρ2, e => by cases e
  | _ :: _, [], ρ, ρ2, e => by cases e
  | i :: is, d :: ds, ρ, ρ2, e => by
    obtain ⟨h1, h2⟩ := setsD_len (is := is) (ds := ds) e
    exact ⟨by simp [h1], by rw [h2, List.length_set]⟩
theorem g_tp {is : List Nat} : upG K (.tp is) (gTup K is.length (gNames is)) := fun v σ H R d ρ ρ2 μ Z B hr r e k => by
  cases d with
  | tup ds =>
    cases r with
    | tup f rs => exact ⟨_, _, rfl, f.sq, by rw [← rs.length]; exact (setsD_len (show setsD is ds ρ = some ρ2 from e)).1, gNames_ok hr rs e k⟩
  | _ => cases e

/-! ### comprehensions -/
theorem LeW.strong {p : Addr} (n : H p = none) (l : LeW [p] H Z H1 Z1) : Le H Z H1 Z1 := ⟨fun a o e nz _ => l.keep a o e nz (by
  have := ne_of_none e n
  simpa using this), l.pre, l.there⟩
theorem LeW.strongc {p : Addr} (n : H p = none) (l : LeW [p] H Z H1 Z1) : Le H Z H1 (Z1 ++ [p]) := by
  refine ⟨fun a o e nz _ => ?_, ?_, l.there⟩
  · have hne := ne_of_none e n
    obtain ⟨h1, h2⟩ := l.keep a o e nz (by simpa using hne)
    refine ⟨h1, fun z => ?_⟩
    rcases List.mem_append.mp z with z | z
    · exact h2 z
    · exact hne (by simpa using z)
  · obtain ⟨Y, rfl⟩ := l.pre
    exact ⟨Y ++ [p], by simp⟩
theorem lc_up {ct : CT} {wi : WI} {wf : WT} {wel : WE} {own : List Nat} {ti : TI} {g : TG} {tf : TT} {te : TE} (hi : ∀ σ H R, upI K wi σ H R → ti σ H R) (hg : upG K ct g) (hsl : ∀ i ∈ ct.slots, i ∈ own)
    (hf : ∀ σ H R, upT K wf σ H R → tf σ H R) (he : ∀ σ H R, upE K wel σ H R → te σ H R) :
    ∀ σ H Q', upE K (fun ρ μ Q => wi ρ μ fun s μ1 => wLc ct wf wel own s ρ μ1 Q) σ H Q' → tLc ti g tf te own σ H Q' := by
  intro σ H Q' ⟨ρ, μ, Z, B, Q, hs, hw, fin⟩
  refine hi σ H _ ⟨ρ, μ, Z, B, _, hs, hw, fun s μ1 J H1 Z1 l1 hr1 ok sv hw1 => ?_⟩
  intro L hL
  obtain ⟨P, p0, pok, step, done⟩ := hw1
  have hB : (L :: B) = B ∨ ∃ p, H1 p = none ∧ L :: B = p :: B := .inr ⟨L, hL, rfl⟩
  have hs1 : Sta K ρ μ1 Z1 B σ H1 := hs.le l1 hr1
  have hLB : L ∉ B := (hr1.fresh hL).2
  have mo : ∀ x ∈ [L], x ∈ L :: B := fun x hx => by simp at hx; simp [hx]
  -- the state of the turn
  let G : Nat → Hp → Prop := fun i H' => ∃ (acc : List D) (vs : List V) (μ' : M) (Z' : List Addr), P i acc μ' ∧ H' L = some (.lst vs) ∧ RDs K H' Z' (L :: B) acc vs ∧ LeW [L] H1 Z1 H' Z' ∧ HRel K μ' Z' (L :: B) H'
  have l0 : Le H1 Z1 (upd H1 L (.lst [])) Z1 := Le.new hL
  refine ⟨fun i m H' => m = s.items.length - i ∧ i ≤ s.items.length ∧ G i H', ⟨s.items.length, by simp, Nat.zero_le _, [], [], μ1, Z1, p0, upd_same, .nil, l0.weak, hr1.lay hL⟩, ?_⟩
  rintro i m H' ⟨rfl, hi, acc, vs, μ', Z', p, eL, racc, l, hr⟩
  obtain ⟨sgo, syld, sstop⟩ := sv (L :: B) hB H' Z' μ' (l.mono mo) hr (pok i acc μ' p hi)
  have nzL : L ∉ Z' := fun z => hr.zb L z List.mem_cons_self
  by_cases hlt : i < s.items.length
  · refine .inr ⟨sgo i hlt, G (i + 1), fun H2 h2 => ⟨s.items.length - (i + 1), by omega, rfl, hlt, h2⟩, fun x H'' y => ?_⟩
    obtain ⟨rfl, rx⟩ := syld i x H'' _ y (List.getElem?_eq_getElem hlt)
    obtain ⟨ρ2, eb, hw2⟩ := step i _ acc μ' (List.getElem?_eq_getElem hlt) p
    have hrr : RR K H'' Z' (L :: B) (wipeD ρ own) (L2.wipe σ own) := ((hs1.2.busy hL).mono (l.mono mo)).wipe own
    refine hg x (L2.wipe σ own) H'' _ _ (wipeD ρ own) ρ2 μ' Z' (L :: B) hrr rx eb fun σ2 rr2 dif => ⟨(dif.wipe hsl).trans wipe_wipe, ?_⟩
    refine hf σ2 H'' _ (upT_i (⟨hr, rr2⟩ : Sta K ρ2 μ' Z' (L :: B) σ2 H'') hw2 fun b μ2 H2 Z2 l2 hs2 q2 => ?_)
    cases b with
    | true =>
      rw [if_pos rfl] at q2 ⊢
      refine he σ2 H2 _ (upE_i hs2 q2 fun y μ3 v H3 Z3 l3 hs3 r3 q3 => ?_)
      have l23 := l2.trans l3
      have lw : LeW (L :: B) H3 Z3 (upd H3 L (.lst (vs ++ [v]))) Z3 := LeW.wr List.mem_cons_self
      have lw' : LeW [L] H3 Z3 (upd H3 L (.lst (vs ++ [v]))) Z3 := LeW.wr List.mem_cons_self
      have nz3 : L ∉ Z3 := fun z => hs3.1.zb L z List.mem_cons_self
      have racc3 : RDs K H3 Z3 (L :: B) acc vs := racc.le l23
      refine ⟨vs, (l23.keep L _ eL nzL (by simp)).1, by rw [← racc.length]; exact q3.1, acc ++ [y], vs ++ [v], μ3, Z3, q3.2, upd_same, RDs.mono lw (racc3.append (.cons r3 .nil)), l.trans (l23.weak.trans lw'), ?_⟩
      exact hs3.1.keep lw fun a za => upd_ne fun z => nz3 (z ▸ za)
    | false =>
      rw [if_neg Bool.false_ne_true] at q2 ⊢
      exact ⟨acc, vs, μ2, Z2, q2, (l2.keep L _ eL nzL (by simp)).1, racc.le l2, l.trans l2.weak, hs2.1⟩
  · have e : i = s.items.length := by omega
    subst e
    refine .inl ⟨sstop _ (Nat.le_refl _), ?_⟩
    obtain ⟨hlen, q⟩ := done acc μ' p
    rcases q with q | q
    · exact fin _ _ _ _ _ (l1.trans (l.strong hL)) hr.unlay (.lst eL nzL hLB racc.free) q
    · exact fin _ _ _ _ _ (l1.trans (l.strongc hL)) (hr.celled hLB (c := .lst acc) ⟨vs, eL, (RDs.mono LeW.cell racc).free⟩) (.cel (by rw [← hr.len]; simp)) q
end
end Rf

set_option Elab.async false
set_option linter.all false
set_option maxRecDepth 100000
/-! Rf7: a text against the core language: a look that decides, and that what passes it is so -/
namespace Rf
open PySem L2 PySem.Spec PyProof.Rows

structure SC where
  N : List Str
  sc : Scope
  blk : Option Scope
  FN : List Str
  KW : List (Nat × Nat × List Str × List Nat)
  BN : List Str
  GC : Bool
def SC.inBlk (S : SC) (scope : Scope) : SC := { S with sc := relS scope S.sc, blk := some scope }
def visB (sc : Scope) (x : Str) : Bool := match sc.names.lookup x with
  | some .local => true
  | some .cell => true
  | some .free => true
  | _ => false
def locB (sc : Scope) (x : Str) : Bool := match sc.names.lookup x with
  | some .local => true
  | some .cell => true
  | _ => false
def gloB (sc : Scope) (x : Str) : Bool := match sc.names.lookup x with
  | some .globalImplicit => true
  | _ => false
def isLocB (sc : Scope) (x : Str) : Bool := match sc.names.lookup x with
  | some .local => true
  | _ => false
def SC.fnB (S : SC) (x : Str) : Bool := match S.blk with
  | none => true
  | some scope => (match scope.names.lookup x with | some .cell => true | _ => false) || isLocB S.sc x
def biName : BI → Str
  | .len => "len" | .abs => "abs" | .int => "int" | .isi => "isinstance" | .all => "all" | .any => "any" | .tuple => "tuple" | .list => "list" | .gcd => "gcd" | .max2 => "max" | .min2 => "min"
def tyL : List String := ["int", "bool", "str", "tuple", "list", "dict"]
def miName : MI → Str
  | .append => "append" | .extend => "extend" | .pop => "pop"
def miArity : MI → Nat
  | .append => 1 | .extend => 1 | .pop => 0
def cstB : D → Const → Bool
  | .non, .none => true
  | .bl a, .bool b => a == b
  | .int a, .int b => a == b
  | .str a, .str b => a == b
  | _, _ => false
def okName (x : Str) : Bool := !(x == ("__debug__" : Str)) && !(x == ("__classdict__" : Str))
def notSet : Expr → Bool
  | .Set .. => false
  | _ => true
def ownOf (S : SC) (own : List Nat) : List (Str × Nat) := own.map fun j => (S.N.getD j Str.empty, j)
def chkT (S : SC) : CT → Expr → Bool
  | .nm i, .Name x _ => S.N[i]? == some x && locB S.sc x && S.fnB x
  | .tp is, .Tuple es _ _ => is.length == es.length && (is.zip es).all fun p => match p.2 with
    | .Name x _ => S.N[p.1]? == some x && locB S.sc x && S.fnB x
    | _ => false
  | _, _ => false
mutual
def chkE : CE → SC → Expr → Bool
  | .var i => fun S e => match e with
    | .Name x _ => S.N[i]? == some x && visB S.sc x && okName x
    | _ => false
  | .cst d => fun _ e => match e with
    | .Constant c _ _ => cstB d c
    | _ => false
  | .typ n => fun S e => match e with
    | .Name x _ => x == Str.ofString n && tyL.contains n && S.BN.contains x && gloB S.sc x
    | _ => false
  | .bin op a b => fun S e => match e with
    | .BinOp x op' y _ => op == op' && chkE a S x && chkE b S y
    | _ => false
  | .neg a => fun S e => match e with
    | .UnaryOp .USub x _ => chkE a S x
    | _ => false
  | .not a => fun S e => match e with
    | .UnaryOp .Not x _ => chkE a S x
    | _ => false
  | .cmp op a b => fun S e => match e with
    | .Compare x [op'] [y] _ => op == op' && !behindInMarks op y && chkE a S x && chkE b S y
    | _ => false
  | .chn o p a b c => fun S e => match e with
    | .Compare x [o', p'] [y, z] _ => o == o' && p == p' && !lastMarks [o, p] [y, z] && chkE a S x && chkE b S y && chkE c S z
    | _ => false
  | .and a b => fun S e => match e with
    | .BoolOp .And [x, y] _ => chkE a S x && chkE b S y
    | .BoolOp .And (x :: y :: z :: r) pos => chkE a S x && chkE b S (.BoolOp .And (y :: z :: r) pos)
    | _ => false
  | .or a b => fun S e => match e with
    | .BoolOp .Or [x, y] _ => chkE a S x && chkE b S y
    | .BoolOp .Or (x :: y :: z :: r) pos => chkE a S x && chkE b S (.BoolOp .Or (y :: z :: r) pos)
    | _ => false
  | .ife c a b => fun S e => match e with
    | .IfExp t x y _ => chkE c S t && chkE a S x && chkE b S y
    | _ => false
  | .tup es => fun S e => match e with
    | .Tuple xs _ _ => chkEs es S xs
    | _ => false
  | .lst es => fun S e => match e with
    | .List xs _ => chkEs es S xs
    | _ => false
  | .dct ps => fun S e => match e with
    | .Dict ks vs _ => chkPs ps S ks vs && !ks.isEmpty && decide (ks.length ≤ 15)
    | _ => false
  | .idx a b => fun S e => match e with
    | .Subscript x y _ => chkE a S x && chkE b S y
    | _ => false
  | .slc a lo hi => fun S e => match e with
    | .Subscript x (.Slice l h none _) _ => chkE a S x && chkO lo S l && chkO hi S h
    | _ => false
  | .cal f es => fun S e => match e with
    | .Call (.Name x _) args [] _ => S.FN[f]? == some x && gloB S.sc x && okName x && chkEs es S args
    | _ => false
  | .cak f es ks kes perm n => fun S e => match e with
    | .Call (.Name x _) args kws _ => S.FN[f]? == some x && gloB S.sc x && okName x && chkEs es S args && !kws.isEmpty && kws.all (fun k => k.arg.isSome) && kws.filterMap (·.arg) == ks && S.KW.contains (f, n, ks, perm) &&
      chkEs kes S (kws.map (·.value))
    | _ => false
  | .blt b es => fun S e => match e with
    | .Call (.Name x _) args [] _ => x == biName b && gloB S.sc x && (match b with | .gcd => S.GC | _ => S.BN.contains x) && chkEs es S args && !args.isEmpty
    | _ => false
  | .mth m o es => fun S e => match e with
    | .Call (.Attribute x name apos) args [] cpos => name == miName m && apos.endLine == cpos.line && notCall x && args.length == miArity m && chkE o S x && chkEs es S args
    | _ => false
  | .lc tg it ifs elt own => fun S e => match e with
    | .ListComp elt' [⟨tg', it', ifs', 0⟩] scope _ => blkC S.N S.sc scope (ownOf S own) && tg.slots.all (own.contains ·) && notSet it' && chkI it S tg' it' && chkT (S.inBlk scope) tg tg' && chkF ifs (S.inBlk scope) ifs' && chkE elt (S.inBlk scope) elt'
    | _ => false
def chkEs : CEs → SC → List Expr → Bool
  | .nil => fun _ es => es.isEmpty
  | .cons c r => fun S es => match es with
    | e :: es => chkE c S e && chkEs r S es
    | [] => false
def chkPs : CPs → SC → List (Option Expr) → List Expr → Bool
  | .nil => fun _ ks vs => ks.isEmpty && vs.isEmpty
  | .cons k v r => fun S ks vs => match ks, vs with
    | some a :: ks, b :: vs => chkE k S a && chkE v S b && chkPs r S ks vs
    | _, _ => false
def chkO : CEs → SC → Option Expr → Bool
  | .nil => fun _ o => o.isNone
  | .cons c r => fun S o => match o with
    | some e => chkE c S e && (match r with | .nil => true | _ => false)
    | none => false
def chkF : CEs → SC → List Expr → Bool
  | .nil => fun _ es => es.isEmpty
  | .cons c r => fun S es => match es with
    | [e] => chkE c S e && (match r with | .nil => true | _ => false)
    | _ => false
def chkI : CI → SC → Expr → Expr → Bool
  | .sq c => fun S _ e => chkE c S e
  | .r1 a => fun S _ e => match e with
    | .Call (.Name x _) [y] [] _ => x == ("range" : Str) && S.BN.contains x && gloB S.sc x && chkE a S y
    | _ => false
  | .r2 a b => fun S _ e => match e with
    | .Call (.Name x _) [y, z] [] _ => x == ("range" : Str) && S.BN.contains x && gloB S.sc x && chkE a S y && chkE b S z
    | _ => false
  | .zp _ _ => fun _ _ _ => false
end

/-! ### the context -/
structure FnAt (X : Cx) (Γ : Tab) (k : Nat) (KW : List (Nat × Nat × List Str × List Nat)) (f : Nat) (x : Str) : Prop where
  ex : ∃ (a : Addr) (fd : FuncData) (ps : List Str), X.mg x = some (.ref a) ∧ PySem.W.keepIn X.K (.ref a) = true ∧ FnOk X.prog X.w X.K X.mg X.base CX0 k a fd ps (lift X.K (Γ f)) ∧ Binds X.K fd ps [] ∧
    ∀ n ks perm, (f, n, ks, perm) ∈ KW → KBinds X.K fd ps ks (permU perm n ks.length) (permV perm n ks.length)
structure Ctx (X : Cx) (S : SC) (Γ : Tab) (k : Nat) : Prop where
  N : X.N = S.N
  nd : S.N.Nodup
  sc : X.env.scope = S.sc
  calm : X.calm = true
  room : Room k X.A
  xe : X.xe = fun _ _ => False
  bn : ∀ n ∈ S.BN, X.mg n = none
  gc : S.GC = true → X.mg "gcd" = some (.builtin "math.gcd")
  fn : ∀ x, S.fnB x = true → X.fn x = true ∨ X.env.scope.names.lookup x = some .local
  fs : ∀ f x, S.FN[f]? = some x → FnAt X Γ k S.KW f x
theorem Ctx.hu {X : Cx} {S : SC} {Γ : Tab} {k : Nat} (C : Ctx X S Γ k) : X.A.units + 64 < cLine := C.room.units
theorem Ctx.blk {X : Cx} {S : SC} {Γ : Tab} {k : Nat} (C : Ctx X S Γ k) (s : Shared) (H : Hp) (scope : Scope) (cl : List (Str × Addr)) (c : Addr) (fp : List Addr) : Ctx (X.blk s H scope (compEnvC scope cl c X.env) fp) (S.inBlk scope) Γ k where
  N := C.N
  nd := C.nd
  sc := by
    show relS scope X.env.scope = relS scope S.sc
    rw [C.sc]
  calm := C.calm
  room := C.room
  xe := rfl
  bn := C.bn
  gc := C.gc
  fn := fun x h => by
    have h : ((match scope.names.lookup x with | some .cell => true | _ => false) || isLocB (relS scope S.sc) x) = true := h
    rcases (Bool.or_eq_true _ _).mp h with h | h
    · refine .inl ?_
      show (scope.names.lookup x == some .cell) = true
      split at h
      · rename_i e
        rw [e]; rfl
      · cases h
    · refine .inr ?_
      show (relS scope X.env.scope).names.lookup x = some .local
      rw [C.sc]
      unfold isLocB at h
      split at h
      · assumption
      · cases h
  fs := fun f x h => ⟨(C.fs f x h).ex⟩
section
variable {X : Cx} {S : SC} {Γ : Tab} {k : Nat}
theorem vis_ok (C : Ctx X S Γ k) {x : Str} (h : visB S.sc x = true) : Vis X.env.scope x := by
  rw [C.sc]
  unfold visB at h
  unfold Vis
  split at h
  · exact .inl (by assumption)
  · exact .inr (.inl (by assumption))
  · exact .inr (.inr (by assumption))
  · cases h
theorem loc_ok (C : Ctx X S Γ k) {x : Str} (h : locB S.sc x = true) : L2.Loc X.env.scope x := by
  rw [C.sc]
  unfold locB at h
  unfold L2.Loc
  split at h
  · exact .inl (by assumption)
  · exact .inr (by assumption)
  · cases h
theorem glo_ok (C : Ctx X S Γ k) {x : Str} (h : gloB S.sc x = true) : Gl X x := by
  show X.env.scope.names.lookup x = some .globalImplicit
  rw [C.sc]
  unfold gloB at h
  split at h
  · assumption
  · cases h
theorem okn1 {x : Str} (h : okName x = true) : (x == ("__debug__" : Str)) = false := by
  unfold okName at h
  simp only [Bool.and_eq_true, Bool.not_eq_true'] at h
  exact h.1
theorem okn2 {x : Str} (h : okName x = true) : (x == ("__classdict__" : Str)) = false := by
  unfold okName at h
  simp only [Bool.and_eq_true, Bool.not_eq_true'] at h
  exact h.2
theorem boot_ty : ∀ n ∈ tyL, bootBuiltins (Str.ofString n) = some (.type n) ∧ Str.ofString n ≠ "__name__" ∧ (Str.ofString n == ("__debug__" : Str)) = false := by decide +kernel
theorem st_of {c : CE} {S : SC} {e : Expr} (h : chkE c S e = true) : notSt e = true := by
  cases e with
  | Starred v p => cases c <;> cases h
  | _ => rfl
theorem sts_of : ∀ {cs : CEs} {S : SC} {es : List Expr}, chkEs cs S es = true → es.all notSt = true
  | .nil, S, [], _ => rfl
  | .nil, S, _ :: _, h => by cases h
  | .cons c r, S, [], h => by cases h
  | .cons c r, S, e :: es, h => by
    have h : (chkE c S e && chkEs r S es) = true := h
    rw [Bool.and_eq_true] at h
    rw [List.all_cons, st_of h.1, sts_of h.2]; rfl
theorem pix_of {c : CE} {S : SC} {e : Expr} (h : chkE c S e = true) : PlainIx e := by
  cases e with
  | Slice l u s p => cases c <;> cases h
  | _ => intro o i; rfl
theorem fold_of {e : Expr} (h : notSet e = true) (env : Env) (x : Value) : foldedSetIterable e env x = pure x := by
  cases e <;> first
    | rfl
    | cases h
def gOf (K : PySem.W.Frag) : CT → TG
  | .nm i => gName i
  | .tp is => gTup K is.length (gNames is)
theorem gOf_ok {K : PySem.W.Frag} : ∀ {tg : CT}, upG K tg (gOf K tg)
  | .nm _ => g_nm
  | .tp _ => g_tp
theorem tgt_ok (C : Ctx X S Γ k) {tg : CT} {e : Expr} (h : chkT S tg e = true) : PG X e (gOf X.K tg) := by
  cases tg with
  | nm i =>
    cases e <;> first
      | (rename_i x p
         simp only [chkT, Bool.and_eq_true, beq_iff_eq] at h
         exact pg_name (by rw [C.N]; exact C.nd) (by rw [C.N]; exact h.1.1) (loc_ok C h.1.2) (C.fn x h.2))
      | cases h
  | tp is =>
    cases e with
    | Tuple es kk p =>
      have h : (is.length == es.length && (is.zip es).all fun p => match p.2 with | .Name x _ => S.N[p.1]? == some x && locB S.sc x && S.fnB x | _ => false) = true := h
      rw [Bool.and_eq_true, beq_iff_eq] at h
      obtain ⟨hl, ha⟩ := h
      have plain : ∀ (is : List Nat) (es : List Expr), is.length = es.length → ((is.zip es).all fun p => match p.2 with | .Name x _ => S.N[p.1]? == some x && locB S.sc x && S.fnB x | _ => false) = true →
          PGs X es (gNames is) ∧ (assignEach es X.env).length = is.length ∧ (assignEach es X.env).findIdx? (·.1) = none := by
        intro is
        induction is with
        | nil =>
          intro es hl _
          cases es with
          | nil => exact ⟨pgs_nil, rfl, rfl⟩
          | cons _ _ => cases hl
        | cons i is ih =>
          intro es hl ha
          cases es with
          | nil => cases hl
          | cons e es =>
            simp only [List.zip_cons_cons, List.all_cons, Bool.and_eq_true] at ha
            obtain ⟨h1, h2⟩ := ha
            obtain ⟨i1, i2, i3⟩ := ih es (by simpa using hl) h2
            cases e with
            | Name x p =>
              simp only [Bool.and_eq_true, beq_iff_eq] at h1
              refine ⟨pgs_cons (pg_name (by rw [C.N]; exact C.nd) (by rw [C.N]; exact h1.1.1) (loc_ok C h1.1.2) (C.fn x h1.2)) i1, ?_, ?_⟩
              · show (assignEach es X.env).length + 1 = _
                rw [i2]; rfl
              · show List.findIdx? (·.1) ((false, assign (.Name x p) X.env) :: assignEach es X.env) = none
                rw [List.findIdx?_cons, i3]; rfl
            | _ => cases h1
      obtain ⟨p1, p2, p3⟩ := plain is es hl ha
      exact pg_tup C.calm p1 p2 p3
    | _ => cases h
end
end Rf

set_option Elab.async false
set_option linter.all false
set_option maxRecDepth 100000
/-! Rf8: expressions that pass the look -/
namespace Rf
open PySem L2 PySem.Spec PyProof.Rows
variable {Γ : Tab} {k : Nat}

def isBoth (c : CE) : Bool := match c with
  | .ife .. | .bin .. | .typ .. | .neg .. | .tup .. | .lst .. | .dct .. | .slc .. | .mth .. | .lc .. => true
  | _ => false
theorem t_of {X : Cx} {S : SC} {c : CE} {e : Expr} (hE : PE X e (upE X.K (wE Γ c))) (hc : ∀ whole, isTrue e X.env whole = (do let v ← whole; standAt e.pos; holding [v] (truthy v))) (hT : wT Γ c = ofE (wE Γ c)) : PT X e (upT X.K (wT Γ c)) := by
  rw [hT]
  exact t_tru hE hc
/-- a clause's tests -/
def fOf (K : PySem.W.Frag) (Γ : Tab) : CEs → TT
  | .nil => tYes
  | .cons c .nil => upT K (wT Γ c)
  | .cons _ (.cons _ _) => tYes
theorem fOf_up {K : PySem.W.Frag} {cs : CEs} {σ : L2.St} {H : Hp} {R : Bool → Hp → Prop} (h : upT K (wF Γ cs) σ H R) : fOf K Γ cs σ H R := by
  cases cs with
  | nil =>
    obtain ⟨ρ, μ, Z, B, Q, hs, hw, fin⟩ := h
    exact fin _ _ _ _ LeW.refl hs.1 hw
  | cons c r =>
    cases r with
    | nil => exact h
    | cons _ _ =>
      obtain ⟨ρ, μ, Z, B, Q, hs, hw, fin⟩ := h
      exact hw.elim
mutual
theorem sndE : ∀ (c : CE) (X : Cx) (S : SC) (e : Expr), Ctx X S Γ k → chkE c S e = true → PE X e (upE X.K (wE Γ c)) ∧ PT X e (upT X.K (wT Γ c))
  | .var i, X, S, e, C, h => by
    simp only [chkE] at h
    split at h
    · rename_i x p
      simp only [Bool.and_eq_true, beq_iff_eq] at h
      have hE : PE X (.Name x p) (upE X.K (wE Γ (.var i))) := e_var (by rw [C.N]; exact h.1.1) (vis_ok C h.1.2) (okn1 h.2) (okn2 h.2)
      exact ⟨hE, t_of (S := S) hE (fun _ => rfl) rfl⟩
    · cases h
  | .cst d, X, S, e, C, h => by
    simp only [chkE] at h
    split at h
    · rename_i c n p
      have hE : PE X (.Constant c n p) (upE X.K (wE Γ (.cst d))) := by
        cases d with
        | non =>
          cases c <;> first
            | exact e_con pe_non fun _ _ _ => .non
            | cases h
        | bl b =>
          cases c <;> first
            | (simp only [cstB, beq_iff_eq] at h; subst h; exact e_con pe_bl fun _ _ _ => .bl _)
            | cases h
        | int b =>
          cases c <;> first
            | (simp only [cstB, beq_iff_eq] at h; subst h; exact e_con pe_int fun _ _ _ => .int _)
            | cases h
        | str b =>
          cases c <;> first
            | (simp only [cstB, beq_iff_eq] at h; subst h; exact e_con pe_str fun _ _ _ => .str _)
            | cases h
        | _ => cases c <;> cases h
      exact ⟨hE, t_of (S := S) hE (fun _ => rfl) rfl⟩
    · cases h
  | .typ n, X, S, e, C, h => by
    simp only [chkE] at h
    split at h
    · rename_i x p
      simp only [Bool.and_eq_true, beq_iff_eq] at h
      obtain ⟨⟨⟨h1, h2⟩, h3⟩, h4⟩ := h
      subst h1
      obtain ⟨b1, b2, b3⟩ := boot_ty n (by simpa using h2)
      have hE : PE X (.Name (Str.ofString n) p) (upE X.K (wE Γ (.typ n))) := e_con (pe_bltn (v := .ty n) (glo_ok C h4) (C.bn _ (by simpa using h3)) b1 rfl b2 b3) fun _ _ _ => .ty n
      exact ⟨hE, PT.falls⟩
    · cases h
  | .bin op a b, X, S, e, C, h => by
    simp only [chkE] at h
    split at h
    · rename_i x op' y p
      simp only [Bool.and_eq_true, beq_iff_eq] at h
      obtain ⟨⟨rfl, h1⟩, h2⟩ := h
      exact ⟨e_bin op (sndE a X S x C h1).1 (sndE b X S y C h2).1, PT.falls⟩
    · cases h
  | .neg a, X, S, e, C, h => by
    simp only [chkE] at h
    split at h
    · exact ⟨e_neg (sndE a X S _ C h).1, PT.falls⟩
    · cases h
  | .not a, X, S, e, C, h => by
    simp only [chkE] at h
    split at h
    · exact ⟨e_not (sndE a X S _ C h).1, t_not (sndE a X S _ C h).2⟩
    · cases h
  | .cmp op a b, X, S, e, C, h => by
    simp only [chkE] at h
    split at h
    · simp only [Bool.and_eq_true, beq_iff_eq, Bool.not_eq_true'] at h
      obtain ⟨⟨⟨rfl, hm⟩, h1⟩, h2⟩ := h
      exact ⟨e_cmp C.hu op hm (sndE a X S _ C h1).1 (sndE b X S _ C h2).1, t_cmp C.hu op hm (sndE a X S _ C h1).1 (sndE b X S _ C h2).1⟩
    · cases h
  | .chn o p a b c, X, S, e, C, h => by
    simp only [chkE] at h
    split at h
    · simp only [Bool.and_eq_true, beq_iff_eq, Bool.not_eq_true'] at h
      obtain ⟨⟨⟨⟨⟨rfl, rfl⟩, hm⟩, h1⟩, h2⟩, h3⟩ := h
      exact ⟨e_chn C.hu o p hm (sndE a X S _ C h1).1 (sndE b X S _ C h2).1 (sndE c X S _ C h3).1, t_chn C.hu o p hm (sndE a X S _ C h1).1 (sndE b X S _ C h2).1 (sndE c X S _ C h3).1⟩
    · cases h
  | .and a b, X, S, e, C, h => by
    simp only [chkE] at h
    split at h
    · simp only [Bool.and_eq_true] at h
      obtain ⟨h1, h2⟩ := h
      refine ⟨e_and (sndE a X S _ C h1).1 (pe_one (sndE b X S _ C h2).1), ?_⟩
      exact t_and (sndE a X S _ C h1).2 (PW.pt (pw_and1 (sndE b X S _ C h2).2))
    · simp only [Bool.and_eq_true] at h
      obtain ⟨h1, h2⟩ := h
      exact ⟨e_and (sndE a X S _ C h1).1 (sndE b X S _ C h2).1, t_and (sndE a X S _ C h1).2 (sndE b X S _ C h2).2⟩
    · cases h
  | .or a b, X, S, e, C, h => by
    simp only [chkE] at h
    split at h
    · simp only [Bool.and_eq_true] at h
      obtain ⟨h1, h2⟩ := h
      refine ⟨e_or (sndE a X S _ C h1).1 (pe_one (sndE b X S _ C h2).1), ?_⟩
      exact t_or (sndE a X S _ C h1).2 (PW.pt (pw_or1 (sndE b X S _ C h2).2))
    · simp only [Bool.and_eq_true] at h
      obtain ⟨h1, h2⟩ := h
      exact ⟨e_or (sndE a X S _ C h1).1 (sndE b X S _ C h2).1, t_or (sndE a X S _ C h1).2 (sndE b X S _ C h2).2⟩
    · cases h
  | .ife c a b, X, S, e, C, h => by
    simp only [chkE] at h
    split at h
    · simp only [Bool.and_eq_true] at h
      obtain ⟨⟨h0, h1⟩, h2⟩ := h
      exact ⟨e_ife (sndE c X S _ C h0).2 (sndE a X S _ C h1).1 (sndE b X S _ C h2).1, PT.falls⟩
    · cases h
  | .tup es, X, S, e, C, h => by
    simp only [chkE] at h
    split at h
    · exact ⟨e_tup (sndEs es X S _ C h), PT.falls⟩
    · cases h
  | .lst es, X, S, e, C, h => by
    simp only [chkE] at h
    split at h
    · exact ⟨e_lst (sndEs es X S _ C h), PT.falls⟩
    · cases h
  | .dct ps, X, S, e, C, h => by
    simp only [chkE] at h
    split at h
    · rename_i ks vs p
      simp only [Bool.and_eq_true, decide_eq_true_eq, Bool.not_eq_true'] at h
      obtain ⟨⟨h1, h2⟩, h3⟩ := h
      obtain ⟨trs, t1, t2, t3, t4⟩ := sndPs ps X S ks vs p C h1
      exact ⟨e_dct t1 t2 t3 t4 (fun z => by rw [z] at h2; cases h2) h3, PT.falls⟩
    · cases h
  | .idx a b, X, S, e, C, h => by
    simp only [chkE] at h
    split at h
    · rename_i x y p
      simp only [Bool.and_eq_true] at h
      have hE : PE X (.Subscript x y p) (upE X.K (wE Γ (.idx a b))) := e_idx C.hu (pix_of h.2) (sndE a X S _ C h.1).1 (sndE b X S _ C h.2).1
      exact ⟨hE, t_of (S := S) hE (fun _ => rfl) rfl⟩
    · cases h
  | .slc a lo hi, X, S, e, C, h => by
    simp only [chkE] at h
    split at h
    · simp only [Bool.and_eq_true] at h
      exact ⟨e_slc (sndE a X S _ C h.1.1).1 (sndO lo X S _ C h.1.2) (sndO hi X S _ C h.2), PT.falls⟩
    · cases h
  | .cal f es, X, S, e, C, h => by
    simp only [chkE] at h
    split at h
    · rename_i x p args p'
      simp only [Bool.and_eq_true, beq_iff_eq] at h
      obtain ⟨⟨⟨h1, h2⟩, h3⟩, h4⟩ := h
      obtain ⟨a, fd, ps, m1, m2, m3, m4, m5⟩ := (C.fs f x h1).ex
      have hE : PE X (.Call (.Name x p) args [] p') (upE X.K (wE Γ (.cal f es))) := by
        have hA := sndEs es X S args C h4
        cases args with
        | nil =>
          cases es with
          | nil => exact e_cal0 m3 C.room (glo_ok C h2) m1 m2 m4 (okn1 h3)
          | cons _ _ => cases h4
        | cons e' es' => exact e_cal m3 C.room (glo_ok C h2) m1 m2 m4 (sts_of h4) (okn1 h3) hA
      exact ⟨hE, t_of (S := S) hE (fun _ => rfl) rfl⟩
    · cases h
  | .cak f es ks kes perm n, X, S, e, C, h => by
    simp only [chkE] at h
    split at h
    · rename_i x p args kws p'
      simp only [Bool.and_eq_true, beq_iff_eq, Bool.not_eq_true', List.contains_eq_mem, decide_eq_true_eq] at h
      obtain ⟨⟨⟨⟨⟨⟨⟨⟨h1, h2⟩, h3⟩, h4⟩, h5⟩, h6⟩, h7⟩, h8⟩, h9⟩ := h
      obtain ⟨a, fd, ps, m1, m2, m3, m4, m5⟩ := (C.fs f x h1).ex
      have hK := sndKs kes X S kws C h9
      have hE : PE X (.Call (.Name x p) args kws p') (upE X.K (wE Γ (.cak f es ks kes perm n))) := by
        have hA := sndEs es X S args C h4
        cases args with
        | nil =>
          cases es with
          | nil => exact e_cak0 m3 C.room (glo_ok C h2) m1 m2 (m5 _ _ _ h8) (okn1 h3) hK h6 h7
          | cons _ _ => cases h4
        | cons e' es' => exact e_cak m3 C.room (glo_ok C h2) m1 m2 (m5 _ _ _ h8) (sts_of h4) (okn1 h3) hA hK h6 h7
      exact ⟨hE, t_of (S := S) hE (fun _ => rfl) rfl⟩
    · cases h
  | .blt b es, X, S, e, C, h => by
    simp only [chkE] at h
    split at h
    · rename_i x p args p'
      simp only [Bool.and_eq_true, beq_iff_eq, Bool.not_eq_true'] at h
      obtain ⟨⟨⟨⟨rfl, h2⟩, h3⟩, h4⟩, h5⟩ := h
      have hA := sndEs es X S args C h4
      have hE : PE X (.Call (.Name (biName b) p) args [] p') (upE X.K (wE Γ (.blt b es))) := by
        cases args with
        | nil => cases h5
        | cons e' es' =>
          have hst := sts_of h4
          have hst' := hst
          simp only [List.all_cons, Bool.and_eq_true] at hst'
          have g := glo_ok C h2
          cases b with
          | gcd => exact up_cb hA (pe_callBfun gcd_ok g (C.gc h3) hA (by decide) (star_one hst'.1) (star_any hst'.2))
          | len => exact up_cb hA (pe_callB len_ok g (C.bn _ (by simpa using h3)) (by rfl) hA (by decide) (by decide) (star_one hst'.1) (star_any hst'.2))
          | abs => exact up_cb hA (pe_callB abs_ok g (C.bn _ (by simpa using h3)) (by rfl) hA (by decide) (by decide) (star_one hst'.1) (star_any hst'.2))
          | isi => exact up_cb hA (pe_callB isi_ok g (C.bn _ (by simpa using h3)) (by rfl) hA (by decide) (by decide) (star_one hst'.1) (star_any hst'.2))
          | all => exact up_cb hA (pe_callB (all_ok C.calm) g (C.bn _ (by simpa using h3)) (by rfl) hA (by decide) (by decide) (star_one hst'.1) (star_any hst'.2))
          | any => exact up_cb hA (pe_callB (any_ok C.calm) g (C.bn _ (by simpa using h3)) (by rfl) hA (by decide) (by decide) (star_one hst'.1) (star_any hst'.2))
          | max2 => exact up_cb hA (pe_callB (max_ok C.calm) g (C.bn _ (by simpa using h3)) (by rfl) hA (by decide) (by decide) (star_one hst'.1) (star_any hst'.2))
          | min2 => exact up_cb hA (pe_callB (min_ok C.calm) g (C.bn _ (by simpa using h3)) (by rfl) hA (by decide) (by decide) (star_one hst'.1) (star_any hst'.2))
          | int => exact up_cb hA (pe_callTy int_ok g (C.bn _ (by simpa using h3)) (by rfl) hA (by decide) (by decide) (star_one hst'.1) (star_any hst'.2))
          | tuple => exact up_cb hA (pe_callTy tuple_ok g (C.bn _ (by simpa using h3)) (by rfl) hA (by decide) (by decide) (star_one hst'.1) (star_any hst'.2))
          | list => exact up_cb hA (pe_callTy list_ok g (C.bn _ (by simpa using h3)) (by rfl) hA (by decide) (by decide) (star_one hst'.1) (star_any hst'.2))
      exact ⟨hE, t_of (S := S) hE (fun _ => rfl) rfl⟩
    · cases h
  | .mth m o es, X, S, e, C, h => by
    simp only [chkE] at h
    split at h
    · rename_i x name apos args cpos
      simp only [Bool.and_eq_true, beq_iff_eq] at h
      obtain ⟨⟨⟨⟨⟨rfl, h1⟩, h2⟩, h3⟩, h4⟩, h5⟩ := h
      have hA := sndEs es X S args C h5
      have hO := (sndE o X S _ C h4).1
      refine ⟨?_, PT.falls⟩
      cases m with
      | append =>
        cases args with
        | nil => cases h3
        | cons e' es' => exact e_mth PySem.F.slot_list_append PySem.F.type_list_append append_ok hO hA h2 (by rw [h3]; decide) (sts_of h5) (by simpa using h1)
      | extend =>
        cases args with
        | nil => cases h3
        | cons e' es' => exact e_mth PySem.F.slot_list_extend PySem.F.type_list_extend extend_ok hO hA h2 (by rw [h3]; decide) (sts_of h5) (by simpa using h1)
      | pop =>
        cases args with
        | cons _ _ => cases h3
        | nil =>
          cases es with
          | cons _ _ => cases h5
          | nil => exact e_mth0 PySem.F.slot_list_pop PySem.F.type_list_pop pop_ok hO h2 (by simpa using h1)
    · cases h
  | .lc tg it ifs elt own, X, S, e, C, h => by
    simp only [chkE] at h
    split at h
    · rename_i elt' tg' it' ifs' scope p
      simp only [Bool.and_eq_true] at h
      obtain ⟨⟨⟨⟨⟨⟨h1, h2⟩, h3⟩, h4⟩, h5⟩, h6⟩, h7⟩ := h
      refine ⟨?_, PT.falls⟩
      have hI := sndI it X S tg' it' C h4
      have eo : (ownOf S own).map (·.2) = own := by
        unfold ownOf
        rw [List.map_map]
        exact (List.map_congr_left fun _ _ => rfl).trans (List.map_id _)
      have hL := pe_lc (pos := p) (elt := elt') (te := upE X.K (wE Γ elt)) (g := gOf X.K tg) (tt := fOf X.K Γ ifs) C.calm (by rw [C.N]; exact C.nd) hI (blkOk_by (by rw [C.N, C.sc]; exact h1)) (fun s H c cl fp => tgt_ok (C.blk s H scope cl c fp) h5) (fun s H c cl fp => sndF ifs _ _ ifs' (C.blk s H scope cl c fp) h6)
        (fun s H c cl fp => (sndE elt _ _ elt' (C.blk s H scope cl c fp) h7).1) (fun x => fold_of h3 _ x)
      rw [eo] at hL
      exact hL.imp (lc_up (fun _ _ _ q => q) gOf_ok (fun i hi => by
        rw [List.all_eq_true] at h2
        simpa using h2 i hi) (fun σ H R q => fOf_up q) (fun _ _ _ q => q))
    · cases h
theorem sndEs : ∀ (cs : CEs) (X : Cx) (S : SC) (es : List Expr), Ctx X S Γ k → chkEs cs S es = true → PA X es (upA X.K (wEs Γ cs))
  | .nil, X, S, es, C, h => by
    cases es with
    | nil => exact a_nil
    | cons _ _ => cases h
  | .cons c r, X, S, es, C, h => by
    cases es with
    | nil => cases h
    | cons e es =>
      simp only [chkEs, Bool.and_eq_true] at h
      exact a_cons (st_of h.1) (sndE c X S e C h.1).1 (sndEs r X S es C h.2)
theorem sndKs : ∀ (cs : CEs) (X : Cx) (S : SC) (kws : List Keyword), Ctx X S Γ k → chkEs cs S (kws.map (·.value)) = true → PK X kws (upA X.K (wEs Γ cs))
  | .nil, X, S, kws, C, h => by
    cases kws with
    | nil => exact k_nil
    | cons _ _ => cases h
  | .cons c r, X, S, kws, C, h => by
    cases kws with
    | nil => cases h
    | cons kw kws =>
      obtain ⟨nm, e, kp⟩ := kw
      simp only [List.map_cons, chkEs, Bool.and_eq_true] at h
      exact k_cons (sndE c X S e C h.1).1 (sndKs r X S kws C h.2)
theorem sndPs : ∀ (ps : CPs) (X : Cx) (S : SC) (ks : List (Option Expr)) (vs : List Expr) (p : Pos), Ctx X S Γ k → chkPs ps S ks vs = true → ∃ trs, PPs X p ks vs trs ∧ upPr X.K (wPr Γ ps) trs ∧ ks.all (·.isSome) = true ∧ ks.length = vs.length
  | .nil, X, S, ks, vs, p, C, h => by
    simp only [chkPs, Bool.and_eq_true, List.isEmpty_iff] at h
    obtain ⟨rfl, rfl⟩ := h
    exact ⟨[], pps_nil, pr_nil, rfl, rfl⟩
  | .cons a b r, X, S, ks, vs, p, C, h => by
    simp only [chkPs] at h
    split at h
    · rename_i x ks y vs
      simp only [Bool.and_eq_true] at h
      obtain ⟨trs, t1, t2, t3, t4⟩ := sndPs r X S ks vs p C h.2
      exact ⟨_, pps_cons (sndE a X S x C h.1.1).1 (sndE b X S y C h.1.2).1 t1, pr_cons t2, by rw [List.all_cons, t3]; rfl, by simp [t4]⟩
    · cases h
theorem sndO : ∀ (cs : CEs) (X : Cx) (S : SC) (o : Option Expr), Ctx X S Γ k → chkO cs S o = true → PO X o (upO' X.K (wO Γ cs))
  | .nil, X, S, o, C, h => by
    cases o with
    | none => exact o_none
    | some _ => cases h
  | .cons c r, X, S, o, C, h => by
    cases o with
    | none => cases h
    | some e =>
      simp only [chkO, Bool.and_eq_true] at h
      cases r with
      | nil => exact o_some (sndE c X S e C h.1).1
      | cons _ _ => cases h.2
theorem sndF : ∀ (cs : CEs) (X : Cx) (S : SC) (es : List Expr), Ctx X S Γ k → chkF cs S es = true → PTs X es (fOf X.K Γ cs)
  | .nil, X, S, es, C, h => by
    cases es with
    | nil => exact pts_nil
    | cons _ _ => cases h
  | .cons c r, X, S, es, C, h => by
    simp only [chkF] at h
    split at h
    · simp only [Bool.and_eq_true] at h
      cases r with
      | nil => exact pts_one (sndE c X S _ C h.1).2
      | cons _ _ => cases h.2
    · cases h
theorem sndI : ∀ (ci : CI) (X : Cx) (S : SC) (tg e : Expr), Ctx X S Γ k → chkI ci S tg e = true → PI X tg e (upI X.K (wI Γ ci))
  | .sq c, X, S, tg, e, C, h => i_sq (sndE c X S e C h).1
  | .r1 a, X, S, tg, e, C, h => by
    simp only [chkI] at h
    split at h
    · simp only [Bool.and_eq_true, beq_iff_eq] at h
      obtain ⟨⟨⟨rfl, h2⟩, h3⟩, h4⟩ := h
      exact i_r1 (glo_ok C h3) (C.bn _ (by simpa using h2)) (st_of h4) (sndE a X S _ C h4).1
    · cases h
  | .r2 a b, X, S, tg, e, C, h => by
    simp only [chkI] at h
    split at h
    · simp only [Bool.and_eq_true, beq_iff_eq] at h
      obtain ⟨⟨⟨⟨rfl, h2⟩, h3⟩, h4⟩, h5⟩ := h
      exact i_r2 (glo_ok C h3) (C.bn _ (by simpa using h2)) (st_of h4) (st_of h5) (sndE a X S _ C h4).1 (sndE b X S _ C h5).1
    · cases h
  | .zp _ _, X, S, tg, e, C, h => by cases h
end
end Rf

set_option Elab.async false
set_option linter.all false
set_option maxRecDepth 100000
/-! Rf9: statements -/
namespace Rf
open PySem L2 PySem.Spec PyProof.Rows

/-- two or three plain names on one line, stored from a display: in which order -/
def swapD (sc : Scope) (ts vs : List Expr) : Option (Option (List Str)) :=
  if (!(ts.length == 2 || ts.length == 3) || vs.length != ts.length || sc.kind != .function) = true then some none
  else if (vs.any fun | .Starred .. => true | _ => false) = true then some none
  else
    let names := ts.filterMap fun
      | .Name id pos => if (sc.names.lookup id == some .local && pos.line == (ts.head?.map (·.pos.line)).getD 0) = true then some id else none
      | _ => none
    if (names.length != ts.length || names.eraseDups.length != names.length) = true then some none
    else if vs.all (foldedForSure 8) = true then some none
    else if vs.all (constantsAlone 8) = true then none
    else some (some names)
theorem swap_ok {ts vs : List Expr} {k1 k2 : Nat} {p1 p2 : Pos} {env : Env} {r : Option (List Str)} (hk : env.scope.kind = .function) (h : swapD env.scope ts vs = some r) : swappedStores [.Tuple ts k1 p1] (.Tuple vs k2 p2) env = pure r := by
  have hb : env.blockKind = .function := by unfold Env.blockKind; rw [hk]; rfl
  unfold swapD at h
  unfold swappedStores
  simp only
  rw [hb]
  rw [hk] at h
  split at h
  · rename_i c
    cases h
    rw [if_pos c]
  · rename_i c
    rw [if_neg c]
    split at h
    · rename_i c2
      cases h
      exact if_pos c2
    · rename_i c2
      refine (if_neg c2).trans ?_
      simp only at h
      split at h
      · rename_i c3
        cases h
        exact if_pos c3
      · rename_i c3
        refine (if_neg c3).trans ?_
        split at h
        · rename_i c4
          cases h
          exact if_pos c4
        · rename_i c4
          refine (if_neg c4).trans ?_
          split at h
          · cases h
          · rename_i c5
            cases h
            exact if_neg c5
def noSwapB (sc : Scope) (ts : List Expr) (v : Expr) : Bool := match v with
  | .Tuple vs _ _ => match swapD sc ts vs with
    | some none => true
    | _ => false
  | _ => true
theorem noSwap_ok {ts : List Expr} {k1 : Nat} {p1 : Pos} {v : Expr} {env : Env} (hk : env.scope.kind = .function) (h : noSwapB env.scope ts v = true) : swappedStores [.Tuple ts k1 p1] v env = pure none := by
  cases v <;> first
    | rfl
    | (rename_i vs k2 p2
       unfold noSwapB at h
       simp only at h
       split at h
       · exact swap_ok hk (by assumption)
       · cases h)
def notLc : Expr → Bool
  | .ListComp .. => false
  | _ => true
def notName : Expr → Bool
  | .Name .. => false
  | _ => true
mutual
def chkS : CS → SC → Stmt → Bool
  | .set i e => fun S s => match s with
    | .Assign [.Name x _] v _ => S.N[i]? == some x && locB S.sc x && S.fnB x && chkE e S v
    | _ => false
  | .unp is e => fun S s => match s with
    | .Assign [.Tuple es _ _] v _ => (is.length == es.length && (is.zip es).all fun p => match p.2 with
      | .Name x _ => S.N[p.1]? == some x && locB S.sc x && S.fnB x
      | _ => false) && noSwapB S.sc es v && chkE e S v
    | _ => false
  | .par i j a b => fun S s => match s with
    | .Assign [.Tuple [.Name x px, .Name y py] k p] (.Tuple [u, v] _ _) _ => S.N[i]? == some x && S.N[j]? == some y && !(i == j) && isLocB S.sc x && isLocB S.sc y && decide (swapD S.sc [.Name x px, .Name y py] [u, v] = some (some [x, y])) && chkE a S u && chkE b S v
    | _ => false
  | .put o i e => fun S s => match s with
    | .Assign [.Subscript o' i' _] v _ => chkE o S o' && chkE i S i' && chkE e S v
    | _ => false
  | .augV i op e => fun S s => match s with
    | .AugAssign (.Name x _) op' v _ => op == op' && (op == .Add || op == .Sub) && S.N[i]? == some x && locB S.sc x && S.fnB x && chkE e S v
    | _ => false
  | .augI o i op e => fun S s => match s with
    | .AugAssign (.Subscript o' i' _) op' v _ => op == op' && (op == .Add || op == .Sub) && chkE o S o' && chkE i S i' && chkE e S v
    | _ => false
  | .drop e => fun S s => match s with
    | .Expr v _ => chkE e S v && notLc v
    | _ => false
  | .ret e => fun S s => match s with
    | .Return (some v) _ => chkE e S v
    | _ => false
  | .retN => fun _ s => match s with
    | .Return none _ => true
    | _ => false
  | .iff c a b => fun S s => match s with
    | .If t x y _ => chkE c S t && chkSs a S x && chkSs b S y
    | _ => false
  | .whl c b => fun S s => match s with
    | .While t x [] _ => chkE c S t && chkSs b S x
    | _ => false
  | .for tg it b => fun S s => match s with
    | .For t e x [] _ => chkT S tg t && notSet e && chkI it S t e && chkSs b S x
    | _ => false
  | .brk => fun _ s => match s with
    | .Break _ => true
    | _ => false
  | .cnt => fun _ s => match s with
    | .Continue _ => true
    | _ => false
  | .pass => fun _ s => match s with
    | .Pass _ => true
    | _ => false
  | .dead => fun _ _ => true
def chkSs : CSs → SC → List Stmt → Bool
  | .nil => fun _ ss => ss.isEmpty
  | .cons c r => fun S ss => match ss with
    | s :: ss => chkS c S s && chkSs r S ss
    | [] => false
end
def FinS (K : PySem.W.Frag) (H : Hp) (Z B : List Addr) (E : DEnds) (D : Ends) : Prop :=
  (∀ ρ' μ' σ' H' Z', Le H Z H' Z' → Sta K ρ' μ' Z' B σ' H' → E.nx ρ' μ' → D.nx σ' H') ∧ (∀ ρ' μ' σ' H' Z', Le H Z H' Z' → Sta K ρ' μ' Z' B σ' H' → E.bk ρ' μ' → D.bk σ' H') ∧
  (∀ ρ' μ' σ' H' Z', Le H Z H' Z' → Sta K ρ' μ' Z' B σ' H' → E.ct ρ' μ' → D.ct σ' H') ∧ Fin K H Z B E.rt D.rt
def upSt (K : PySem.W.Frag) (w : DEnds → Rho → M → Prop) : TS := fun D σ H => ∃ (ρ : Rho) (μ : M) (Z B : List Addr) (E : DEnds), Sta K ρ μ Z B σ H ∧ w E ρ μ ∧ FinS K H Z B E D
variable {Γ : Tab} {k : Nat} {K : PySem.W.Frag} {H H1 H2 H' : Hp} {Z Z1 Z' B : List Addr} {μ μ' : M} {ρ ρ' : Rho} {σ : L2.St} {E : DEnds} {D : Ends}
theorem FinS.later (f : FinS K H Z B E D) (l : Le H Z H1 Z1) : FinS K H1 Z1 B E D :=
  ⟨fun ρ' μ' σ' H' Z' l' => f.1 ρ' μ' σ' H' Z' (l.trans l'), fun ρ' μ' σ' H' Z' l' => f.2.1 ρ' μ' σ' H' Z' (l.trans l'), fun ρ' μ' σ' H' Z' l' => f.2.2.1 ρ' μ' σ' H' Z' (l.trans l'), f.2.2.2.later l⟩
theorem FinS.nx (f : FinS K H Z B E D) (hs : Sta K ρ μ Z B σ H) (q : E.nx ρ μ) : D.nx σ H := f.1 ρ μ σ H Z LeW.refl hs q
theorem Sta.set (hs : Sta K ρ μ Z B σ H) {d : Rf.D} {v : V} (r : RD K H Z B d v) (i : Nat) : Sta K (ρ.set i (some d)) μ Z B (σ.set i (some v)) H := ⟨hs.1, hs.2.set r i⟩
/-- a value that is no comprehension is stored without a swap -/
theorem nosw {e : CE} {S : SC} {v : Expr} (h : chkE e S v = true) (hn : notLc v = true) (t : Option Expr) (l : Nat) (env : Env) : swapsWith v t l env = pure false := by
  cases v with
  | ListComp _ _ _ _ => cases hn
  | SetComp _ _ _ _ => cases e <;> cases h
  | DictComp _ _ _ _ _ => cases e <;> cases h
  | _ => rfl
theorem nosw2 {e : CE} {S : SC} {v : Expr} (h : chkE e S v = true) (t : Expr) (ht : notName t = true) (l : Nat) (env : Env) : swapsWith v (some t) l env = pure false := by
  cases v with
  | ListComp _ _ _ _ => cases t <;> first | rfl | cases ht
  | SetComp _ _ _ _ => cases e <;> cases h
  | DictComp _ _ _ _ _ => cases e <;> cases h
  | _ => rfl
section
variable {X : Cx} {S : SC}
theorem pg_either {es : List Expr} {kk : Nat} {pos : Pos} {t : TGs} {n : Nat} (hc : X.calm = true) (h : PGs X es t) (hn : (assignEach es X.env).length = n) (hst : (assignEach es X.env).findIdx? (·.1) = none) :
    PG X (.Tuple es kk pos) (fun v σ H Q => gTup X.K n t v σ H Q ∨ gUnl X.K n t v σ H Q) := by
  refine ⟨fun pins s σ H v u Q I r hw => ?_⟩
  rcases hw with hw | hw
  · exact (pg_tup hc h hn hst).run pins s σ H v u Q I r hw
  · exact (pg_unl hc h hn hst).run pins s σ H v u Q I r hw
theorem names_ok (C : Ctx X S Γ k) : ∀ (is : List Nat) (es : List Expr), is.length = es.length → ((is.zip es).all fun p => match p.2 with | .Name x _ => S.N[p.1]? == some x && locB S.sc x && S.fnB x | _ => false) = true →
    PGs X es (gNames is) ∧ (assignEach es X.env).length = is.length ∧ (assignEach es X.env).findIdx? (·.1) = none := by
  intro is
  induction is with
  | nil =>
    intro es hl _
    cases es with
    | nil => exact ⟨pgs_nil, rfl, rfl⟩
    | cons _ _ => cases hl
  | cons i is ih =>
    intro es hl ha
    cases es with
    | nil => cases hl
    | cons e es =>
      simp only [List.zip_cons_cons, List.all_cons, Bool.and_eq_true] at ha
      obtain ⟨h1, h2⟩ := ha
      obtain ⟨i1, i2, i3⟩ := ih es (by simpa using hl) h2
      cases e with
      | Name x p =>
        simp only [Bool.and_eq_true, beq_iff_eq] at h1
        refine ⟨pgs_cons (pg_name (by rw [C.N]; exact C.nd) (by rw [C.N]; exact h1.1.1) (loc_ok C h1.1.2) (C.fn x h1.2)) i1, ?_, ?_⟩
        · show (assignEach es X.env).length + 1 = _
          rw [i2]; rfl
        · show List.findIdx? (·.1) ((false, assign (.Name x p) X.env) :: assignEach es X.env) = none
          rw [List.findIdx?_cons, i3]; rfl
      | _ => cases h1
theorem s_set {i : Nat} {we : WE} {te : TE} {st : Stmt} (h : PS X st (tAsg te (gName i))) (he : ∀ σ H Q, upE X.K we σ H Q → te σ H Q) : PS X st (upSt X.K fun E ρ μ => we ρ μ fun d μ1 => E.nx (ρ.set i (some d)) μ1) :=
  h.imp fun D σ H ⟨ρ, μ, Z, B, E, hs, hw, fin⟩ => he σ H _ (upE_i hs hw fun d μ1 v H1 Z1 l1 hs1 r1 q => (fin.later l1).nx (hs1.set r1 i) q)
theorem s_unp {is : List Nat} {we : WE} {st : Stmt} (h : PS X st (tAsg (upE X.K we) (fun v σ H Q => gTup X.K is.length (gNames is) v σ H Q ∨ gUnl X.K is.length (gNames is) v σ H Q))) :
    PS X st (upSt X.K fun E ρ μ => we ρ μ fun d μ1 => match d with
    | .tup ds => match setsD is ds ρ with
      | some ρ2 => E.nx ρ2 μ1
      | none => False
    | d => match asL μ1 d with
      | some ds => match setsD is ds ρ with
        | some ρ2 => E.nx ρ2 μ1
        | none => False
      | none => False) :=
  h.imp fun D σ H ⟨ρ, μ, Z, B, E, hs, hw, fin⟩ => upE_i hs hw fun d μ1 v H1 Z1 l1 hs1 r1 q => by
    have lists : (match asL μ1 d with | some ds => (match setsD is ds ρ with | some ρ2 => E.nx ρ2 μ1 | none => False) | none => False) → gTup X.K is.length (gNames is) v σ H1 D.nx ∨ gUnl X.K is.length (gNames is) v σ H1 D.nx := by
      intro q
      cases e1 : asL μ1 d with
      | none => rw [e1] at q; exact q.elim
      | some ds =>
        rw [e1] at q
        simp only at q
        cases e2 : setsD is ds ρ with
        | none => rw [e2] at q; exact q.elim
        | some ρ2 =>
          rw [e2] at q
          obtain ⟨a, vs, rfl, h1, rs⟩ := asL_ok hs1.1 e1 r1
          exact .inr ⟨a, vs, rfl, .of h1, by rw [← rs.length]; exact (setsD_len e2).1, gNames_ok hs1.2 rs e2 fun σ2 rr _ => (fin.later l1).nx ⟨hs1.1, rr⟩ q⟩
    cases d with
    | tup ds =>
      simp only at q
      cases e2 : setsD is ds ρ with
      | none => rw [e2] at q; exact q.elim
      | some ρ2 =>
        rw [e2] at q
        cases r1 with
        | tup f rs => exact .inl ⟨_, _, rfl, f.sq, by rw [← rs.length]; exact (setsD_len e2).1, gNames_ok hs1.2 rs e2 fun σ2 rr _ => (fin.later l1).nx ⟨hs1.1, rr⟩ q⟩
    | lst _ => exact lists q
    | scr _ => exact lists q
    | cel _ => exact lists q
    | non => exact lists q
    | bl _ => exact lists q
    | int _ => exact lists q
    | str _ => exact lists q
    | ty _ => exact lists q
theorem s_par {i j : Nat} {wa wb : WE} {st : Stmt} (h : PS X st (tPar i j (tCons (upE X.K wa) (tCons (upE X.K wb) tNil)))) :
    PS X st (upSt X.K fun E ρ μ => wa ρ μ fun x μ1 => wb ρ μ1 fun y μ2 => E.nx ((ρ.set i (some x)).set j (some y)) μ2) :=
  h.imp fun D σ H ⟨ρ, μ, Z, B, E, hs, hw, fin⟩ => upE_i hs hw fun d μ1 v H1 Z1 l1 hs1 r1 q => upE_i hs1 q fun e μ2 w H2 Z2 l2 hs2 r2 q2 =>
    ⟨v, w, rfl, (fin.later (l1.trans l2)).nx ((hs2.set (r1.le l2) i).set r2 j) q2⟩
theorem s_put {wo wi we : WE} {st : Stmt} (h : PS X st (tAsg (upE X.K we) (gSub (upE X.K wo) (upE X.K wi) (upP X.K)))) :
    PS X st (upSt X.K fun E ρ μ => we ρ μ fun v μ1 => wo ρ μ1 fun x μ2 => wi ρ μ2 fun y μ3 => opPut x y v μ3 fun μ4 => E.nx ρ μ4) :=
  h.imp fun D σ H ⟨ρ, μ, Z, B, E, hs, hw, fin⟩ => upE_i hs hw fun d μ1 v H1 Z1 l1 hs1 r1 q1 => upE_i hs1 q1 fun x μ2 w H2 Z2 l2 hs2 r2 q2 => upE_i hs2 q2 fun y μ3 u H3 Z3 l3 hs3 r3 q3 =>
    ⟨x, y, d, μ3, Z3, B, fun μ4 => E.nx ρ μ4, hs3.1, r2.le l3, r3, (r1.le l2).le l3, q3, fun μ4 H4 l4 hr4 q4 => (fin.later (((l1.trans l2).trans l3).trans l4)).nx (hs3.le l4 hr4) q4⟩
theorem s_drop {we : WE} {st : Stmt} (h : PS X st (tDrop (upE X.K we))) : PS X st (upSt X.K fun E ρ μ => we ρ μ fun _ μ1 => E.nx ρ μ1) :=
  h.imp fun D σ H ⟨ρ, μ, Z, B, E, hs, hw, fin⟩ => upE_i hs hw fun d μ1 v H1 Z1 l1 hs1 r1 q1 => (fin.later l1).nx hs1 q1
theorem s_ret {we : WE} {st : Stmt} (h : PS X st (tRet (upE X.K we))) : PS X st (upSt X.K fun E ρ μ => we ρ μ E.rt) :=
  h.imp fun D σ H ⟨ρ, μ, Z, B, E, hs, hw, fin⟩ => upE_i hs hw fun d μ1 v H1 Z1 l1 hs1 r1 q1 => fin.2.2.2 _ _ _ _ _ l1 hs1.1 r1 q1
theorem s_iff {tc : WT} {wa wb : DEnds → Rho → M → Prop} {st : Stmt} (h : PS X st (tIfS (upT X.K tc) (upSt X.K wa) (upSt X.K wb))) : PS X st (upSt X.K fun E ρ μ => tc ρ μ fun k μ1 => if k = true then wa E ρ μ1 else wb E ρ μ1) :=
  h.imp fun D σ H ⟨ρ, μ, Z, B, E, hs, hw, fin⟩ => upT_i hs hw fun k μ1 H1 Z1 l1 hs1 q1 => by
    cases k with
    | true =>
      rw [if_pos rfl] at q1 ⊢
      exact ⟨ρ, μ1, Z1, B, E, hs1, q1, fin.later l1⟩
    | false =>
      rw [if_neg Bool.false_ne_true] at q1 ⊢
      exact ⟨ρ, μ1, Z1, B, E, hs1, q1, fin.later l1⟩
theorem s_whl {tc : WT} {wb : DEnds → Rho → M → Prop} {st : Stmt} (h : PS X st (tWhile (upT X.K tc) (upSt X.K wb))) : PS X st (upSt X.K fun E ρ μ => ∃ W : Nat → Rho → M → Prop, (∃ m, W m ρ μ) ∧ ∀ m ρ' μ', W m ρ' μ' → tc ρ' μ' fun k μ1 =>
      if k = true then wb { E with nx := fun ρ2 μ2 => ∃ m', m' < m ∧ W m' ρ2 μ2, ct := fun ρ2 μ2 => ∃ m', m' < m ∧ W m' ρ2 μ2, bk := E.nx } ρ' μ1 else E.nx ρ' μ1) :=
  h.imp fun D σ H ⟨ρ, μ, Z, B, E, hs, hw, fin⟩ => by
    obtain ⟨W, ⟨m0, w0⟩, turn⟩ := hw
    refine ⟨fun m σ' H' => ∃ ρ' μ' Z', Le H Z H' Z' ∧ Sta X.K ρ' μ' Z' B σ' H' ∧ W m ρ' μ', ⟨m0, ρ, μ, Z, LeW.refl, hs, w0⟩, fun m σ' H' ⟨ρ', μ', Z', l, hs', w⟩ => ?_⟩
    refine upT_i hs' (turn m ρ' μ' w) fun k μ1 H1 Z1 l1 hs1 q1 => ?_
    cases k with
    | true =>
      rw [if_pos rfl] at q1 ⊢
      refine ⟨fun σ2 H2 => ∃ m', m' < m ∧ ∃ ρ' μ' Z', Le H Z H2 Z' ∧ Sta X.K ρ' μ' Z' B σ2 H2 ∧ W m' ρ' μ', fun σ2 H2 q => q, ?_⟩
      refine ⟨ρ', μ1, Z1, B, _, hs1, q1, fun ρ2 μ2 σ2 H2 Z2 l2 hs2 q2 => ?_, fun ρ2 μ2 σ2 H2 Z2 l2 hs2 q2 => ?_, fun ρ2 μ2 σ2 H2 Z2 l2 hs2 q2 => ?_, (fin.2.2.2.later l).later l1⟩
      · obtain ⟨m', hm, w'⟩ := q2
        exact ⟨m', hm, ρ2, μ2, Z2, (l.trans l1).trans l2, hs2, w'⟩
      · exact (((fin.later l).later l1).later l2).nx hs2 q2
      · obtain ⟨m', hm, w'⟩ := q2
        exact ⟨m', hm, ρ2, μ2, Z2, (l.trans l1).trans l2, hs2, w'⟩
    | false =>
      rw [if_neg Bool.false_ne_true] at q1 ⊢
      exact ((fin.later l).later l1).nx hs1 q1
theorem s_for {tg : CT} {wi : WI} {wb : DEnds → Rho → M → Prop} {st : Stmt} {g : TG} (hg : upG X.K tg g) (h : PS X st (tFor (upI X.K wi) g (upSt X.K wb))) :
    PS X st (upSt X.K fun E ρ μ => wi ρ μ fun s μ1 => ∃ P : Nat → Rho → M → Prop, P 0 ρ μ1 ∧ (∀ i ρ' μ', P i ρ' μ' → i ≤ s.items.length → s.ok μ') ∧
      (∀ i x ρ' μ', s.items[i]? = some x → P i ρ' μ' → ∃ ρ2, bindT μ' tg x ρ' = some ρ2 ∧ wb { E with nx := P (i + 1), ct := P (i + 1), bk := E.nx } ρ2 μ') ∧
      ∀ ρ' μ', P s.items.length ρ' μ' → E.nx ρ' μ') :=
  h.imp fun D σ H ⟨ρ, μ, Z, B, E, hs, hw, fin⟩ => by
    refine ⟨ρ, μ, Z, B, _, hs, hw, fun s μ1 J H1 Z1 l1 hr1 ok sv q1 => ?_⟩
    obtain ⟨P, p0, pok, step, done⟩ := q1
    have hs1 := hs.le l1 hr1
    refine ⟨fun i m σ' H' => m = s.items.length - i ∧ i ≤ s.items.length ∧ ∃ ρ' μ' Z', Le H1 Z1 H' Z' ∧ Sta X.K ρ' μ' Z' B σ' H' ∧ P i ρ' μ', ⟨_, rfl, Nat.zero_le _, ρ, μ1, Z1, LeW.refl, hs1, p0⟩, ?_⟩
    rintro i m σ' H' ⟨rfl, hi, ρ', μ', Z', l, hs', p⟩
    obtain ⟨sgo, syld, sstop⟩ := sv B (.inl rfl) H' Z' μ' l.weak hs'.1 (pok i ρ' μ' p hi)
    by_cases hlt : i < s.items.length
    · refine .inr ⟨sgo i hlt, fun σ2 H2 => ∃ ρ' μ' Z', Le H1 Z1 H2 Z' ∧ Sta X.K ρ' μ' Z' B σ2 H2 ∧ P (i + 1) ρ' μ', fun σ2 H2 q => ⟨_, by omega, rfl, hlt, q⟩, fun x H'' y => ?_⟩
      obtain ⟨rfl, rx⟩ := syld i x H'' _ y (List.getElem?_eq_getElem hlt)
      obtain ⟨ρ2, eb, hw2⟩ := step i _ ρ' μ' (List.getElem?_eq_getElem hlt) p
      refine hg x σ' H'' _ _ ρ' ρ2 μ' Z' B hs'.2 rx eb fun σ2 rr2 _ => ?_
      refine ⟨ρ2, μ', Z', B, _, ⟨hs'.1, rr2⟩, hw2, fun ρ3 μ3 σ3 H3 Z3 l3 hs3 q3 => ?_, fun ρ3 μ3 σ3 H3 Z3 l3 hs3 q3 => ?_, fun ρ3 μ3 σ3 H3 Z3 l3 hs3 q3 => ?_, ((fin.2.2.2.later l1).later l)⟩
      · exact ⟨ρ3, μ3, Z3, l.trans l3, hs3, q3⟩
      · exact (((fin.later l1).later l).later l3).nx hs3 q3
      · exact ⟨ρ3, μ3, Z3, l.trans l3, hs3, q3⟩
    · have e : i = s.items.length := by omega
      subst e
      exact .inl ⟨sstop _ (Nat.le_refl _), ((fin.later l1).later l).nx hs' (done ρ' μ' p)⟩
end
end Rf

set_option Elab.async false
set_option linter.all false
set_option maxRecDepth 100000
/-! Rf10: statements that pass the look; defs; a whole text, level by level -/
namespace Rf
open PySem L2 PySem.Spec PyProof.Rows
variable {Γ : Tab} {k : Nat}

theorem aug_ok {i : Expr} {c : CE} {S : SC} (h : chkE c S i = true) (ov iv new : Value) : augStore i ov iv new = (do holding [new, ov, iv] (setItem ov iv new); release [new, ov, iv] []; pure .next) := by
  cases i with
  | Slice l u s p => cases c <;> cases h
  | _ => rfl
theorem sub_assign {o i : Expr} {p : Pos} {c : CE} {S : SC} {env : Env} (h : chkE c S i = true) (v : Value) : assign (.Subscript o i p) env v = (do
      let ov ← holding [v] (eval o env)
      let iv ← holding [v, ov] (eval i env)
      standAt p
      holding [v, ov, iv] (setItem ov iv v)
      release [v, ov, iv] []) := by
  cases i with
  | Slice l u s p => cases c <;> cases h
  | _ => rfl
/-- what is read at a place, by values -/
theorem get_ok {X : Cx} (hu : X.A.units + 64 < cLine) : PGet X (upO X.K opIdxC) := by
  intro pins s σ H o i ov iv Q I r1 r2 hw
  obtain ⟨dx, dy, μ, Z, B, Q0, hr, rx, ry, ho, fin⟩ := hw
  cases dx with
  | cel n =>
    simp only [opIdxC, opIdx] at ho
    split at ho
    · rename_i xs e
      cases dy with
      | int j =>
        simp only at ho
        split at ho
        · rename_i d e2
          obtain ⟨a, rfl, _, vs, h1, rs⟩ := hr.at_ e rx
          obtain ⟨w, e3, rw'⟩ := rs.atI e2
          cases ry
          cases (show ov = Value.ref a from r1)
          obtain ⟨t, rfl⟩ := (show ∃ t, iv = Value.int j t from r2)
          obtain ⟨its, r, pl, hz⟩ := I.list (.of h1)
          obtain ⟨m, q1, q2, q3, q4, q5⟩ := atI_get e3
          obtain ⟨w', ew, rw2⟩ := r.get q2
          have hl := r.length
          have hn := line63
          have fin' : EP X pins σ Q w' s := ⟨w, H, I, rw2, fin.here hr rw' ho⟩
          by_cases h0 : 0 ≤ j
          · have hj : j.toNat = m := by
              rw [seqIndex_of h0 q5] at q1
              exact Option.some.inj q1
            exact wpAny_getItem_list pl.isList h0 (by omega) (by rw [hj]; simpa using ew) fin'
          · have hj : (j + (its.toArray.size : Int)).toNat = m := by
              rw [seqIndex_neg (by omega) q4] at q1
              rw [List.size_toArray, ← hl]
              exact Option.some.inj q1
            exact wpAny_getItem_list_neg pl.isList (by omega) (by rw [List.size_toArray]; omega) (by omega) (by rw [hj]; simpa using ew) fin'
        · exact ho.elim
      | _ => exact ho.elim
    · rename_i kvs e
      split at ho
      · rename_i key ek
        split at ho
        · rename_i d e2
          obtain ⟨a, rfl, _, kws, h1, rs⟩ := hr.at_ e rx
          obtain ⟨w, e3, rw'⟩ := rs.get.1 d e2
          have ev := keyD_rel ek ry
          subst ev
          cases (show ov = Value.ref a from r1)
          exact d_getItem (by omega) I (by rw [← e3]; exact DGet.k h1) r2 fun w' s3 I3 rw2 => ⟨w, H, I3, rw2, fin.here hr rw' ho⟩
        · exact ho.elim
      · exact ho.elim
    · exact ho.elim
  | _ => exact ho.elim

section
variable {X : Cx} {S : SC}
/-- += and -= of ints -/
theorem ipq {op : Operator} (h : (op == .Add || op == .Sub) = true) : ∃ f : Int → Int → Int, PIp X op (ipI f) ∧ ∀ i j μ (Q : WQ), opBin op (.int i) (.int j) μ Q → Q (.int (f i j)) μ := by
  cases op <;> first
    | exact ⟨_, ip_add, fun i j μ Q q => q⟩
    | exact ⟨_, ip_sub, fun i j μ Q q => q.2⟩
    | cases h
mutual
theorem sndS : ∀ (c : CS) (X : Cx) (S : SC) (s : Stmt), Ctx X S Γ k → S.sc.kind = .function → chkS c S s = true → PS X s (upSt X.K (wS Γ c))
  | .set i e, X, S, s, C, hk, h => by
    simp only [chkS] at h
    split at h
    · rename_i x px v pos
      simp only [Bool.and_eq_true, beq_iff_eq] at h
      obtain ⟨⟨⟨h1, h2⟩, h3⟩, h4⟩ := h
      have hE := (sndE e X S v C h4).1
      have hN : X.N[i]? = some x := by rw [C.N]; exact h1
      have nd : X.N.Nodup := by rw [C.N]; exact C.nd
      by_cases hv : notLc v = true
      · exact s_set (ps_set nd hN (loc_ok C h2) hE (nosw h4 hv _ _ _) (C.fn x h3)) fun _ _ _ q => q
      · cases v with
        | ListComp elt' gs scope p =>
          by_cases hsw : swapsWith (.ListComp elt' gs scope p) (some (.Name x px)) pos.line X.env = pure false
          · exact s_set (ps_set nd hN (loc_ok C h2) hE hsw (C.fn x h3)) fun _ _ _ q => q
          · have hkf : X.env.scope.kind = .function := by rw [C.sc]; exact hk
            have hb : X.env.blockKind = .function := by unfold Env.blockKind; rw [hkf]; rfl
            have hsT : swapsWith (.ListComp elt' gs scope p) (some (.Name x px)) pos.line X.env = pure true ∧ X.env.scope.names.lookup x = some .local := by
              have e1 : swapsWith (.ListComp elt' gs scope p) (some (.Name x px)) pos.line X.env = pure (X.env.blockKind == .function && X.env.kindOf x == some .local && px.line == p.line && !(scope.names.any fun (n, k) => n == x && (k == .local || k == .cell))) := rfl
              cases hc : (X.env.blockKind == .function && X.env.kindOf x == some .local && px.line == p.line && !(scope.names.any fun (n, k) => n == x && (k == .local || k == .cell))) with
              | false => rw [hc] at e1; exact absurd e1 hsw
              | true =>
                rw [hc] at e1
                simp only [Bool.and_eq_true, beq_iff_eq] at hc
                exact ⟨e1, hc.1.1.2⟩
            cases e with
            | lc tg it ifs elt own =>
              simp only [chkE] at h4
              split at h4
              · rename_i elt2 tg' it' ifs' scope2 p2 heq
                cases heq
                simp only [Bool.and_eq_true] at h4
                obtain ⟨⟨⟨⟨⟨⟨g1, g2⟩, g3⟩, g4⟩, g5⟩, g6⟩, g7⟩ := h4
                have hI := sndI it X S tg' it' C g4
                have eo : (ownOf S own).map (·.2) = own := by
                  unfold ownOf
                  rw [List.map_map]
                  exact (List.map_congr_left fun _ _ => rfl).trans (List.map_id _)
                have hL := ps_setLc (pos := p) (spos := pos) (py := px) (elt := elt') (te := upE X.K (wE Γ elt)) (g := gOf X.K tg) (tt := fOf X.K Γ ifs) C.calm nd hN hsT.2 hsT.1 hI (blkOk_by (by rw [C.N, C.sc]; exact g1)) (fun s H c cl fp => tgt_ok (C.blk s H scope cl c fp) g5) (fun s H c cl fp => sndF ifs _ _ ifs' (C.blk s H scope cl c fp) g6)
                  (fun s H c cl fp => (sndE elt _ _ elt' (C.blk s H scope cl c fp) g7).1) (fun x => fold_of g3 _ x)
                rw [eo] at hL
                exact s_set hL (lc_up (fun _ _ _ q => q) gOf_ok (fun i hi => by
                  rw [List.all_eq_true] at g2
                  simpa using g2 i hi) (fun σ H R q => fOf_up q) (fun _ _ _ q => q))
              · cases h4
            | _ => cases h4
        | _ => exact absurd rfl hv
    · cases h
  | .unp is e, X, S, s, C, hk, h => by
    simp only [chkS] at h
    split at h
    · rename_i es kk p v pos
      simp only [Bool.and_eq_true, beq_iff_eq] at h
      obtain ⟨⟨⟨h1, h2⟩, h3⟩, h4⟩ := h
      obtain ⟨p1, p2, p3⟩ := names_ok C is es h1 h2
      refine s_unp (ps_asg (sndE e X S v C h4).1 (pg_either C.calm p1 p2 p3) ?_ ?_ rfl)
      · exact nosw2 h4 (.Tuple es kk p) rfl pos.line X.env
      · refine noSwap_ok (by rw [C.sc]; exact hk) ?_
        rw [C.sc]; exact h3
    · cases h
  | .par i j a b, X, S, s, C, hk, h => by
    simp only [chkS] at h
    split at h
    · rename_i x px y py kk p u v k2 p2 pos
      simp only [Bool.and_eq_true, beq_iff_eq, decide_eq_true_eq, Bool.not_eq_true', beq_eq_false_iff_ne] at h
      obtain ⟨⟨⟨⟨⟨⟨⟨h1, h2⟩, h3⟩, h4⟩, h5⟩, h6⟩, h7⟩, h8⟩ := h
      have lc : ∀ z, isLocB S.sc z = true → X.env.scope.names.lookup z = some .local := fun z hz => by
        rw [C.sc]
        unfold isLocB at hz
        split at hz
        · assumption
        · cases hz
      exact s_par (ps_par C.calm (by rw [C.N]; exact C.nd) (by rw [C.N]; exact h1) (by rw [C.N]; exact h2) h3 (lc x h4) (lc y h5) (pa_cons (sndE a X S u C h7).1 (pa_cons (sndE b X S v C h8).1 pa_nil (star_one (st_of h8))) (star_one (st_of h7)))
        (swap_ok (by rw [C.sc]; exact hk) (by rw [C.sc]; exact h6)) rfl)
    · cases h
  | .put o i e, X, S, s, C, hk, h => by
    simp only [chkS] at h
    split at h
    · rename_i o' i' p v pos
      simp only [Bool.and_eq_true] at h
      obtain ⟨⟨h1, h2⟩, h3⟩ := h
      refine s_put (ps_asg (sndE e X S v C h3).1 (pg_sub (sndE o X S o' C h1).1 (sndE i X S i' C h2).1 (put_ok C.hu) (sub_assign h2)) ?_ ?_ ?_)
      · exact nosw2 h3 (.Subscript o' i' p) rfl pos.line X.env
      · cases v <;> rfl
      · rfl
    · cases h
  | .augV i op e, X, S, s, C, hk, h => by
    simp only [chkS] at h
    split at h
    · rename_i x p op' v pos
      simp only [Bool.and_eq_true, beq_iff_eq] at h
      obtain ⟨⟨⟨⟨⟨rfl, h1⟩, h2⟩, h3⟩, h4⟩, h5⟩ := h
      obtain ⟨f, hf, hq⟩ := ipq (X := X) h1
      refine (ps_aug (by rw [C.N]; exact C.nd) (by rw [C.N]; exact h2) (loc_ok C h3) (sndE e X S v C h5).1 hf (C.fn x h4)).imp fun D σ H ⟨ρ, μ, Z, B, E, hs, hw, fin⟩ => ?_
      simp only [wS] at hw
      cases eg : getV ρ i with
      | none => rw [eg] at hw; exact hw.elim
      | some d =>
        rw [eg] at hw
        unfold getV at eg
        split at eg
        · rename_i d' e'
          cases eg
          obtain ⟨w, w1, w2⟩ := hs.2.2 i d e'
          refine ⟨w, w1, upE_i hs hw fun y μ1 u H1 Z1 l1 hs1 r1 q1 => ?_⟩
          cases d with
          | int a =>
            cases y with
            | int b =>
              cases w2
              cases r1
              exact ⟨a, b, rfl, rfl, (fin.later l1).nx (hs1.set (.int _) i) (hq a b _ _ q1)⟩
            | _ => exact q1.elim
          | _ => cases y <;> exact q1.elim
        · cases eg
    · cases h
  | .augI o i op e, X, S, s, C, hk, h => by
    simp only [chkS] at h
    split at h
    · rename_i o' i' p op' v pos
      simp only [Bool.and_eq_true, beq_iff_eq] at h
      obtain ⟨⟨⟨⟨rfl, h1⟩, h2⟩, h3⟩, h4⟩ := h
      obtain ⟨f, hf, hq⟩ := ipq (X := X) h1
      refine (ps_augS (sndE o X S o' C h2).1 (sndE i X S i' C h3).1 (get_ok C.hu) (sndE e X S v C h4).1 hf (put_ok C.hu) (aug_ok h3)).imp fun D σ H ⟨ρ, μ, Z, B, E, hs, hw, fin⟩ => ?_
      refine upE_i hs hw fun x μ1 v1 H1 Z1 l1 hs1 r1 q1 => upE_i hs1 q1 fun y μ2 v2 H2 Z2 l2 hs2 r2 q2 => ?_
      refine ⟨x, y, μ2, Z2, B, _, hs2.1, r1.le l2, r2, q2, fun old μ3 w3 H3 Z3 l3 hr3 r3 q3 => ?_⟩
      have hs3 := hs2.le l3 hr3
      refine upE_i hs3 q3 fun z μ4 v4 H4 Z4 l4 hs4 r4 q4 => ?_
      cases old with
      | int a =>
        cases z with
        | int b =>
          cases r3
          cases r4
          refine ⟨a, b, rfl, rfl, ?_⟩
          exact ⟨x, y, .int (f a b), μ4, Z4, B, fun μ6 => E.nx ρ μ6, hs4.1, ((r1.le l2).le l3).le l4, (r2.le l3).le l4, .int _, hq a b _ _ q4, fun μ5 H5 l5 hr5 q5 => ((((fin.later l1).later l2).later l3).later l4 |>.later l5).nx (hs4.le l5 hr5) q5⟩
        | _ => exact q4.elim
      | _ => cases z <;> exact q4.elim
    · cases h
  | .drop e, X, S, s, C, hk, h => by
    simp only [chkS] at h
    split at h
    · rename_i v pos
      simp only [Bool.and_eq_true] at h
      exact s_drop (ps_expr (sndE e X S v C h.1).1 (nosw h.1 h.2 _ _ _))
    · cases h
  | .ret e, X, S, s, C, hk, h => by
    simp only [chkS] at h
    split at h
    · exact s_ret (ps_ret (sndE e X S _ C h).1)
    · cases h
  | .retN, X, S, s, C, hk, h => by
    simp only [chkS] at h
    split at h
    · exact ps_retN.imp fun D σ H ⟨ρ, μ, Z, B, E, hs, hw, fin⟩ => fin.2.2.2 _ _ _ _ _ LeW.refl hs.1 .non hw
    · cases h
  | .iff c a b, X, S, s, C, hk, h => by
    simp only [chkS] at h
    split at h
    · simp only [Bool.and_eq_true] at h
      exact s_iff (ps_if (sndE c X S _ C h.1.1).2 (sndSs a X S _ C hk h.1.2) (sndSs b X S _ C hk h.2))
    · cases h
  | .whl c b, X, S, s, C, hk, h => by
    simp only [chkS] at h
    split at h
    · simp only [Bool.and_eq_true] at h
      exact s_whl (ps_while (by rw [C.xe]; exact PassesOwn.never) (sndE c X S _ C h.1).2 (sndSs b X S _ C hk h.2))
    · cases h
  | .for tg it b, X, S, s, C, hk, h => by
    simp only [chkS] at h
    split at h
    · simp only [Bool.and_eq_true] at h
      exact s_for gOf_ok (ps_for (by rw [C.xe]; exact PassesOwn.never) C.calm (sndI it X S _ _ C h.1.2) (tgt_ok C h.1.1.1) (sndSs b X S _ C hk h.2) (fun x => fold_of h.1.1.2 _ x))
    · cases h
  | .brk, X, S, s, C, hk, h => by
    simp only [chkS] at h
    split at h
    · exact ps_break.imp fun D σ H ⟨ρ, μ, Z, B, E, hs, hw, fin⟩ => fin.2.1 _ _ _ _ _ LeW.refl hs hw
    · cases h
  | .cnt, X, S, s, C, hk, h => by
    simp only [chkS] at h
    split at h
    · exact ps_continue.imp fun D σ H ⟨ρ, μ, Z, B, E, hs, hw, fin⟩ => fin.2.2.1 _ _ _ _ _ LeW.refl hs hw
    · cases h
  | .pass, X, S, s, C, hk, h => by
    simp only [chkS] at h
    split at h
    · exact ps_pass.imp fun D σ H ⟨ρ, μ, Z, B, E, hs, hw, fin⟩ => fin.nx hs hw
    · cases h
  | .dead, X, S, s, C, hk, h => ⟨fun pins s σ H D I ⟨ρ, μ, Z, B, E, hs, hw, fin⟩ => hw.elim⟩
theorem sndSs : ∀ (c : CSs) (X : Cx) (S : SC) (ss : List Stmt), Ctx X S Γ k → S.sc.kind = .function → chkSs c S ss = true → PSs X ss (upSt X.K (wSs Γ c))
  | .nil, X, S, ss, C, hk, h => by
    cases ss with
    | nil => exact pss_nil.imp fun D σ H ⟨ρ, μ, Z, B, E, hs, hw, fin⟩ => fin.nx hs hw
    | cons _ _ => cases h
  | .cons c r, X, S, ss, C, hk, h => by
    cases ss with
    | nil => cases h
    | cons s ss =>
      simp only [chkSs, Bool.and_eq_true] at h
      refine (pss_cons (sndS c X S s C hk h.1) (sndSs r X S ss C hk h.2)).imp fun D σ H ⟨ρ, μ, Z, B, E, hs, hw, fin⟩ => ?_
      exact ⟨ρ, μ, Z, B, _, hs, hw, fun ρ' μ' σ' H' Z' l hs' q => ⟨ρ', μ', Z', B, E, hs', q, fin.later l⟩, fin.2.1, fin.2.2.1, fin.2.2.2⟩
end
end
end Rf

set_option Elab.async false
set_option linter.all false
set_option maxRecDepth 100000
/-! Rf11: defs; a whole text, level by level -/
namespace Rf
open PySem L2 PySem.Spec PyProof.Rows
variable {K : PySem.W.Frag} {H H1 H2 H' : Hp} {Z Z1 Z' Y B : List Addr} {μ μ' μ0 : M}

/-! ### what leaves a def -/
mutual
theorem RD.blw : ∀ {d : D} {v : V}, RD K H Z B d v → d.blw Z.length = true
  | _, _, .non => rfl
  | _, _, .bl _ => rfl
  | _, _, .int _ => rfl
  | _, _, .str _ => rfl
  | _, _, .ty _ => rfl
  | _, _, .tup _ r => by simpa [D.blw] using RDs.blw r
  | _, _, .lst _ _ _ r => by simpa [D.blw] using RDs.blw r
  | _, _, .scr _ r => by simpa [D.blw] using RDs.blw r
  | _, _, .cel e => by simpa [D.blw] using (List.getElem?_eq_some_iff.mp e).1
theorem RDs.blw : ∀ {ds : List D} {vs : List V}, RDs K H Z B ds vs → belowAll Z.length ds = true
  | _, _, .nil => rfl
  | _, _, .cons h r => by simp [belowAll, RD.blw h, RDs.blw r]
end
theorem RKs.blw {ds : List (Key × D)} {vs : List (Key × V)} (h : RKs K H Z B ds vs) : belowAll Z.length (ds.map (·.2)) = true := by
  induction h with
  | nil => rfl
  | cons r _ ih => simp [belowAll, r.2.blw, ih]
theorem COk.blw {a : Addr} {c : CO} (h : COk K H Z B a c) : c.blw Z.length = true := by
  cases c with
  | lst ds => obtain ⟨vs, _, r⟩ := h; exact r.blw
  | dK kvs => obtain ⟨vs, _, r⟩ := h; exact r.blw
theorem FzT.shrink {a : Addr} {vs : List V} (h : FzT K H (Z ++ Y) B a vs) : FzT K H Z B a vs := by
  rcases h with ⟨h, n, b⟩ | h
  · exact .inl ⟨h, fun z => n (List.mem_append_left _ z), b⟩
  · exact .inr h
theorem FzS.shrink {a : Addr} {vs : List V} (h : FzS K H (Z ++ Y) B a vs) : FzS K H Z B a vs := by
  rcases h with ⟨h, n, b⟩ | h
  · exact .inl ⟨h, fun z => n (List.mem_append_left _ z), b⟩
  · exact .inr h
mutual
theorem RD.shrink : ∀ {d : D} {v : V}, d.blw Z.length = true → RD K H (Z ++ Y) B d v → RD K H Z B d v
  | _, _, _, .non => .non
  | _, _, _, .bl b => .bl b
  | _, _, _, .int i => .int i
  | _, _, _, .str s => .str s
  | _, _, _, .ty n => .ty n
  | _, _, h, .tup f r => .tup f.shrink (RDs.shrink (by simpa [D.blw] using h) r)
  | _, _, h, .lst e n b r => .lst e (fun z => n (List.mem_append_left _ z)) b (RDs.shrink (by simpa [D.blw] using h) r)
  | _, _, h, .scr f r => .scr f.shrink (RDs.shrink (by simpa [D.blw] using h) r)
  | _, _, h, .cel e => .cel (by
      have h : decide (_ < Z.length) = true := h
      rw [List.getElem?_append_left (of_decide_eq_true h)] at e
      exact e)
theorem RDs.shrink : ∀ {ds : List D} {vs : List V}, belowAll Z.length ds = true → RDs K H (Z ++ Y) B ds vs → RDs K H Z B ds vs
  | _, _, _, .nil => .nil
  | _, _, h, .cons r rs => by
    simp only [belowAll, Bool.and_eq_true] at h
    exact .cons (RD.shrink h.1 r) (RDs.shrink h.2 rs)
end
theorem RKs.shrink {ds : List (Key × D)} {vs : List (Key × V)} (hb : belowAll Z.length (ds.map (·.2)) = true) (h : RKs K H (Z ++ Y) B ds vs) : RKs K H Z B ds vs := by
  induction h with
  | nil => exact .nil
  | cons r _ ih =>
    simp only [List.map_cons, belowAll, Bool.and_eq_true] at hb
    exact .cons ⟨r.1, r.2.shrink hb.1⟩ (ih hb.2)
theorem COk.shrink {a : Addr} {c : CO} (hb : c.blw Z.length = true) (h : COk K H (Z ++ Y) B a c) : COk K H Z B a c := by
  cases c with
  | lst ds => obtain ⟨vs, e, r⟩ := h; exact ⟨vs, e, r.shrink hb⟩
  | dK kvs => obtain ⟨vs, e, r⟩ := h; exact ⟨vs, e, RKs.shrink hb r⟩
mutual
theorem frz_ok (hr : HRel K μ (Z ++ Y) B H) : ∀ {d d' : D} {v : V}, d.frz Z.length μ = some d' → RD K H (Z ++ Y) B d v → RD K H Z B d' v
  | .non, d', v, e, r => by cases e; cases r; exact .non
  | .bl _, d', v, e, r => by cases e; cases r; exact .bl _
  | .int _, d', v, e, r => by cases e; cases r; exact .int _
  | .str _, d', v, e, r => by cases e; cases r; exact .str _
  | .ty _, d', v, e, r => by cases e; cases r; exact .ty _
  | .tup xs, d', v, e, r => by
    cases h : frzAll Z.length μ xs with
    | none => rw [D.frz, h] at e; cases e
    | some ys =>
      rw [D.frz, h] at e
      cases e
      cases r with
      | tup f rs => exact .tup f.shrink (frzAll_ok hr h rs)
  | .lst xs, d', v, e, r => by
    cases h : frzAll Z.length μ xs with
    | none => rw [D.frz, h] at e; cases e
    | some ys =>
      rw [D.frz, h] at e
      cases e
      cases r with
      | lst f n b rs => exact .lst f (fun z => n (List.mem_append_left _ z)) b (frzAll_ok hr h rs)
  | .scr xs, d', v, e, r => by
    rw [D.frz] at e
    split at e
    · rename_i h
      cases e
      exact r.shrink (by simpa [D.blw] using h)
    · cases e
  | .cel k, d', v, e, r => by
    rw [D.frz] at e
    split at e
    · rename_i h
      cases e
      exact r.shrink (by simpa [D.blw] using h)
    · rename_i h
      split at e
      · rename_i xs q
        split at e
        · rename_i hb
          cases e
          obtain ⟨a, rfl, ea, vs, h1, rs⟩ := hr.at_ q r
          refine .lst h1 (fun z => ?_) (hr.zb a (List.mem_of_getElem? ea)) (rs.shrink hb)
          -- a stands behind Z
          obtain ⟨j, ej⟩ := List.mem_iff_getElem?.mp z
          have hj := (List.getElem?_eq_some_iff.mp ej).1
          have ej' : (Z ++ Y)[j]? = some a := by rw [List.getElem?_append_left hj]; exact ej
          have := nodup_at hr.nd ej' ea
          omega
        · cases e
      · cases e
theorem frzAll_ok (hr : HRel K μ (Z ++ Y) B H) : ∀ {ds ds' : List D} {vs : List V}, frzAll Z.length μ ds = some ds' → RDs K H (Z ++ Y) B ds vs → RDs K H Z B ds' vs
  | [], ds', vs, e, r => by cases e; cases r; exact .nil
  | d :: ds, ds', vs, e, r => by
    cases r with
    | cons r1 r2 =>
      cases h1 : d.frz Z.length μ with
      | none => simp [frzAll, h1] at e
      | some p =>
        cases h2 : frzAll Z.length μ ds with
        | none => simp [frzAll, h1, h2] at e
        | some qs =>
          simp [frzAll, h1, h2] at e
          subst e
          exact .cons (frz_ok hr h1 r1) (frzAll_ok hr h2 r2)
end
theorem rt_fin {Q : WQ} {Q' : VK} (h0 : HRel K μ0 Z B H) (fin : Fin K H Z B Q Q') : Fin K H Z B (rtD μ0 Q) Q' := by
  intro d μ' v H' Z' l hr r q
  rcases q with q | ⟨d', e, cl, q⟩
  · exact fin d μ' v H' Z' l hr r q
  · obtain ⟨Y, rfl⟩ := l.pre
    have hl : Z.length = μ0.length := h0.len
    rw [← hl] at e cl q
    have hlen : Z.length ≤ μ'.length := by
      have := hr.len
      rw [List.length_append] at this
      omega
    have l2 : Le H Z H' Z := ⟨fun a o ea n w => ⟨(l.keep a o ea n w).1, n⟩, ⟨[], by simp⟩, l.there⟩
    refine fin d' _ v H' Z l2 ⟨?_, ?_, fun a z => hr.zb a (List.mem_append_left _ z), hr.hb, fun i c ec => ?_⟩ (frz_ok hr e r) q
    · rw [List.length_take]; omega
    · have := hr.nd
      rw [List.nodup_append] at this
      exact this.1
    · have hi : i < Z.length := by
        have := (List.getElem?_eq_some_iff.mp ec).1
        rw [List.length_take] at this
        omega
      rw [List.getElem?_take_of_lt hi] at ec
      obtain ⟨a, ea, ok⟩ := hr.cel i c ec
      rw [List.getElem?_append_left hi] at ea
      refine ⟨a, ea, ok.shrink ?_⟩
      rcases cl i c hi ec with c0 | cb
      · obtain ⟨a', _, ok'⟩ := h0.cel i c c0
        exact ok'.blw
      · exact cb

/-! ### a def -/
def fnScB (N P : List Str) (sc : Scope) : Bool :=
  sc.kind == .function && !sc.isCoroutine && !sc.isGenerator && decide N.Nodup && (N.take P.length == P) && P.all (locB sc) && sc.names.all fun y => !(y.2 == .free)
theorem fnSc_ok {N P : List Str} {sc : Scope} (h : fnScB N P sc = true) : FnScope N P sc := by
  unfold fnScB at h
  simp only [Bool.and_eq_true, beq_iff_eq, Bool.not_eq_true', decide_eq_true_eq, List.all_eq_true] at h
  obtain ⟨⟨⟨⟨⟨⟨h1, h2⟩, h3⟩, h4⟩, h5⟩, h6⟩, h7⟩ := h
  refine ⟨h1, h2, h3, h4, h5, fun x hx => ?_, fun y hy e => ?_⟩
  · have := h6 x hx
    unfold locB at this
    split at this
    · exact .inl (by assumption)
    · exact .inr (by assumption)
    · cases this
  · have := h7 y hy
    rw [e] at this
    cases this
theorem start_rr {ds : List D} {vs : List V} (r : RDs K H Z B ds vs) (N : List Str) (hl : ds.length ≤ N.length) : RR K H Z B (startD N.length ds) (L2.start N vs) := by
  have e := r.length
  unfold startD L2.start
  refine ⟨by simp [e], fun i d h => ?_⟩
  by_cases hi : i < ds.length
  · rw [List.getElem?_append_left (by simpa using hi), List.getElem?_map] at h
    rw [List.getElem?_append_left (by simpa [← e] using hi), List.getElem?_map]
    cases q : ds[i]? with
    | none => rw [q] at h; cases h
    | some d' =>
      rw [q] at h
      cases h
      obtain ⟨v, q1, q2⟩ := r.get q
      exact ⟨v, by rw [q1]; rfl, q2⟩
  · rw [List.getElem?_append_right (by simpa using hi), List.getElem?_replicate] at h
    split at h <;> cases h
/-- a text's def in the core language -/
structure DefI where
  name : Str
  st : Stmt
  ps : List Str
  N : List Str
  ir : CSs
def DefI.S (d : DefI) (FN : List Str) (KW : List (Nat × Nat × List Str × List Nat)) (BN : List Str) (GC : Bool) : SC := ⟨d.N, defScope d.st, none, FN, KW, BN, GC⟩
def DefI.ok (d : DefI) (FN : List Str) (KW : List (Nat × Nat × List Str × List Nat)) (BN : List Str) (GC : Bool) : Bool :=
  fnScB d.N d.ps (defScope d.st) && chkSs d.ir (d.S FN KW BN GC) (defBody d.st)
section
variable {P : Program} {w : World} {mg : Str → Option Value} {base : Heap} {k : Nat}
/-- the facts of the head about a text's defs: where each stands, how it binds -/
structure DefAt (K : PySem.W.Frag) (mg : Str → Option Value) (KW : List (Nat × Nat × List Str × List Nat)) (i : Nat) (d : DefI) (a : Addr) (fd : FuncData) : Prop where
  fn : Fun K d.name d.name d.st a fd
  at_ : mg d.name = some (.ref a)
  bi : Binds K fd d.ps []
  kb : ∀ n ks perm, (i, n, ks, perm) ∈ KW → KBinds K fd d.ps ks (permU perm n ks.length) (permV perm n ks.length)
theorem def_ok {FN : List Str} {KW : List (Nat × Nat × List Str × List Nat)} {BN : List Str} {GC : Bool} {Γ : Tab} {S : DSpec} {d : DefI} {a : Addr} {fd : FuncData} (F : Fun K d.name d.name d.st a fd) (ok : d.ok FN KW BN GC = true)
    (bn : ∀ n ∈ BN, mg n = none) (gc : GC = true → mg "gcd" = some (.builtin "math.gcd"))
    (fs : ∀ f x, FN[f]? = some x → ∃ (a : Addr) (fd : FuncData) (ps : List Str), mg x = some (.ref a) ∧ PySem.W.keepIn K (.ref a) = true ∧ FnOk P w K mg base CX0 k a fd ps (lift K (Γ f)) ∧ Binds K fd ps [] ∧
      ∀ n ks perm, (f, n, ks, perm) ∈ KW → KBinds K fd ps ks (permU perm n ks.length) (permV perm n ks.length))
    (len : ∀ ds μ Q, S ds μ Q → ds.length = d.ps.length) (body : ∀ ds μ Q, S ds μ Q → wDef Γ d.N.length d.ir ds μ Q) : FnOk P w K mg base CX0 (k + 1) a fd d.ps (lift K S) := by
  unfold DefI.ok at ok
  rw [Bool.and_eq_true] at ok
  have sc := fnSc_ok ok.1
  refine F.ok sc (fun vs H Q E ⟨ds, μ, Z, B, Q0, hr, rs, hS, fin⟩ => by rw [← rs.length]; exact len _ _ _ hS) fun cdv A outer s H vs Q E hr ⟨ds, μ, Z, B, Q0, h0, rs, hS, fin⟩ => ?_
  have hl := len _ _ _ hS
  have hpN : d.ps.length ≤ d.N.length := by
    have := congrArg List.length sc.pre
    rw [List.length_take] at this
    omega
  have C : Ctx (cxOf CX0 P w K mg base d.N d.name (defScope d.st) a cdv A outer s H E).nox (d.S FN KW BN GC) Γ k :=
    { N := rfl, nd := sc.nd, sc := rfl, calm := rfl, room := hr, xe := rfl, bn := bn, gc := gc, fn := fun _ _ => .inl rfl, fs := fun f x h => ⟨fs f x h⟩ }
  refine ⟨_, sndSs d.ir _ _ _ C sc.kind ok.2, startD d.N.length ds, μ, Z, B, _, ⟨h0, start_rr rs d.N (by omega)⟩, body ds μ Q0 hS, ?_, ?_, ?_, ?_⟩
  · intro ρ' μ' σ' H' Z' l hs q
    exact rt_fin h0 fin _ _ _ _ _ l hs.1 .non q
  · intro ρ' μ' σ' H' Z' l hs q
    exact q.elim
  · intro ρ' μ' σ' H' Z' l hs q
    exact q.elim
  · exact rt_fin h0 fin
/-- all defs of a text, level by level -/
theorem all_ok' {Ds : List DefI} {KW : List (Nat × Nat × List Str × List Nat)} {BN : List Str} {GC : Bool} {T : Nat → Tab} (ok : Ds.all (fun d => d.ok (Ds.map (·.name)) KW BN GC) = true)
    (bn : ∀ n ∈ BN, mg n = none) (gc : GC = true → mg "gcd" = some (.builtin "math.gcd"))
    (at_ : ∀ i d, Ds[i]? = some d → ∃ a fd, DefAt K mg KW i d a fd)
    (T0 : ∀ f ds μ Q, ¬ T 0 f ds μ Q) (len : ∀ k i d ds μ Q, Ds[i]? = some d → T k i ds μ Q → ds.length = d.ps.length)
    (body : ∀ k i d ds μ Q, Ds[i]? = some d → T (k + 1) i ds μ Q → wDef (T k) d.N.length d.ir ds μ Q) :
    ∀ k i d a fd, Ds[i]? = some d → DefAt K mg KW i d a fd → FnOk P w K mg base CX0 k a fd d.ps (lift K (T k i))
  | 0, i, d, a, fd, hd, F => ⟨fun vs H Q E ⟨ds, μ, Z, B, Q0, hr, rs, hS, fin⟩ => (T0 _ _ _ _ hS).elim, fun A outer s H args us vs Q E _ _ _ _ ⟨ds, μ, Z, B, Q0, hr, rs, hS, fin⟩ => (T0 _ _ _ _ hS).elim⟩
  | k + 1, i, d, a, fd, hd, F => by
    refine def_ok F.fn (List.all_eq_true.mp ok d (List.mem_of_getElem? hd)) bn gc (fun f x hx => ?_) (fun ds μ Q h => len (k + 1) i d ds μ Q hd h) (fun ds μ Q h => body k i d ds μ Q hd h)
    rw [List.getElem?_map] at hx
    cases e : Ds[f]? with
    | none => rw [e] at hx; cases hx
    | some d' =>
      rw [e] at hx
      cases hx
      obtain ⟨a', fd', F'⟩ := at_ f d' e
      exact ⟨a', fd', d'.ps, F'.at_, F'.fn.kp, all_ok' ok bn gc at_ T0 len body k f d' a' fd' e F', F'.bi, F'.kb⟩
end
end Rf
namespace Rf
open PySem L2 PySem.Spec PyProof.Rows
theorem scr_ints {K : PySem.W.Frag} {H : Hp} {Z B : List Addr} : ∀ ns : List Int, RDs K H Z B (ns.map .int) (ns.map V.int)
  | [] => .nil
  | n :: ns => .cons (.int n) (scr_ints ns)
/-- where a law's call begins -/
theorem law_start {K : PySem.W.Frag} {H : Hp} {a : Addr} {ns : List Int} {S : DSpec} {E : XK} (h : S [.scr (ns.map .int)] [] fun d _ => d = .bl true) (hS : SqL K H a (ns.map V.int)) : lift K S [.ref a] H (fun v _ => v = .bl true) E := by
  have hr : HRel K [] [] [] H := ⟨rfl, .nil, fun _ z => (nomatch z), fun _ z => (nomatch z), fun i c e => by simp at e⟩
  refine ⟨[.scr (ns.map .int)], [], [], [], fun d _ => d = .bl true, hr, .cons (.scr (vs := ns.map V.int) ?_ (scr_ints ns)) .nil, h, fun d μ' w H' Z' l hr r q => ?_⟩
  · rcases hS with h | h
    · exact .inl ⟨h, by simp, by simp⟩
    · exact .inr h
  · subst q
    cases r
    rfl
end Rf

set_option Elab.async false
set_option linter.all false
set_option maxRecDepth 100000
/-! Rf12: rows for simp: what is wanted of the core language, read off -/
namespace Rf
open PySem L2
section
variable {Γ : Tab} {ρ : Rho} {μ : M} {Q : WQ} {i j : Int} {x y d : D}
@[simp] theorem r_getV0 {o : Option D} : getV (o :: ρ) 0 = o := by cases o <;> rfl
@[simp] theorem r_getVs {o : Option D} {n : Nat} : getV (o :: ρ) (n + 1) = getV ρ n := rfl
@[simp] theorem r_opI {C : Int → Int → Prop} {g : Int → Int → Int} : Rf.opI C g (.int i) (.int j) μ Q = (C i j ∧ Q (.int (g i j)) μ) := rfl
@[simp] theorem r_addI : opAdd (.int i) (.int j) μ Q = Q (.int (i + j)) μ := rfl
@[simp] theorem r_addS {a b : Str} : opAdd (.str a) (.str b) μ Q = (a.length + b.length ≤ sizeLine ∧ Q (.str (a ++ b)) μ) := rfl
@[simp] theorem r_addT {a b : List D} : opAdd (.tup a) (.tup b) μ Q = (a ≠ [] ∧ a.length + b.length ≤ sizeLine ∧ Q (.tup (a ++ b)) μ) := rfl
@[simp] theorem r_addL {a b : List D} : opAdd (.lst a) (.lst b) μ Q = newL (a ++ b) μ Q := by
  show (∃ xs ys, asL μ (.lst a) = some xs ∧ asL μ (.lst b) = some ys ∧ newL (xs ++ ys) μ Q) = _
  simp [asL]
@[simp] theorem r_add : opBin .Add = opAdd := rfl
@[simp] theorem r_sub : opBin .Sub (.int i) (.int j) μ Q = Q (.int (i - j)) μ := by
  show (True ∧ _) = _
  simp
@[simp] theorem r_mul : opBin .Mult (.int i) (.int j) μ Q = ((CMul i j ∨ CMulW i j) ∧ Q (.int (i * j)) μ) := rfl
@[simp] theorem r_fdiv : opBin .FloorDiv (.int i) (.int j) μ Q = (CDivW i j ∧ Q (.int (i / j)) μ) := rfl
@[simp] theorem r_mod : opBin .Mod (.int i) (.int j) μ Q = (0 < j ∧ Q (.int (i % j)) μ) := rfl
@[simp] theorem r_pow : opBin .Pow (.int i) (.int j) μ Q = (CPow i j ∧ Q (.int (i ^ j.toNat)) μ) := rfl
@[simp] theorem r_gcd : opBlt .gcd [.int i, .int j] μ Q = Q (.int ((Nat.gcd i.natAbs j.natAbs : Nat) : Int)) μ := rfl
@[simp] theorem r_abs : opBlt .abs [.int i] μ Q = Q (.int (if i < 0 then -i else i)) μ := rfl
@[simp] theorem r_int : opBlt .int [.int i] μ Q = Q (.int i) μ := rfl
@[simp] theorem r_intB {b : Bool} : opBlt .int [.bl b] μ Q = Q (.int (if b then 1 else 0)) μ := rfl
@[simp] theorem r_isi {t : D} : opBlt .isi [x, t] μ Q = (match isiD μ x t with | some b => Q (.bl b) μ | none => False) := by cases x <;> cases t <;> rfl
@[simp] theorem r_len : opBlt .len [x] μ Q = (match lenD μ x with | some n => Q (.int n) μ | none => False) := by cases x <;> rfl
@[simp] theorem r_all : opBlt .all [x] μ Q = (match (asL μ x).bind blsD with | some bs => Q (.bl (bs.all id)) μ | none => False) := by cases x <;> rfl
@[simp] theorem r_any : opBlt .any [x] μ Q = (match (asL μ x).bind blsD with | some bs => Q (.bl (bs.any id)) μ | none => False) := by cases x <;> rfl
@[simp] theorem r_list : opBlt .list [x] μ Q = (match asSq μ x with | some xs => newL xs μ Q | none => False) := by cases x <;> rfl
@[simp] theorem r_tupleT {xs : List D} : opBlt .tuple [.tup xs] μ Q = Q (.tup xs) μ := rfl
@[simp] theorem r_tupleL {xs : List D} : opBlt .tuple [.lst xs] μ Q = Q (.tup xs) μ := rfl
@[simp] theorem r_tupleC {n : Nat} : opBlt .tuple [.cel n] μ Q = (match asR μ (.cel n) with | some xs => Q (.tup xs) μ | none => False) := rfl
@[simp] theorem r_max : opBlt .max2 [.int i, .int j] μ Q = Q (.int (if j > i then j else i)) μ := rfl
@[simp] theorem r_min : opBlt .min2 [.int i, .int j] μ Q = Q (.int (if j < i then j else i)) μ := rfl
@[simp] theorem r_cmpI {g : Int → Int → Bool} : cmpI g (.int i) (.int j) = some (g i j) := rfl
@[simp] theorem r_isN : isD x .non = some (match x with | .non => true | _ => false) := rfl
@[simp] theorem r_isB {a b : Bool} : isD (.bl a) (.bl b) = some (decide (a = b)) := rfl
@[simp] theorem r_asL {xs : List D} : asL μ (.lst xs) = some xs := rfl
@[simp] theorem r_asLs {n : Nat} {xs : List D} (h : μ[n]? = some (.lst xs)) : asL μ (.cel n) = some xs := by simp [asL, h]
@[simp] theorem r_asR {xs : List D} : asR μ (.scr xs) = some xs := rfl
@[simp] theorem r_asRl {xs : List D} : asR μ (.lst xs) = some xs := rfl
@[simp] theorem r_asSq {xs : List D} : asSq μ (.tup xs) = some xs := rfl
@[simp] theorem r_asSql {xs : List D} : asSq μ (.lst xs) = some xs := rfl
@[simp] theorem r_asSqs {xs : List D} : asSq μ (.scr xs) = some xs := rfl
@[simp] theorem r_idxT {xs : List D} : opIdx (.tup xs) y μ Q = opIxSq (.tup xs) y μ Q := rfl
@[simp] theorem r_idxL {xs : List D} : opIdx (.lst xs) y μ Q = opIxSq (.lst xs) y μ Q := rfl
@[simp] theorem r_idxS {xs : List D} : opIdx (.scr xs) y μ Q = opIxSq (.scr xs) y μ Q := rfl
@[simp] theorem r_ixT {xs : List D} : opIxSq (.tup xs) (.int i) μ Q = (match atI xs i with | some d => Q d μ | none => False) := rfl
@[simp] theorem r_ixL {xs : List D} : opIxSq (.lst xs) (.int i) μ Q = (match atI xs i with | some d => Q d μ | none => False) := rfl
@[simp] theorem r_ixS {xs : List D} : opIxSq (.scr xs) (.int i) μ Q = (match atI xs i with | some d => Q d μ | none => False) := rfl
theorem at_nat {xs : List D} {n : Nat} (h : n < xs.length) : atI xs (n : Int) = some xs[n] := atI_nat (List.getElem?_eq_getElem h)
@[simp] theorem r_at0 {xs : List D} : atI (x :: xs) 0 = some x := by
  have := at_nat (xs := x :: xs) (n := 0) (by simp)
  simpa using this
@[simp] theorem r_at1 {z : D} {xs : List D} : atI (x :: z :: xs) 1 = some z := by
  have := at_nat (xs := x :: z :: xs) (n := 1) (by simp)
  simpa using this
@[simp] theorem r_at2 {z w : D} {xs : List D} : atI (x :: z :: w :: xs) 2 = some w := by
  have := at_nat (xs := x :: z :: w :: xs) (n := 2) (by simp)
  simpa using this
@[simp] theorem r_at3 {z w v : D} {xs : List D} : atI (x :: z :: w :: v :: xs) 3 = some v := by
  have := at_nat (xs := x :: z :: w :: v :: xs) (n := 3) (by simp)
  simpa using this
@[simp] theorem r_lenT {xs : List D} : lenD μ (.tup xs) = some xs.length := rfl
@[simp] theorem r_lenL {xs : List D} : lenD μ (.lst xs) = some xs.length := rfl
@[simp] theorem r_lenS {xs : List D} : lenD μ (.scr xs) = some xs.length := rfl
@[simp] theorem r_line : (2 ≤ sizeLine) = True := by simp [sizeLine_eq]
theorem line_le {n : Nat} (h : n ≤ 100000) : n ≤ sizeLine := Nat.le_trans h (by decide)
theorem line_lt {n : Nat} (h : n < 100000) : n < sizeLine := Nat.lt_of_lt_of_le h (by decide)
@[simp] theorem r_truB {b : Bool} : truD μ (.bl b) = some b := rfl
@[simp] theorem r_truI : truD μ (.int i) = some (i != 0) := rfl
theorem kits : ∀ a ∈ (["NoneType", "bool", "int", "str", "tuple", "list", "dict"] : List String), ∀ b ∈ (["bool", "int", "str", "tuple", "list", "dict"] : List String), kitB a b = some (a == b || (a == "bool" && b == "int")) := by decide +kernel
@[simp] theorem r_isiI {a : String} : isiD μ x (.ty a) = (match tyD μ x with | some b => kitB b a | none => none) := rfl
@[simp] theorem r_ty0 : tyD μ .non = some "NoneType" := rfl
@[simp] theorem r_ty1 {b : Bool} : tyD μ (.bl b) = some "bool" := rfl
@[simp] theorem r_ty2 : tyD μ (.int i) = some "int" := rfl
@[simp] theorem r_ty3 {s : Str} : tyD μ (.str s) = some "str" := rfl
@[simp] theorem r_ty4 {xs : List D} : tyD μ (.tup xs) = some "tuple" := rfl
@[simp] theorem r_ty5 {xs : List D} : tyD μ (.lst xs) = some "list" := rfl
theorem kit_r {a b : String} {k : Bool} (ha : a ∈ (["NoneType", "bool", "int", "str", "tuple", "list", "dict"] : List String)) (hb : b ∈ (["bool", "int", "str", "tuple", "list", "dict"] : List String)) (h : (a == b || (a == "bool" && b == "int")) = k) : kitB a b = some k := by
  rw [kits a ha b hb, h]
@[simp] theorem k11 : kitB "NoneType" "bool" = some false := kit_r (by decide) (by decide) (by decide)
@[simp] theorem k12 : kitB "NoneType" "int" = some false := kit_r (by decide) (by decide) (by decide)
@[simp] theorem k13 : kitB "NoneType" "str" = some false := kit_r (by decide) (by decide) (by decide)
@[simp] theorem k14 : kitB "NoneType" "tuple" = some false := kit_r (by decide) (by decide) (by decide)
@[simp] theorem k15 : kitB "NoneType" "list" = some false := kit_r (by decide) (by decide) (by decide)
@[simp] theorem k21 : kitB "bool" "bool" = some true := kit_r (by decide) (by decide) (by decide)
@[simp] theorem k22 : kitB "bool" "int" = some true := kit_r (by decide) (by decide) (by decide)
@[simp] theorem k23 : kitB "bool" "str" = some false := kit_r (by decide) (by decide) (by decide)
@[simp] theorem k24 : kitB "bool" "tuple" = some false := kit_r (by decide) (by decide) (by decide)
@[simp] theorem k25 : kitB "bool" "list" = some false := kit_r (by decide) (by decide) (by decide)
@[simp] theorem k31 : kitB "int" "bool" = some false := kit_r (by decide) (by decide) (by decide)
@[simp] theorem k32 : kitB "int" "int" = some true := kit_r (by decide) (by decide) (by decide)
@[simp] theorem k33 : kitB "int" "str" = some false := kit_r (by decide) (by decide) (by decide)
@[simp] theorem k34 : kitB "int" "tuple" = some false := kit_r (by decide) (by decide) (by decide)
@[simp] theorem k35 : kitB "int" "list" = some false := kit_r (by decide) (by decide) (by decide)
@[simp] theorem k41 : kitB "str" "bool" = some false := kit_r (by decide) (by decide) (by decide)
@[simp] theorem k42 : kitB "str" "int" = some false := kit_r (by decide) (by decide) (by decide)
@[simp] theorem k43 : kitB "str" "str" = some true := kit_r (by decide) (by decide) (by decide)
@[simp] theorem k44 : kitB "str" "tuple" = some false := kit_r (by decide) (by decide) (by decide)
@[simp] theorem k45 : kitB "str" "list" = some false := kit_r (by decide) (by decide) (by decide)
@[simp] theorem k51 : kitB "tuple" "bool" = some false := kit_r (by decide) (by decide) (by decide)
@[simp] theorem k52 : kitB "tuple" "int" = some false := kit_r (by decide) (by decide) (by decide)
@[simp] theorem k53 : kitB "tuple" "str" = some false := kit_r (by decide) (by decide) (by decide)
@[simp] theorem k54 : kitB "tuple" "tuple" = some true := kit_r (by decide) (by decide) (by decide)
@[simp] theorem k55 : kitB "tuple" "list" = some false := kit_r (by decide) (by decide) (by decide)
@[simp] theorem k61 : kitB "list" "bool" = some false := kit_r (by decide) (by decide) (by decide)
@[simp] theorem k62 : kitB "list" "int" = some false := kit_r (by decide) (by decide) (by decide)
@[simp] theorem k63 : kitB "list" "str" = some false := kit_r (by decide) (by decide) (by decide)
@[simp] theorem k64 : kitB "list" "tuple" = some false := kit_r (by decide) (by decide) (by decide)
@[simp] theorem k65 : kitB "list" "list" = some true := kit_r (by decide) (by decide) (by decide)
/-- a value leaves as it is -/
theorem rt_here {μ0 : M} (h : Q d μ) : rtD μ0 Q d μ := .inl h
end
end Rf

set_option Elab.async false
set_option linter.all false
set_option maxRecDepth 100000
/-! Rf13: more rows for simp: ==, dictionaries, comprehensions -/
namespace Rf
open PySem L2
section
variable {Γ : Tab} {ρ : Rho} {μ : M} {Q : WQ} {i j : Int} {x y d : D}
theorem shaped_i : SeqAt.shaped (.int i) = true := by simp [SeqAt.shaped, PyData.canLay0, PyData.depth]
theorem shaped_b {b : Bool} : SeqAt.shaped (.bool b) = true := by simp [SeqAt.shaped, PyData.canLay0, PyData.depth]
@[simp] theorem q_ii : eqD μ (.int i) (.int j) = some (decide (i = j)) := by
  simp only [eqD, toPm, toP, shaped_i, Bool.and_self, if_true, PyData.eqv]
  by_cases h : i = j <;> simp [h]
@[simp] theorem q_bb {a b : Bool} : eqD μ (.bl a) (.bl b) = some (a == b) := by
  simp only [eqD, toPm, toP, shaped_b, Bool.and_self, if_true, PyData.eqv]
@[simp] theorem q_ss {a b : Str} : eqD μ (.str a) (.str b) = if PyData.strOk a && PyData.strOk b then some (a == b) else none := by
  simp only [eqD, toPm, toP, SeqAt.shaped, PyData.canLay0, PyData.depth, PyData.eqv]
  simp
theorem q_t2 {a b c e : Int} : eqD μ (.tup [.int a, .int b]) (.tup [.int c, .int e]) = some (decide (a = c ∧ b = e)) := by
  have h : ∀ p q : Int, SeqAt.shaped (.tuple [.int p, .int q]) = true := fun p q => by simp [SeqAt.shaped, PyData.canLay0, PyData.canLayAll0, PyData.depth, PyData.depthAll]
  simp only [eqD, toPm, toP, toPs, Option.map_some, h, Bool.and_self, if_true, PyData.eqv, PyData.eqvAll, Bool.and_true]
  by_cases h1 : a = c <;> by_cases h2 : b = e <;> simp [h1, h2]
@[simp] theorem r_dct {n : Nat} {kvs : List (Key × D)} {k : Str} (h : μ[n]? = some (.dK kvs)) : opIdx (.cel n) (.str k) μ Q = (match dget kvs (.inr k) with | some d => Q d μ | none => False) := by
  simp only [opIdx, h, keyD] <;> (cases dget kvs (.inr k) <;> rfl)
theorem r_put {n : Nat} {kvs : List (Key × D)} {k : Str} {P : M → Prop} (h : μ[n]? = some (.dK kvs)) : opPut (.cel n) (.str k) d μ P = (kvs.length < sizeLine ∧ P (μ.set n (.dK (dput kvs (.inr k) d)))) := by
  simp only [opPut, h, keyD]
theorem wS1 {s : CS} {r : CSs} {E : DEnds} : wSs Γ (.cons s r) E ρ μ = wS Γ s { E with nx := fun ρ1 μ1 => wSs Γ r E ρ1 μ1 } ρ μ := rfl
@[simp] theorem wS0 {E : DEnds} : wSs Γ .nil E ρ μ = E.nx ρ μ := rfl
theorem set_val {e : CE} {n : Nat} {E : DEnds} (d : D) (h1 : ∀ P : WQ, P d μ → wE Γ e ρ μ P) (h2 : E.nx (ρ.set n (some d)) μ) : wS Γ (.set n e) E ρ μ := h1 _ h2
/-- a comprehension that leaves the state alone -/
theorem lc_pure {tg : CT} {elt : WE} {own : List Nat} {s : Src} (hs : s.ok μ) (hl : s.items.length ≤ sizeLine) (f : D → D)
    (h : ∀ (i : Nat) x, s.items[i]? = some x → ∃ ρ2, bindT μ tg x (wipeD ρ own) = some ρ2 ∧ ∀ P : WQ, P (f x) μ → elt ρ2 μ P)
    (hq : newL (s.items.map f) μ Q) : wLc tg (wF Γ .nil) elt own s ρ μ Q := by
  refine ⟨fun i acc μ' => acc = (s.items.take i).map f ∧ μ' = μ, ⟨by simp, rfl⟩, fun i acc μ' h _ => h.2 ▸ hs, ?_, ?_⟩
  · rintro i x acc μ' hx ⟨rfl, rfl⟩
    have hi : i < s.items.length := (List.getElem?_eq_some_iff.mp hx).1
    obtain ⟨ρ2, hb, hh⟩ := h i x hx
    refine ⟨ρ2, hb, ?_⟩
    simp only [wF, if_true]
    refine hh _ ⟨by simp; omega, ?_, rfl⟩
    rw [List.take_add_one, hx]
    simp
  · rintro acc μ' ⟨rfl, rfl⟩
    simpa using hq
/-- a comprehension that picks and leaves the state alone -/
theorem lc_pick {tg : CT} {ifs : WT} {elt : WE} {own : List Nat} {s : Src} (hs : s.ok μ) (hl : s.items.length ≤ sizeLine) (g : D → Bool) (f : D → D)
    (h : ∀ (i : Nat) x, s.items[i]? = some x → ∃ ρ2, bindT μ tg x (wipeD ρ own) = some ρ2 ∧ (∀ P : Bool → M → Prop, P (g x) μ → ifs ρ2 μ P) ∧ (g x = true → ∀ P : WQ, P (f x) μ → elt ρ2 μ P))
    (hq : newL ((s.items.filter g).map f) μ Q) : wLc tg ifs elt own s ρ μ Q := by
  refine ⟨fun i acc μ' => acc = ((s.items.take i).filter g).map f ∧ μ' = μ, ⟨by simp, rfl⟩, fun i acc μ' h _ => h.2 ▸ hs, ?_, ?_⟩
  · rintro i x acc μ' hx ⟨rfl, rfl⟩
    have hi : i < s.items.length := (List.getElem?_eq_some_iff.mp hx).1
    obtain ⟨ρ2, hb, h1, h2⟩ := h i x hx
    refine ⟨ρ2, hb, h1 _ ?_⟩
    have e : s.items.take (i + 1) = s.items.take i ++ [x] := by rw [List.take_add_one, hx]; rfl
    by_cases hg : g x = true
    · rw [if_pos hg]
      refine h2 hg _ ⟨?_, ?_, rfl⟩
      · have := List.length_filter_le g (s.items.take i)
        simp at this ⊢
        omega
      · rw [e, List.filter_append, List.map_append]
        simp [hg]
    · rw [if_neg hg]
      refine ⟨?_, rfl⟩
      rw [e, List.filter_append, List.map_append]
      simp [hg]
  · rintro acc μ' ⟨rfl, rfl⟩
    simpa using hq
theorem r_rangeD {lo : Int} {n i : Nat} {x : D} (h : (rangeD lo n)[i]? = some x) : i < n ∧ x = .int (lo + i) := by
  simp only [rangeD, List.getElem?_map, Option.map_eq_some_iff] at h
  obtain ⟨a, ha, rfl⟩ := h
  have := List.getElem?_eq_some_iff.mp ha
  obtain ⟨h1, h2⟩ := this
  simp at h1 h2
  exact ⟨h1, by rw [h2]⟩
@[simp] theorem r_rangeL {lo : Int} {n : Nat} : (rangeD lo n).length = n := by simp [rangeD]
theorem new_l {xs : List D} (hl : xs.length ≤ sizeLine) (h : Q (.lst xs) μ) : newL xs μ Q := ⟨hl, .inl h⟩
theorem new_c {xs : List D} (hl : xs.length ≤ sizeLine) (h : Q (.cel μ.length) (μ ++ [.lst xs])) : newL xs μ Q := ⟨hl, .inr h⟩
end
end Rf

set_option Elab.async false
set_option linter.all false
set_option maxRecDepth 100000
/-! the urn of the laws -/
namespace Rf
open PySem L2
def Uo (cs : List Int) (at_ deep mix turn : Int) : List (Key × D) :=
  [(.inr "cells", .lst (cs.map .int)), (.inr "at", .int at_), (.inr "deep", .int deep), (.inr "mix", .int mix), (.inr "turn", .int turn)]
section
variable {cs : List Int} {a e m t : Int} {v : Int}
theorem uk : decide (("cells" : Str) = "at") = false ∧ decide (("cells" : Str) = "deep") = false ∧ decide (("cells" : Str) = "mix") = false ∧ decide (("cells" : Str) = "turn") = false ∧
  decide (("at" : Str) = "deep") = false ∧ decide (("at" : Str) = "mix") = false ∧ decide (("at" : Str) = "turn") = false ∧
  decide (("deep" : Str) = "mix") = false ∧ decide (("deep" : Str) = "turn") = false ∧ decide (("mix" : Str) = "turn") = false := by decide +kernel
@[simp] theorem ug1 : dget (Uo cs a e m t) (.inr "cells") = some (.lst (cs.map .int)) := rfl
@[simp] theorem ug2 : dget (Uo cs a e m t) (.inr "at") = some (.int a) := rfl
@[simp] theorem ug3 : dget (Uo cs a e m t) (.inr "deep") = some (.int e) := rfl
@[simp] theorem ug4 : dget (Uo cs a e m t) (.inr "mix") = some (.int m) := rfl
@[simp] theorem ug5 : dget (Uo cs a e m t) (.inr "turn") = some (.int t) := rfl
@[simp] theorem up2 : dput (Uo cs a e m t) (.inr "at") (.int v) = Uo cs v e m t := rfl
@[simp] theorem up3 : dput (Uo cs a e m t) (.inr "deep") (.int v) = Uo cs a v m t := rfl
@[simp] theorem up4 : dput (Uo cs a e m t) (.inr "mix") (.int v) = Uo cs a e v t := rfl
@[simp] theorem up5 : dput (Uo cs a e m t) (.inr "turn") (.int v) = Uo cs a e m v := rfl

@[simp] theorem r_dctU {Q : WQ} {k : Str} : opIdx (.cel 0) (.str k) [.dK (Uo cs a e m t)] Q = (match dget (Uo cs a e m t) (.inr k) with | some d => Q d [.dK (Uo cs a e m t)] | none => False) := r_dct rfl
@[simp] theorem r_dctUC {Q : WQ} {k : Str} : opIdxC (.cel 0) (.str k) [.dK (Uo cs a e m t)] Q = (match dget (Uo cs a e m t) (.inr k) with | some d => Q d [.dK (Uo cs a e m t)] | none => False) := r_dct (n := 0) (μ := [.dK (Uo cs a e m t)]) (kvs := Uo cs a e m t) rfl
@[simp] theorem r_putU {d : D} {P : M → Prop} {k : Str} : opPut (.cel 0) (.str k) d [.dK (Uo cs a e m t)] P = P [.dK (dput (Uo cs a e m t) (.inr k) d)] := by
  rw [r_put rfl]
  have : (Uo cs a e m t).length < sizeLine := line_lt (by simp [Uo])
  simp [this]
def UrnOk (μ : M) : Prop := ∃ cs a e m t, μ = [.dK (Uo cs a e m t)] ∧ 0 ≤ a ∧ 0 ≤ e ∧ 0 ≤ m ∧ m < 4294967291
def ir_urn : CSs :=
  (.cons (.ret (.dct (.cons (.cst (.str "cells")) (.blt .list (.cons (.var 0) .nil)) (.cons (.cst (.str "at")) (.cst (.int 0)) (.cons (.cst (.str "deep")) (.cst (.int 0)) (.cons (.cst (.str "mix")) (.cst (.int 41)) (.cons (.cst (.str "turn")) (.cst (.int 0)) .nil)))))))
  .nil)
def ir_pickT : CSs :=
  (.cons (.iff (.cmp .Gt (.idx (.var 0) (.cst (.str "deep"))) (.cst (.int 0)))
    (.cons (.set 3 (.bin .Mod (.blt .int (.cons (.idx (.var 0) (.cst (.str "deep"))) .nil)) (.var 1)))
    (.cons (.put (.var 0) (.cst (.str "deep")) (.bin .FloorDiv (.idx (.var 0) (.cst (.str "deep"))) (.var 1)))
    (.cons (.ret (.var 3))
    .nil)))
    .nil)
  (.cons (.augI (.var 0) (.cst (.str "turn")) .Add (.cst (.int 1)))
  (.cons (.put (.var 0) (.cst (.str "mix")) (.bin .Mod (.blt .int (.cons (.bin .Add (.bin .Mult (.idx (.var 0) (.cst (.str "mix"))) (.cst (.int 279470273))) (.bin .Mult (.cst (.int 15485863)) (.idx (.var 0) (.cst (.str "turn"))))) .nil)) (.cst (.int 4294967291))))
  (.cons (.set 4 (.bin .Mod (.blt .int (.cons (.bin .Add (.bin .FloorDiv (.bin .Mult (.idx (.var 0) (.cst (.str "mix"))) (.idx (.var 0) (.cst (.str "mix")))) (.cst (.int 1013))) (.idx (.var 0) (.cst (.str "mix")))) .nil)) (.cst (.int 2147483629))))
  (.cons (.ret (.bin .Mod (.blt .int (.cons (.bin .FloorDiv (.var 4) (.cst (.int 7))) .nil)) (.var 1)))
  .nil)))))
def ir_pick : CSs :=
  (.cons (.iff (.and (.cmp .Eq (.idx (.var 0) (.cst (.str "deep"))) (.cst (.int 0))) (.cmp .Lt (.idx (.var 0) (.cst (.str "at"))) (.blt .len (.cons (.idx (.var 0) (.cst (.str "cells"))) .nil))))
    (.cons (.set 2 (.idx (.idx (.var 0) (.cst (.str "cells"))) (.idx (.var 0) (.cst (.str "at")))))
    (.cons (.augI (.var 0) (.cst (.str "at")) .Add (.cst (.int 1)))
    (.cons (.iff (.cmp .GtE (.var 2) (.bin .Pow (.cst (.int 10)) (.cst (.int 18))))
      (.cons (.put (.var 0) (.cst (.str "deep")) (.bin .Sub (.var 2) (.bin .Pow (.cst (.int 10)) (.cst (.int 18)))))
      .nil)
      (.cons (.put (.var 0) (.cst (.str "mix")) (.bin .Mod (.blt .int (.cons (.bin .Add (.bin .Add (.bin .Mult (.idx (.var 0) (.cst (.str "mix"))) (.cst (.int 37))) (.bin .Mult (.var 2) (.cst (.int 11)))) (.cst (.int 3))) .nil)) (.cst (.int 4294967291))))
      .nil))
    .nil)))
    .nil)
  ir_pickT)
theorem b_urn {Γ : Tab} {ns : List Int} {Q : WQ} (h : ns.length ≤ sizeLine) (hq : ∀ μ, UrnOk μ → Q (.cel 0) μ) : wDef Γ 1 ir_urn [.scr (ns.map .int)] [] Q := by
  simp [wDef, ir_urn, wSs, wS, wE, wEs, wT, wPr, startD, keyD]
  refine ⟨by simpa using h, .inl (rt_here (hq _ ⟨ns, 0, 0, 41, 0, rfl, by decide, by decide, by decide, by decide⟩))⟩
theorem bit (b : Bool) (P Q : Prop) : (if b = true then P else Q) = ((b = true → P) ∧ (b = false → Q)) := by cases b <;> simp
theorem b_pickT {Γ : Tab} {many : Int} {Q : WQ} {E : DEnds} {o : Option D} (hE : E.rt = Q) (h0 : 0 < many) (h1 : many < 2 ^ 60) (ha : 0 ≤ a) (he : 0 ≤ e) (hm : 0 ≤ m) (hm2 : m < 4294967291) (hq : ∀ r μ', UrnOk μ' → 0 ≤ r → r < many → Q (.int r) μ') :
    wSs Γ ir_pickT E [some (.cel 0), some (.int many), o, none, none] [.dK (Uo cs a e m t)] := by
  subst hE
  have hd : ∀ i : Int, CDivW i many := fun i => ⟨h0, by
    have : many.natAbs < 2 ^ 60 := by omega
    exact Nat.lt_of_lt_of_le (Nat.log2_lt (by omega) |>.mpr this) (by decide)⟩
  simp [ir_pickT, wSs, wS, wE, wEs, wT, ofE, wCmp, opCmp, h0, hd]
  split
  · exact hq _ _ ⟨_, _, _, _, _, rfl, ha, Int.ediv_nonneg (by omega) (by omega), hm, hm2⟩ (Int.emod_nonneg _ (by omega)) (Int.emod_lt_of_pos _ h0)
  · refine ⟨.inl (.inr (by decide)), .inl (.inl (by decide)), ?_, ⟨by decide, by decide⟩, ⟨by decide, by decide⟩, hq _ _ ⟨_, _, _, _, _, rfl, ha, he, Int.emod_nonneg _ (by decide), Int.emod_lt_of_pos _ (by decide)⟩ (Int.emod_nonneg _ (by omega)) (Int.emod_lt_of_pos _ h0)⟩
    have := Int.emod_nonneg (m * 279470273 + 15485863 * (t + 1)) (b := 4294967291) (by decide)
    have := Int.emod_lt_of_pos (m * 279470273 + 15485863 * (t + 1)) (b := 4294967291) (by decide)
    exact .inl (.inl ⟨by omega, by omega⟩)
theorem b_pick {Γ : Tab} {many : Int} {μ : M} {Q : WQ} (hu : UrnOk μ) (h0 : 0 < many) (h1 : many < 2 ^ 60) (hq : ∀ r μ', UrnOk μ' → 0 ≤ r → r < many → Q (.int r) μ') :
    wDef Γ 5 ir_pick [.cel 0, .int many] μ Q := by
  obtain ⟨cs, a, e, m, t, rfl, ha, he, hm, hm2⟩ := hu
  have T := fun (o : Option D) (a' e' m' t' : Int) ha he hm hm2 => b_pickT (cs := cs) (a := a') (e := e') (m := m') (t := t') (Γ := Γ) (many := many) (Q := rtD [.dK (Uo cs a e m t)] Q) (E := { nx := fun _ μ' => rtD [.dK (Uo cs a e m t)] Q .non μ', rt := rtD [.dK (Uo cs a e m t)] Q }) (o := o) rfl h0 h1 ha he hm hm2 fun r μ' x y z => rt_here (hq r μ' x y z)
  simp [wDef, ir_pick, wSs, wS, wE, wEs, wT, startD, ofE, wCmp, opCmp]
  split
  · split
    · rename_i h5 h6
      have hn : ∃ n : Nat, a = n := ⟨a.toNat, by omega⟩
      obtain ⟨n, rfl⟩ := hn
      have hl : n < (cs.map D.int).length := by simp; omega
      rw [at_nat hl]
      simp
      have p10 : CPow 10 18 := ⟨by decide, by decide, by decide⟩
      refine ⟨p10, ?_⟩
      split
      · exact ⟨p10, T _ _ _ _ _ (by omega) (by omega) hm hm2⟩
      · exact ⟨.inl (.inr (by decide)), .inl (.inr (by decide)), T _ _ _ _ _ (by omega) he (Int.emod_nonneg _ (by decide)) (Int.emod_lt_of_pos _ (by decide))⟩
    · exact T _ _ _ _ _ ha he hm hm2
  · exact T _ _ _ _ _ ha he hm hm2
end
end Rf

set_option Elab.async false
set_option linter.all false
set_option maxRecDepth 100000
namespace K00
open PySem L2 Rf
def topS (i : Nat) : Stmt := PySem.Challenge.pw_wholelines_k00_fractions.main.body.getD i (.Pass ⟨0, 0, 0, 0⟩)
def ir_is_integer : CSs :=
  (.cons (.ret (.and (.blt .isi (.cons (.var 0) (.cons (.typ "int") .nil))) (.not (.blt .isi (.cons (.var 0) (.cons (.typ "bool") .nil))))))
  .nil)
def d_is_integer : DefI := ⟨"is_integer", topS 6, ["value"], ["value"], ir_is_integer⟩
def ir_made : CSs :=
  (.cons (.set 2 (.blt .gcd (.cons (.var 0) (.cons (.var 1) .nil))))
  (.cons (.ret (.tup (.cons (.bin .FloorDiv (.var 0) (.var 2)) (.cons (.bin .FloorDiv (.var 1) (.var 2)) .nil))))
  .nil))
def d_made : DefI := ⟨"made", topS 8, ["top", "bottom"], ["top", "bottom", "common"], ir_made⟩
def ir_plus : CSs :=
  (.cons (.ret (.cal 1 (.cons (.bin .Add (.bin .Mult (.idx (.var 0) (.cst (.int 0))) (.idx (.var 1) (.cst (.int 1)))) (.bin .Mult (.idx (.var 1) (.cst (.int 0))) (.idx (.var 0) (.cst (.int 1))))) (.cons (.bin .Mult (.idx (.var 0) (.cst (.int 1))) (.idx (.var 1) (.cst (.int 1)))) .nil))))
  .nil)
def d_plus : DefI := ⟨"plus", topS 9, ["x", "y"], ["x", "y"], ir_plus⟩
def ir_scaled : CSs :=
  (.cons (.ret (.cal 1 (.cons (.bin .Mult (.idx (.var 0) (.cst (.int 0))) (.idx (.var 1) (.cst (.int 0)))) (.cons (.bin .Mult (.idx (.var 0) (.cst (.int 1))) (.idx (.var 1) (.cst (.int 1)))) .nil))))
  .nil)
def d_scaled : DefI := ⟨"scaled", topS 10, ["x", "y"], ["x", "y"], ir_scaled⟩
def ir_is_less : CSs :=
  (.cons (.ret (.cmp .Lt (.bin .Mult (.idx (.var 0) (.cst (.int 0))) (.idx (.var 1) (.cst (.int 1)))) (.bin .Mult (.idx (.var 1) (.cst (.int 0))) (.idx (.var 0) (.cst (.int 1))))))
  .nil)
def d_is_less : DefI := ⟨"is_less", topS 11, ["x", "y"], ["x", "y"], ir_is_less⟩
def ir_whole_of : CSs :=
  (.cons (.ret (.bin .FloorDiv (.idx (.var 0) (.cst (.int 0))) (.idx (.var 0) (.cst (.int 1)))))
  .nil)
def d_whole_of : DefI := ⟨"whole_of", topS 12, ["x"], ["x"], ir_whole_of⟩
def ir_is_fraction : CSs :=
  (.cons (.iff (.or (.not (.blt .isi (.cons (.var 0) (.cons (.typ "tuple") .nil)))) (.cmp .NotEq (.blt .len (.cons (.var 0) .nil)) (.cst (.int 2))))
    (.cons (.ret (.cst (.bl false)))
    .nil)
    .nil)
  (.cons (.unp [1, 2] (.var 0))
  (.cons (.ret (.and (.cal 0 (.cons (.var 1) .nil)) (.and (.cal 0 (.cons (.var 2) .nil)) (.and (.cmp .GtE (.var 2) (.cst (.int 1))) (.cmp .Eq (.blt .gcd (.cons (.var 1) (.cons (.var 2) .nil))) (.cst (.int 1)))))))
  .nil)))
def d_is_fraction : DefI := ⟨"is_fraction", topS 13, ["value"], ["value", "top", "bottom"], ir_is_fraction⟩
def ir_check_fraction : CSs :=
  (.cons (.iff (.not (.cal 6 (.cons (.var 0) .nil)))
    (.cons .dead
    .nil)
    .nil)
  .nil)
def d_check_fraction : DefI := ⟨"check_fraction", topS 14, ["value"], ["value"], ir_check_fraction⟩
def ir_fraction_of : CSs :=
  (.cons (.iff (.not (.cal 0 (.cons (.var 0) .nil)))
    (.cons .dead
    .nil)
    .nil)
  (.cons (.iff (.or (.not (.cal 0 (.cons (.var 1) .nil))) (.cmp .Eq (.var 1) (.cst (.int 0))))
    (.cons .dead
    .nil)
    .nil)
  (.cons (.iff (.cmp .Lt (.var 1) (.cst (.int 0)))
    (.cons (.ret (.cal 1 (.cons (.neg (.var 0)) (.cons (.neg (.var 1)) .nil))))
    .nil)
    .nil)
  (.cons (.ret (.cal 1 (.cons (.var 0) (.cons (.var 1) .nil))))
  .nil))))
def d_fraction_of : DefI := ⟨"fraction_of", topS 15, ["top", "bottom"], ["top", "bottom"], ir_fraction_of⟩
def ir_add : CSs :=
  (.cons (.drop (.cal 7 (.cons (.var 0) .nil)))
  (.cons (.drop (.cal 7 (.cons (.var 1) .nil)))
  (.cons (.ret (.cal 2 (.cons (.var 0) (.cons (.var 1) .nil))))
  .nil)))
def d_add : DefI := ⟨"add", topS 16, ["one", "other"], ["one", "other"], ir_add⟩
def ir_multiply : CSs :=
  (.cons (.drop (.cal 7 (.cons (.var 0) .nil)))
  (.cons (.drop (.cal 7 (.cons (.var 1) .nil)))
  (.cons (.ret (.cal 3 (.cons (.var 0) (.cons (.var 1) .nil))))
  .nil)))
def d_multiply : DefI := ⟨"multiply", topS 17, ["one", "other"], ["one", "other"], ir_multiply⟩
def ir_compare : CSs :=
  (.cons (.drop (.cal 7 (.cons (.var 0) .nil)))
  (.cons (.drop (.cal 7 (.cons (.var 1) .nil)))
  (.cons (.iff (.cmp .Eq (.var 0) (.var 1))
    (.cons (.ret (.cst (.int 0)))
    .nil)
    .nil)
  (.cons (.ret (.ife (.cal 4 (.cons (.var 0) (.cons (.var 1) .nil))) (.neg (.cst (.int 1))) (.cst (.int 1))))
  .nil))))
def d_compare : DefI := ⟨"compare", topS 18, ["one", "other"], ["one", "other"], ir_compare⟩
def ir_floor_of : CSs :=
  (.cons (.drop (.cal 7 (.cons (.var 0) .nil)))
  (.cons (.ret (.cal 5 (.cons (.var 0) .nil)))
  .nil))
def d_floor_of : DefI := ⟨"floor_of", topS 19, ["x"], ["x"], ir_floor_of⟩
def ir__law_urn : CSs :=
  (.cons (.ret (.dct (.cons (.cst (.str "cells")) (.blt .list (.cons (.var 0) .nil)) (.cons (.cst (.str "at")) (.cst (.int 0)) (.cons (.cst (.str "deep")) (.cst (.int 0)) (.cons (.cst (.str "mix")) (.cst (.int 41)) (.cons (.cst (.str "turn")) (.cst (.int 0)) .nil)))))))
  .nil)
def d__law_urn : DefI := ⟨"_law_urn", topS 21, ["script"], ["script"], ir__law_urn⟩
def ir__law_pick : CSs :=
  (.cons (.iff (.and (.cmp .Eq (.idx (.var 0) (.cst (.str "deep"))) (.cst (.int 0))) (.cmp .Lt (.idx (.var 0) (.cst (.str "at"))) (.blt .len (.cons (.idx (.var 0) (.cst (.str "cells"))) .nil))))
    (.cons (.set 2 (.idx (.idx (.var 0) (.cst (.str "cells"))) (.idx (.var 0) (.cst (.str "at")))))
    (.cons (.augI (.var 0) (.cst (.str "at")) .Add (.cst (.int 1)))
    (.cons (.iff (.cmp .GtE (.var 2) (.bin .Pow (.cst (.int 10)) (.cst (.int 18))))
      (.cons (.put (.var 0) (.cst (.str "deep")) (.bin .Sub (.var 2) (.bin .Pow (.cst (.int 10)) (.cst (.int 18)))))
      .nil)
      (.cons (.put (.var 0) (.cst (.str "mix")) (.bin .Mod (.blt .int (.cons (.bin .Add (.bin .Add (.bin .Mult (.idx (.var 0) (.cst (.str "mix"))) (.cst (.int 37))) (.bin .Mult (.var 2) (.cst (.int 11)))) (.cst (.int 3))) .nil)) (.cst (.int 4294967291))))
      .nil))
    .nil)))
    .nil)
  (.cons (.iff (.cmp .Gt (.idx (.var 0) (.cst (.str "deep"))) (.cst (.int 0)))
    (.cons (.set 3 (.bin .Mod (.blt .int (.cons (.idx (.var 0) (.cst (.str "deep"))) .nil)) (.var 1)))
    (.cons (.put (.var 0) (.cst (.str "deep")) (.bin .FloorDiv (.idx (.var 0) (.cst (.str "deep"))) (.var 1)))
    (.cons (.ret (.var 3))
    .nil)))
    .nil)
  (.cons (.augI (.var 0) (.cst (.str "turn")) .Add (.cst (.int 1)))
  (.cons (.put (.var 0) (.cst (.str "mix")) (.bin .Mod (.blt .int (.cons (.bin .Add (.bin .Mult (.idx (.var 0) (.cst (.str "mix"))) (.cst (.int 279470273))) (.bin .Mult (.cst (.int 15485863)) (.idx (.var 0) (.cst (.str "turn"))))) .nil)) (.cst (.int 4294967291))))
  (.cons (.set 4 (.bin .Mod (.blt .int (.cons (.bin .Add (.bin .FloorDiv (.bin .Mult (.idx (.var 0) (.cst (.str "mix"))) (.idx (.var 0) (.cst (.str "mix")))) (.cst (.int 1013))) (.idx (.var 0) (.cst (.str "mix")))) .nil)) (.cst (.int 2147483629))))
  (.cons (.ret (.bin .Mod (.blt .int (.cons (.bin .FloorDiv (.var 4) (.cst (.int 7))) .nil)) (.var 1)))
  .nil))))))
def d__law_pick : DefI := ⟨"_law_pick", topS 22, ["urn", "many"], ["urn", "many", "cell", "found", "mixed"], ir__law_pick⟩
def ir__law_same : CSs :=
  (.cons (.iff (.or (.cmp .Is (.var 1) (.cst .non)) (.blt .isi (.cons (.var 1) (.cons (.typ "bool") .nil))))
    (.cons (.ret (.ife (.cmp .Is (.var 1) (.cst .non)) (.cmp .Is (.var 0) (.cst .non)) (.and (.blt .isi (.cons (.var 0) (.cons (.typ "bool") .nil))) (.cmp .Eq (.var 0) (.var 1)))))
    .nil)
    .nil)
  (.cons (.iff (.blt .isi (.cons (.var 1) (.cons (.typ "int") .nil)))
    (.cons (.ret (.and (.blt .isi (.cons (.var 0) (.cons (.typ "int") .nil))) (.and (.not (.blt .isi (.cons (.var 0) (.cons (.typ "bool") .nil)))) (.cmp .Eq (.var 0) (.var 1)))))
    .nil)
    .nil)
  (.cons (.iff (.blt .isi (.cons (.var 1) (.cons (.typ "str") .nil)))
    (.cons (.ret (.and (.blt .isi (.cons (.var 0) (.cons (.typ "str") .nil))) (.cmp .Eq (.var 0) (.var 1))))
    .nil)
    .nil)
  (.cons (.iff (.or (.cmp .NotEq (.blt .isi (.cons (.var 0) (.cons (.typ "tuple") .nil))) (.blt .isi (.cons (.var 1) (.cons (.typ "tuple") .nil)))) (.cmp .NotEq (.blt .isi (.cons (.var 0) (.cons (.typ "list") .nil))) (.blt .isi (.cons (.var 1) (.cons (.typ "list") .nil)))))
    (.cons (.ret (.cst (.bl false)))
    .nil)
    .nil)
  (.cons (.ret (.and (.cmp .Eq (.blt .len (.cons (.var 0) .nil)) (.blt .len (.cons (.var 1) .nil))) (.blt .all (.cons (.lc (.nm 2) (.r1 (.blt .len (.cons (.var 1) .nil))) .nil (.cal 15 (.cons (.idx (.var 0) (.var 2)) (.cons (.idx (.var 1) (.var 2)) .nil))) [2]) .nil))))
  .nil)))))
def d__law_same : DefI := ⟨"_law_same", topS 23, ["told", "due"], ["told", "due", "at"], ir__law_same⟩
def ir__law_lowest : CSs :=
  (.cons (.par 2 3 (.blt .abs (.cons (.var 0) .nil)) (.blt .abs (.cons (.var 1) .nil)))
  (.cons (.for (.nm 4) (.r1 (.cst (.int 400)))
    (.cons (.iff (.cmp .Eq (.var 3) (.cst (.int 0)))
      (.cons .brk
      .nil)
      .nil)
    (.cons (.par 2 3 (.var 3) (.bin .Mod (.blt .int (.cons (.var 2) .nil)) (.var 3)))
    .nil)))
  (.cons (.set 5 (.ife (.cmp .Lt (.var 1) (.cst (.int 0))) (.neg (.cst (.int 1))) (.cst (.int 1))))
  (.cons (.ret (.tup (.cons (.bin .FloorDiv (.bin .Mult (.var 5) (.var 0)) (.var 2)) (.cons (.bin .FloorDiv (.bin .Mult (.var 5) (.var 1)) (.var 2)) .nil))))
  .nil))))
def d__law_lowest : DefI := ⟨"_law_lowest", topS 24, ["top", "bottom"], ["top", "bottom", "one", "other", "turn", "sign"], ir__law_lowest⟩
def ir__law_integer : CSs :=
  (.cons (.set 1 (.idx (.lst (.cons (.cst (.int 4)) (.cons (.cst (.int 100)) (.cons (.cst (.int 1000)) (.cons (.bin .Pow (.cst (.int 10)) (.cst (.int 15))) .nil))))) (.cal 14 (.cons (.var 0) (.cons (.cst (.int 4)) .nil)))))
  (.cons (.ret (.bin .Sub (.cal 14 (.cons (.var 0) (.cons (.bin .Add (.bin .Mult (.cst (.int 2)) (.var 1)) (.cst (.int 1))) .nil))) (.var 1)))
  .nil))
def d__law_integer : DefI := ⟨"_law_integer", topS 25, ["urn"], ["urn", "size"], ir__law_integer⟩
def ir__law_two : CSs :=
  (.cons (.unp [1, 2, 3, 4] (.lc (.nm 6) (.r1 (.cst (.int 4))) .nil (.cal 17 (.cons (.var 0) .nil)) [6]))
  (.cons (.par 2 4 (.ife (.cmp .NotEq (.var 2) (.cst (.int 0))) (.var 2) (.cst (.int 1))) (.ife (.cmp .NotEq (.var 4) (.cst (.int 0))) (.var 4) (.neg (.cst (.int 3)))))
  (.cons (.set 5 (.cal 14 (.cons (.var 0) (.cons (.cst (.int 5)) .nil))))
  (.cons (.iff (.cmp .Eq (.var 5) (.cst (.int 0)))
    (.cons (.par 3 4 (.bin .Mult (.var 1) (.cst (.int 6))) (.bin .Mult (.var 2) (.cst (.int 6))))
    .nil)
    (.cons (.iff (.cmp .Eq (.var 5) (.cst (.int 1)))
      (.cons (.par 3 4 (.bin .Add (.var 1) (.cst (.int 1))) (.var 2))
      .nil)
      .nil)
    .nil))
  (.cons (.ret (.tup (.cons (.var 1) (.cons (.var 2) (.cons (.var 3) (.cons (.var 4) .nil))))))
  .nil)))))
def d__law_two : DefI := ⟨"_law_two", topS 26, ["urn"], ["urn", "a", "b", "c", "d", "way", "turn"], ir__law_two⟩
def ir_law : CSs :=
  (.cons (.set 1 (.cal 13 (.cons (.var 0) .nil)))
  (.cons (.for (.nm 2) (.r1 (.cst (.int 12)))
    (.cons (.unp [3, 4, 5, 6] (.cal 18 (.cons (.var 1) .nil)))
    (.cons (.par 7 8 (.cal 16 (.cons (.var 3) (.cons (.var 4) .nil))) (.cal 16 (.cons (.var 5) (.cons (.var 6) .nil))))
    (.cons (.iff (.not (.cal 15 (.cons (.lst (.cons (.cal 8 (.cons (.var 3) (.cons (.var 4) .nil))) (.cons (.cak 8 .nil ["bottom", "top"] (.cons (.var 6) (.cons (.var 5) .nil)) [1, 0] 0) .nil))) (.cons (.lst (.cons (.var 7) (.cons (.var 8) .nil))) .nil))))
      (.cons (.ret (.cst (.bl false)))
      .nil)
      .nil)
    (.cons (.par 9 10 (.cal 16 (.cons (.bin .Add (.bin .Mult (.idx (.var 7) (.cst (.int 0))) (.idx (.var 8) (.cst (.int 1)))) (.bin .Mult (.idx (.var 8) (.cst (.int 0))) (.idx (.var 7) (.cst (.int 1))))) (.cons (.bin .Mult (.idx (.var 7) (.cst (.int 1))) (.idx (.var 8) (.cst (.int 1)))) .nil))) (.cal 16 (.cons (.bin .Mult (.idx (.var 7) (.cst (.int 0))) (.idx (.var 8) (.cst (.int 0)))) (.cons (.bin .Mult (.idx (.var 7) (.cst (.int 1))) (.idx (.var 8) (.cst (.int 1)))) .nil))))
    (.cons (.iff (.not (.cal 15 (.cons (.lst (.cons (.cal 9 (.cons (.var 7) (.cons (.var 8) .nil))) (.cons (.cak 9 .nil ["other", "one"] (.cons (.var 7) (.cons (.var 8) .nil)) [1, 0] 0) .nil))) (.cons (.lst (.cons (.var 9) (.cons (.var 9) .nil))) .nil))))
      (.cons (.ret (.cst (.bl false)))
      .nil)
      .nil)
    (.cons (.iff (.not (.cal 15 (.cons (.lst (.cons (.cal 10 (.cons (.var 7) (.cons (.var 8) .nil))) (.cons (.cak 10 .nil ["other", "one"] (.cons (.var 7) (.cons (.var 8) .nil)) [1, 0] 0) .nil))) (.cons (.lst (.cons (.var 10) (.cons (.var 10) .nil))) .nil))))
      (.cons (.ret (.cst (.bl false)))
      .nil)
      .nil)
    (.cons (.set 11 (.bin .Sub (.bin .Mult (.idx (.var 7) (.cst (.int 0))) (.idx (.var 8) (.cst (.int 1)))) (.bin .Mult (.idx (.var 8) (.cst (.int 0))) (.idx (.var 7) (.cst (.int 1))))))
    (.cons (.set 12 (.ife (.cmp .Lt (.var 11) (.cst (.int 0))) (.neg (.cst (.int 1))) (.ife (.cmp .Gt (.var 11) (.cst (.int 0))) (.cst (.int 1)) (.cst (.int 0)))))
    (.cons (.iff (.not (.cal 15 (.cons (.lst (.cons (.cal 11 (.cons (.var 7) (.cons (.var 8) .nil))) (.cons (.cak 11 .nil ["other", "one"] (.cons (.var 7) (.cons (.var 8) .nil)) [1, 0] 0) (.cons (.cal 11 (.cons (.var 7) (.cons (.var 7) .nil))) .nil)))) (.cons (.lst (.cons (.var 12) (.cons (.neg (.var 12)) (.cons (.cst (.int 0)) .nil)))) .nil))))
      (.cons (.ret (.cst (.bl false)))
      .nil)
      .nil)
    (.cons (.set 13 (.cal 12 (.cons (.var 7) .nil)))
    (.cons (.iff (.or (.not (.blt .isi (.cons (.var 13) (.cons (.typ "int") .nil)))) (.or (.blt .isi (.cons (.var 13) (.cons (.typ "bool") .nil))) (.not (.chn .LtE .Lt (.cst (.int 0)) (.bin .Sub (.idx (.var 7) (.cst (.int 0))) (.bin .Mult (.var 13) (.idx (.var 7) (.cst (.int 1))))) (.idx (.var 7) (.cst (.int 1)))))))
      (.cons (.ret (.cst (.bl false)))
      .nil)
      .nil)
    (.cons (.iff (.not (.cal 15 (.cons (.lst (.cons (.cak 12 .nil ["x"] (.cons (.var 8) .nil) [0] 0) (.cons (.cal 6 (.cons (.var 7) .nil)) (.cons (.cak 6 .nil ["value"] (.cons (.var 8) .nil) [0] 0) .nil)))) (.cons (.lst (.cons (.bin .FloorDiv (.idx (.var 8) (.cst (.int 0))) (.idx (.var 8) (.cst (.int 1)))) (.cons (.cst (.bl true)) (.cons (.cst (.bl true)) .nil)))) .nil))))
      (.cons (.ret (.cst (.bl false)))
      .nil)
      .nil)
    (.cons (.set 14 (.bin .Add (.cst (.int 2)) (.cal 14 (.cons (.var 1) (.cons (.cst (.int 40)) .nil)))))
    (.cons (.set 15 (.lst (.cons (.tup (.cons (.bin .Mult (.idx (.var 7) (.cst (.int 0))) (.var 14)) (.cons (.bin .Mult (.idx (.var 7) (.cst (.int 1))) (.var 14)) .nil))) (.cons (.tup (.cons (.neg (.idx (.var 7) (.cst (.int 0)))) (.cons (.neg (.idx (.var 7) (.cst (.int 1)))) .nil))) (.cons (.tup (.cons (.idx (.var 7) (.cst (.int 0))) (.cons (.cst (.int 0)) .nil))) (.cons (.lst (.cons (.idx (.var 7) (.cst (.int 0))) (.cons (.idx (.var 7) (.cst (.int 1))) .nil))) (.cons (.bin .Add (.var 7) (.tup (.cons (.cst (.int 1)) .nil))) (.cons (.slc (.var 7) .nil (.cons (.cst (.int 1)) .nil)) (.cons (.tup (.cons (.var 7) (.cons (.var 8) .nil))) .nil)))))))))
    (.cons (.iff (.not (.cal 15 (.cons (.lc (.nm 16) (.sq (.var 15)) .nil (.cal 6 (.cons (.var 16) .nil)) [16]) (.cons (.lc (.nm 16) (.sq (.var 15)) .nil (.cst (.bl false)) [16]) .nil))))
      (.cons (.ret (.cst (.bl false)))
      .nil)
      .nil)
    .nil))))))))))))))))
  (.cons (.ret (.cst (.bl true)))
  .nil)))
def d_law : DefI := ⟨"law", topS 27, ["script"], ["script", "urn", "turn", "a", "b", "c", "d", "x", "y", "plus_v", "product", "gap", "order", "whole", "wide", "bent", "told"], ir_law⟩
def KW : List (Nat × Nat × List Str × List Nat) := [(8, 0, ["bottom", "top"], [1, 0]), (9, 0, ["other", "one"], [1, 0]), (10, 0, ["other", "one"], [1, 0]), (11, 0, ["other", "one"], [1, 0]), (12, 0, ["x"], [0]), (6, 0, ["value"], [0])]
def BN : List Str := ["abs", "all", "bool", "int", "isinstance", "len", "list", "range", "str", "tuple"]
def GC : Bool := true
def Ds : List DefI := [d_is_integer, d_made, d_plus, d_scaled, d_is_less, d_whole_of, d_is_fraction, d_check_fraction, d_fraction_of, d_add, d_multiply, d_compare, d_floor_of, d__law_urn, d__law_pick, d__law_same, d__law_lowest, d__law_integer, d__law_two, d_law]
-- 0:is_integer 1:made 2:plus 3:scaled 4:is_less 5:whole_of 6:is_fraction 7:check_fraction 8:fraction_of 9:add 10:multiply 11:compare 12:floor_of 13:_law_urn 14:_law_pick 15:_law_same 16:_law_lowest 17:_law_integer 18:_law_two 19:law
theorem ds_ok : Ds.all (fun d => d.ok (Ds.map (·.name)) KW BN GC) = true := by decide +kernel
end K00

set_option Elab.async false
set_option linter.all false
set_option maxRecDepth 100000
namespace K00
open PySem L2 Rf
def gg (t b : Int) : Int := ((Nat.gcd t.natAbs b.natAbs : Nat) : Int)
def lowD (t b : Int) : D := .tup [.int (t / gg t b), .int (b / gg t b)]
def redD (t b : Int) : D := if b < 0 then lowD (-t) (-b) else lowD t b
def Fr (a b : Int) : Prop := 1 ≤ b ∧ b < 2 ^ 62 ∧ -(2 ^ 62) < a ∧ a < 2 ^ 62 ∧ Nat.gcd a.natAbs b.natAbs = 1
def fr (a b : Int) : D := .tup [.int a, .int b]
def okF : D → Bool
  | .tup [.int _, .int _] => true
  | .tup [.tup _, .tup _] => true
  | .tup [] => true
  | .tup [_] => true
  | .tup [_, _, _] => true
  | .lst _ => true
  | _ => false
def isFr : D → Bool
  | .tup [.int t, .int b] => decide (1 ≤ b) && decide (Nat.gcd t.natAbs b.natAbs = 1)
  | _ => false
def Sm : Nat → D → Prop
  | 0, _ => False
  | _ + 1, .non => True
  | _ + 1, .bl _ => True
  | _ + 1, .int _ => True
  | n + 1, .tup xs => xs.length ≤ 1000 ∧ ∀ x ∈ xs, Sm n x
  | n + 1, .lst xs => xs.length ≤ 1000 ∧ ∀ x ∈ xs, Sm n x
  | _ + 1, _ => False
def sp (k : Nat) : Nat → DSpec
  | 0 => fun ds μ Q => (∃ i, ds = [.int i] ∧ Q (.bl true) μ) ∨ (∃ xs, ds = [.tup xs] ∧ Q (.bl false) μ)
  | 1 => fun ds μ Q => ∃ t b, ds = [.int t, .int b] ∧ 1 ≤ b ∧ b < 2 ^ 200 ∧ Q (lowD t b) μ
  | 2 => fun ds μ Q => ∃ a b c d, ds = [fr a b, fr c d] ∧ Fr a b ∧ Fr c d ∧ Q (lowD (a * d + c * b) (b * d)) μ
  | 3 => fun ds μ Q => ∃ a b c d, ds = [fr a b, fr c d] ∧ Fr a b ∧ Fr c d ∧ Q (lowD (a * c) (b * d)) μ
  | 4 => fun ds μ Q => ∃ a b c d, ds = [fr a b, fr c d] ∧ Fr a b ∧ Fr c d ∧ Q (.bl (decide (a * d < c * b))) μ
  | 5 => fun ds μ Q => ∃ a b, ds = [fr a b] ∧ Fr a b ∧ Q (.int (a / b)) μ
  | 6 => fun ds μ Q => ∃ x, ds = [x] ∧ okF x = true ∧ Q (.bl (isFr x)) μ
  | 7 => fun ds μ Q => ∃ a b, ds = [fr a b] ∧ Fr a b ∧ Q .non μ
  | 8 => fun ds μ Q => ∃ t b, ds = [.int t, .int b] ∧ b ≠ 0 ∧ -(2 ^ 62) < b ∧ b < 2 ^ 62 ∧ Q (redD t b) μ
  | 9 => fun ds μ Q => ∃ a b c d, ds = [fr a b, fr c d] ∧ Fr a b ∧ Fr c d ∧ Q (lowD (a * d + c * b) (b * d)) μ
  | 10 => fun ds μ Q => ∃ a b c d, ds = [fr a b, fr c d] ∧ Fr a b ∧ Fr c d ∧ Q (lowD (a * c) (b * d)) μ
  | 11 => fun ds μ Q => ∃ a b c d, ds = [fr a b, fr c d] ∧ Fr a b ∧ Fr c d ∧ Q (.int (if a = c ∧ b = d then 0 else if a * d < c * b then -1 else 1)) μ
  | 12 => fun ds μ Q => ∃ a b, ds = [fr a b] ∧ Fr a b ∧ Q (.int (a / b)) μ
  | 13 => fun ds μ Q => ∃ ns : List Int, ds = [.scr (ns.map .int)] ∧ μ = [] ∧ ns.length ≤ sizeLine ∧ ∀ μ', UrnOk μ' → Q (.cel 0) μ'
  | 14 => fun ds μ Q => ∃ many, ds = [.cel 0, .int many] ∧ UrnOk μ ∧ 0 < many ∧ many < 2 ^ 60 ∧ ∀ r μ', UrnOk μ' → 0 ≤ r → r < many → Q (.int r) μ'
  | 15 => fun ds μ Q => ∃ d, ds = [d, d] ∧ Sm k d ∧ Q (.bl true) μ
  | 16 => fun ds μ Q => ∃ t b, ds = [.int t, .int b] ∧ b ≠ 0 ∧ t.natAbs < 2 ^ 125 ∧ b.natAbs < 2 ^ 125 ∧ Q (redD t b) μ
  | 17 => fun ds μ Q => ds = [.cel 0] ∧ UrnOk μ ∧ ∀ r μ', UrnOk μ' → -(10 ^ 15) ≤ r → r ≤ 10 ^ 15 → Q (.int r) μ'
  | 18 => fun ds μ Q => ds = [.cel 0] ∧ UrnOk μ ∧ ∀ a b c d μ', UrnOk μ' → b ≠ 0 → d ≠ 0 → (-(2 ^ 60) < a ∧ a < 2 ^ 60) → (-(2 ^ 60) < b ∧ b < 2 ^ 60) → (-(2 ^ 60) < c ∧ c < 2 ^ 60) → (-(2 ^ 60) < d ∧ d < 2 ^ 60) → Q (.tup [.int a, .int b, .int c, .int d]) μ'
  | 19 => fun ds μ Q => ∃ ns : List Int, ds = [.scr (ns.map .int)] ∧ μ = [] ∧ ns.length ≤ 63 ∧ ∀ μ', Q (.bl true) μ'
  | _ => fun _ _ _ => False
/-- the level from which a def is served -/
def lv : Nat → Nat
  | 0 => 1 | 1 => 1 | 2 => 2 | 3 => 2 | 4 => 1 | 5 => 1 | 6 => 2 | 7 => 3 | 8 => 2 | 9 => 4 | 10 => 4 | 11 => 4 | 12 => 4 | 13 => 1 | 14 => 1 | 15 => 1 | 16 => 1 | 17 => 2 | 18 => 3 | 19 => 5
  | _ => 1
def T (k : Nat) : Tab := fun f ds μ Q => lv f ≤ k ∧ sp k f ds μ Q
def LV : Nat := 5
theorem T_zero : ∀ f ds μ Q, ¬ T 0 f ds μ Q := by
  intro f ds μ Q h
  have : 1 ≤ lv f := by unfold lv; split <;> decide
  have := h.1
  omega
theorem T_len : ∀ k i d ds μ Q, Ds[i]? = some d → T k i ds μ Q → ds.length = d.ps.length := by
  intro k i d ds μ Q hd h
  have h := h.2
  by_cases hi : i < 20
  · have : i = 0 ∨ i = 1 ∨ i = 2 ∨ i = 3 ∨ i = 4 ∨ i = 5 ∨ i = 6 ∨ i = 7 ∨ i = 8 ∨ i = 9 ∨ i = 10 ∨ i = 11 ∨ i = 12 ∨ i = 13 ∨ i = 14 ∨ i = 15 ∨ i = 16 ∨ i = 17 ∨ i = 18 ∨ i = 19 := by omega
    rcases this with rfl | rfl | rfl | rfl | rfl | rfl | rfl | rfl | rfl | rfl | rfl | rfl | rfl | rfl | rfl | rfl | rfl | rfl | rfl | rfl <;> cases hd
    all_goals first | (rcases h with ⟨_, rfl, _⟩ | ⟨_, rfl, _⟩ <;> rfl) | (obtain ⟨_, _, _, _, rfl, _⟩ := h; rfl) | (obtain ⟨_, _, rfl, _⟩ := h; rfl) | (obtain ⟨_, rfl, _⟩ := h; rfl) | (obtain ⟨rfl, _⟩ := h; rfl)
  · exact (by
      have : Ds.length = 20 := rfl
      rw [List.getElem?_eq_none (by omega)] at hd
      cases hd)
section
variable {Γ : Tab} {μ : M} {Q : WQ}
theorem g1 {t b : Int} (hb : 1 ≤ b) : 1 ≤ gg t b := by
  have : 0 < Nat.gcd t.natAbs b.natAbs := Nat.gcd_pos_of_pos_right _ (by omega)
  simp only [gg]; omega
theorem g2 {t b : Int} (hb : 1 ≤ b) : gg t b ≤ b := by
  have : Nat.gcd t.natAbs b.natAbs ≤ b.natAbs := Nat.gcd_le_right _ (by omega)
  simp only [gg]; omega
theorem dv {i j : Int} (h : 0 < j) (h2 : j < 2 ^ 200) : CDivW i j := ⟨h, by
  have : j.natAbs < 2 ^ 200 := by omega
  exact Nat.lt_of_lt_of_le ((Nat.log2_lt (by omega)).mpr this) (by decide)⟩
theorem b0i {i : Int} (h : Q (.bl true) μ) : wDef Γ 1 ir_is_integer [.int i] μ Q := by
  simp [wDef, ir_is_integer, wSs, wS, wE, wEs, wT, startD]
  exact rt_here h
theorem b0t {xs : List D} (h : Q (.bl false) μ) : wDef Γ 1 ir_is_integer [.tup xs] μ Q := by
  simp [wDef, ir_is_integer, wSs, wS, wE, wEs, wT, startD]
  exact rt_here h
theorem b1 {t b : Int} (hb : 1 ≤ b) (hc : b < 2 ^ 200) (h : Q (lowD t b) μ) : wDef Γ 3 ir_made [.int t, .int b] μ Q := by
  have := g1 (t := t) hb
  have := g2 (t := t) hb
  simp [wDef, ir_made, wSs, wS, wE, wEs, wT, startD]
  exact ⟨dv (j := gg t b) (by omega) (by omega), dv (j := gg t b) (by omega) (by omega), rt_here h⟩
theorem ml {i j : Int} (h : -(2 ^ 62) < i ∧ i < 2 ^ 62) : CMul i j ∨ CMulW i j := .inl (.inl ⟨by omega, by omega⟩)
theorem mr {i j : Int} (h : -(2 ^ 62) < j ∧ j < 2 ^ 62) : CMul i j ∨ CMulW i j := .inl (.inr ⟨by omega, by omega⟩)
theorem bd1 {b d : Int} (hb : 1 ≤ b) (hb2 : b < 2 ^ 62) (hd : 1 ≤ d) (hd2 : d < 2 ^ 62) : 1 ≤ b * d ∧ b * d < 2 ^ 200 := by
  have h1 : 0 < b * d := Int.mul_pos (by omega) (by omega)
  have h2 : b * d ≤ 2 ^ 62 * 2 ^ 62 := Int.mul_le_mul (by omega) (by omega) (by omega) (by omega)
  refine ⟨h1, Int.lt_of_le_of_lt h2 (by decide)⟩
theorem b2 {a b c d : Int} (H1 : ∀ t b (P : WQ), 1 ≤ b → b < 2 ^ 200 → P (lowD t b) μ → Γ 1 [.int t, .int b] μ P) (h1 : Fr a b) (h2 : Fr c d) (h : Q (lowD (a * d + c * b) (b * d)) μ) : wDef Γ 2 ir_plus [fr a b, fr c d] μ Q := by
  obtain ⟨u1, u2, u3, u4, _⟩ := h1
  obtain ⟨v1, v2, v3, v4, _⟩ := h2
  have w := bd1 u1 u2 v1 v2
  simp [wDef, ir_plus, wSs, wS, wE, wEs, wT, startD, fr]
  exact ⟨ml ⟨u3, u4⟩, ml ⟨v3, v4⟩, ml ⟨by omega, u2⟩, H1 _ _ _ w.1 w.2 (rt_here h)⟩
theorem b3 {a b c d : Int} (H1 : ∀ t b (P : WQ), 1 ≤ b → b < 2 ^ 200 → P (lowD t b) μ → Γ 1 [.int t, .int b] μ P) (h1 : Fr a b) (h2 : Fr c d) (h : Q (lowD (a * c) (b * d)) μ) : wDef Γ 2 ir_scaled [fr a b, fr c d] μ Q := by
  obtain ⟨u1, u2, u3, u4, _⟩ := h1
  obtain ⟨v1, v2, v3, v4, _⟩ := h2
  have w := bd1 u1 u2 v1 v2
  simp [wDef, ir_scaled, wSs, wS, wE, wEs, wT, startD, fr]
  exact ⟨ml ⟨u3, u4⟩, ml ⟨by omega, u2⟩, H1 _ _ _ w.1 w.2 (rt_here h)⟩
theorem b4 {a b c d : Int} (h1 : Fr a b) (h2 : Fr c d) (h : Q (.bl (decide (a * d < c * b))) μ) : wDef Γ 2 ir_is_less [fr a b, fr c d] μ Q := by
  obtain ⟨u1, u2, u3, u4, _⟩ := h1
  obtain ⟨v1, v2, v3, v4, _⟩ := h2
  simp [wDef, ir_is_less, wSs, wS, wE, wEs, wT, startD, fr, wCmp, opCmp]
  exact ⟨ml ⟨u3, u4⟩, ml ⟨v3, v4⟩, rt_here h⟩
theorem b5 {a b : Int} (h1 : Fr a b) (h : Q (.int (a / b)) μ) : wDef Γ 1 ir_whole_of [fr a b] μ Q := by
  obtain ⟨u1, u2, u3, u4, _⟩ := h1
  simp [wDef, ir_whole_of, wSs, wS, wE, wEs, wT, startD, fr, wCmp, opCmp]
  exact ⟨dv (by omega) (by omega), rt_here h⟩
theorem b6 {x : D} (H : ∀ ds (P : WQ), sp 1 0 ds μ P → Γ 0 ds μ P) (ho : okF x = true) (h : Q (.bl (isFr x)) μ) : wDef Γ 3 ir_is_fraction [x] μ Q := by
  unfold okF at ho
  split at ho
  · rename_i t b
    simp only [wDef, ir_is_fraction, wSs, wS, wE, wEs, wT, startD, ofE, wCmp, opCmp, setsD]
    simp
    refine H _ _ (.inl ⟨_, rfl, ?_⟩)
    simp
    refine H _ _ (.inl ⟨_, rfl, ?_⟩)
    simp
    simp [isFr] at h
    split
    · rename_i hb
      have e : decide (((Nat.gcd t.natAbs b.natAbs : Nat) : Int) = 1) = decide (Nat.gcd t.natAbs b.natAbs = 1) := decide_eq_decide.mpr (by omega)
      simp [hb] at h
      exact rt_here (by first | exact h | (simp only [e]; exact h) | simpa using h)
    · rename_i hb
      simp [hb] at h
      exact rt_here h
  · simp only [wDef, ir_is_fraction, wSs, wS, wE, wEs, wT, startD, ofE, wCmp, opCmp, setsD]
    simp
    refine H _ _ (.inr ⟨_, rfl, ?_⟩)
    simp
    exact rt_here h
  · simp [wDef, ir_is_fraction, wSs, wS, wE, wEs, wT, startD, ofE, wCmp, opCmp, setsD]
    exact rt_here (by simpa [isFr] using h)
  · simp [wDef, ir_is_fraction, wSs, wS, wE, wEs, wT, startD, ofE, wCmp, opCmp, setsD]
    exact rt_here (by simpa [isFr] using h)
  · simp [wDef, ir_is_fraction, wSs, wS, wE, wEs, wT, startD, ofE, wCmp, opCmp, setsD]
    exact rt_here (by simpa [isFr] using h)
  · simp [wDef, ir_is_fraction, wSs, wS, wE, wEs, wT, startD, ofE, wCmp, opCmp, setsD]
    exact rt_here (by simpa [isFr] using h)
  · cases ho
theorem isFr_fr {a b : Int} (h : Fr a b) : isFr (fr a b) = true := by
  obtain ⟨u1, u2, u3, u4, u5⟩ := h
  simp [isFr, fr, u5, u1]
theorem b7 {a b : Int} (H : ∀ x (P : WQ), okF x = true → P (.bl (isFr x)) μ → Γ 6 [x] μ P) (h1 : Fr a b) (h : Q .non μ) : wDef Γ 1 ir_check_fraction [fr a b] μ Q := by
  simp [wDef, ir_check_fraction, wSs, wS, wE, wEs, wT, startD, ofE]
  refine H _ _ rfl ?_
  simp [isFr_fr h1]
  exact rt_here h
theorem b8 {t b : Int} (H0 : ∀ i (P : WQ), P (.bl true) μ → Γ 0 [.int i] μ P) (H1 : ∀ t b (P : WQ), 1 ≤ b → b < 2 ^ 200 → P (lowD t b) μ → Γ 1 [.int t, .int b] μ P)
    (hb : b ≠ 0) (h1 : -(2 ^ 62) < b) (h2 : b < 2 ^ 62) (h : Q (redD t b) μ) : wDef Γ 2 ir_fraction_of [.int t, .int b] μ Q := by
  simp [wDef, ir_fraction_of, wSs, wS, wE, wEs, wT, startD, ofE, wCmp, opCmp]
  refine H0 _ _ ?_
  simp
  refine H0 _ _ ?_
  simp [hb]
  unfold redD at h
  split
  · rename_i hn
    rw [if_pos hn] at h
    exact H1 _ _ _ (by omega) (by omega) (rt_here h)
  · rename_i hn
    rw [if_neg hn] at h
    exact H1 _ _ _ (by omega) (by omega) (rt_here h)
theorem b9 {a b c d : Int} (H7 : ∀ a b (P : WQ), Fr a b → P .non μ → Γ 7 [fr a b] μ P) (H2 : ∀ a b c d (P : WQ), Fr a b → Fr c d → P (lowD (a * d + c * b) (b * d)) μ → Γ 2 [fr a b, fr c d] μ P)
    (h1 : Fr a b) (h2 : Fr c d) (h : Q (lowD (a * d + c * b) (b * d)) μ) : wDef Γ 2 ir_add [fr a b, fr c d] μ Q := by
  simp [wDef, ir_add, wSs, wS, wE, wEs, wT, startD, ofE]
  exact H7 _ _ _ h1 (H7 _ _ _ h2 (H2 _ _ _ _ _ h1 h2 (rt_here h)))
theorem b10 {a b c d : Int} (H7 : ∀ a b (P : WQ), Fr a b → P .non μ → Γ 7 [fr a b] μ P) (H3 : ∀ a b c d (P : WQ), Fr a b → Fr c d → P (lowD (a * c) (b * d)) μ → Γ 3 [fr a b, fr c d] μ P)
    (h1 : Fr a b) (h2 : Fr c d) (h : Q (lowD (a * c) (b * d)) μ) : wDef Γ 2 ir_multiply [fr a b, fr c d] μ Q := by
  simp [wDef, ir_multiply, wSs, wS, wE, wEs, wT, startD, ofE]
  exact H7 _ _ _ h1 (H7 _ _ _ h2 (H3 _ _ _ _ _ h1 h2 (rt_here h)))
theorem b11 {a b c d : Int} (H7 : ∀ a b (P : WQ), Fr a b → P .non μ → Γ 7 [fr a b] μ P) (H4 : ∀ a b c d (P : WQ), Fr a b → Fr c d → P (.bl (decide (a * d < c * b))) μ → Γ 4 [fr a b, fr c d] μ P)
    (h1 : Fr a b) (h2 : Fr c d) (h : Q (.int (if a = c ∧ b = d then 0 else if a * d < c * b then -1 else 1)) μ) : wDef Γ 2 ir_compare [fr a b, fr c d] μ Q := by
  simp [wDef, ir_compare, wSs, wS, wE, wEs, wT, startD, ofE, wCmp, opCmp]
  refine H7 _ _ _ h1 (H7 _ _ _ h2 ?_)
  simp only [fr, q_t2]
  simp
  split
  · rename_i e
    rw [if_pos e] at h
    exact rt_here h
  · rename_i e
    rw [if_neg e] at h
    refine H4 _ _ _ _ _ h1 h2 ?_
    simp
    split
    · rename_i e2
      rw [if_pos e2] at h
      exact rt_here h
    · rename_i e2
      rw [if_neg e2] at h
      exact rt_here h
theorem b12 {a b : Int} (H7 : ∀ a b (P : WQ), Fr a b → P .non μ → Γ 7 [fr a b] μ P) (H5 : ∀ a b (P : WQ), Fr a b → P (.int (a / b)) μ → Γ 5 [fr a b] μ P)
    (h1 : Fr a b) (h : Q (.int (a / b)) μ) : wDef Γ 1 ir_floor_of [fr a b] μ Q := by
  simp [wDef, ir_floor_of, wSs, wS, wE, wEs, wT, startD, ofE, wCmp, opCmp]
  exact H7 _ _ _ h1 (H5 _ _ _ h1 (rt_here h))
end
end K00

set_option Elab.async false
set_option linter.all false
set_option maxRecDepth 100000
namespace K00
open PySem L2 Rf
section
variable {Γ : Tab} {μ : M} {Q : WQ}
theorem sm_all (n : Nat) (d : D) (hd : Sm (n + 1) d) : (∃ xs, d = .tup xs ∨ d = .lst xs) ∨ d = .non ∨ (∃ b, d = .bl b) ∨ ∃ i, d = .int i := by
  cases d <;> simp [Sm] at hd ⊢
theorem bls : ∀ n : Nat, blsD (List.replicate n (D.bl true)) = some (List.replicate n true)
  | 0 => rfl
  | n + 1 => by
    show blsD (D.bl true :: List.replicate n (D.bl true)) = _
    simp only [blsD, bls n]
    rfl
theorem same_items {xs : List D} {Γ : Tab} {ρ : Rho} {a b : D} (hl : xs.length ≤ 1000) (ha : ρ.length = 3) (h0 : getV ρ 0 = some a) (h1 : getV ρ 1 = some b)
    (ea : ∀ (i : Nat) (x : D), xs[i]? = some x → ∀ P : WQ, P x μ → opIdx a (.int i) μ P) (eb : ∀ (i : Nat) (x : D), xs[i]? = some x → ∀ P : WQ, P x μ → opIdx b (.int i) μ P)
    (hr : ∀ x ∈ xs, ∀ P : WQ, P (.bl true) μ → Γ 15 [x, x] μ P) (hq : Q (.bl true) μ) :
    wLc (.nm 2) (wF Γ .nil) (wE Γ (.cal 15 (.cons (.idx (.var 0) (.var 2)) (.cons (.idx (.var 1) (.var 2)) .nil)))) [2] ⟨none, rangeD 0 xs.length⟩ ρ μ
      fun d μ1 => opBlt .all [d] μ1 Q := by
  obtain ⟨r0, r1, r2, rfl⟩ : ∃ r0 r1 r2, ρ = [r0, r1, r2] := by
    match ρ, ha with
    | [r0, r1, r2], _ => exact ⟨_, _, _, rfl⟩
  simp at h0 h1
  subst h0 h1
  refine lc_pure (fun n h => by cases h) (by simp; exact line_le (by omega)) (fun _ => .bl true) ?_ ?_
  · intro i x hx
    obtain ⟨hi, rfl⟩ := r_rangeD hx
    refine ⟨_, rfl, fun P hP => ?_⟩
    have hx := List.getElem?_eq_getElem hi
    simp [wE, wEs, wipeD]
    exact ea _ _ hx _ (eb _ _ hx _ (hr _ (List.getElem_mem hi) _ hP))
  · refine new_l (by simp; exact line_le (by omega)) ?_
    have e : (rangeD 0 xs.length).map (fun _ => D.bl true) = List.replicate xs.length (D.bl true) := by
      rw [List.map_const']; simp
    simp [e, bls]
    exact hq
theorem b15 {k : Nat} {d : D} (hd : Sm (k + 1) d) (hr : ∀ x, Sm k x → ∀ P : WQ, P (.bl true) μ → Γ 15 [x, x] μ P) (hq : Q (.bl true) μ) : wDef Γ 3 ir__law_same [d, d] μ Q := by
  have h := rt_here (μ0 := μ) hq
  cases d with
  | non => simpa [wDef, ir__law_same, wSs, wS, wE, wEs, wT, startD, ofE, wCmp, opCmp, setsD] using h
  | bl b => simpa [wDef, ir__law_same, wSs, wS, wE, wEs, wT, startD, ofE, wCmp, opCmp, setsD] using h
  | int i => simpa [wDef, ir__law_same, wSs, wS, wE, wEs, wT, startD, ofE, wCmp, opCmp, setsD] using h
  | tup xs =>
    simp [Sm] at hd
    simp [wDef, ir__law_same, wSs, wS, wE, wEs, wT, startD, ofE, wCmp, opCmp, setsD, wI]
    refine ⟨⟨by omega, by omega⟩, ?_⟩
    refine same_items hd.1 rfl rfl rfl (fun i x hx P hP => ?_) (fun i x hx P hP => ?_) (fun x hx => hr x (hd.2 x hx)) h
    · simp [atI_nat hx, hP]
    · simp [atI_nat hx, hP]
  | lst xs =>
    simp [Sm] at hd
    simp [wDef, ir__law_same, wSs, wS, wE, wEs, wT, startD, ofE, wCmp, opCmp, setsD, wI]
    refine ⟨⟨by omega, by omega⟩, ?_⟩
    refine same_items hd.1 rfl rfl rfl (fun i x hx P hP => ?_) (fun i x hx P hP => ?_) (fun x hx => hr x (hd.2 x hx)) h
    · simp [atI_nat hx, hP]
    · simp [atI_nat hx, hP]
  | _ => simp [Sm] at hd
/-! lowest -/
def Inv (C g : Nat) (i x y : Nat) : Prop := Nat.gcd x y = g ∧ ((i = 0 ∧ x * y ≤ C) ∨ ∃ j, i = j + 1 ∧ y ≤ x ∧ x * y * 2 ^ j ≤ C)
theorem inv_step {C g i x y : Nat} (h : Inv C g i x y) (hy : y ≠ 0) : Inv C g (i + 1) y (x % y) := by
  obtain ⟨hg, h⟩ := h
  have hlt : x % y < y := Nat.mod_lt _ (by omega)
  refine ⟨by rw [← hg, Nat.gcd_comm y, ← Nat.gcd_rec, Nat.gcd_comm], .inr ⟨i, rfl, by omega, ?_⟩⟩
  rcases h with ⟨rfl, h⟩ | ⟨j, rfl, h1, h2⟩
  · have : x % y ≤ x := Nat.mod_le _ _
    have : y * (x % y) ≤ y * x := Nat.mul_le_mul_left _ this
    rw [Nat.mul_comm x y] at h
    simp; omega
  · have e : 2 * (x % y) ≤ x := by
      have h3 : y + x % y ≤ x := by
        have h4 : 1 ≤ x / y := (Nat.one_le_div_iff (by omega)).mpr h1
        have h5 := Nat.div_add_mod x y
        have h6 : y * 1 ≤ y * (x / y) := Nat.mul_le_mul_left _ h4
        omega
      omega
    have : y * (2 * (x % y)) ≤ y * x := Nat.mul_le_mul_left _ e
    calc y * (x % y) * 2 ^ (j + 1) = (y * (2 * (x % y))) * 2 ^ j := by rw [Nat.pow_succ]; ac_rfl
      _ ≤ (y * x) * 2 ^ j := Nat.mul_le_mul_right _ this
      _ = x * y * 2 ^ j := by ac_rfl
      _ ≤ C := h2
theorem inv_end {C g i x y : Nat} (h : Inv C g (i + 1) x y) (hC : C < 2 ^ i) (hg : 0 < g) : y = 0 := by
  obtain ⟨hg', h⟩ := h
  rcases h with ⟨h, _⟩ | ⟨j, hj, h1, h2⟩
  · omega
  · cases hj
    by_cases hy : y = 0
    · exact hy
    · have : 1 * 2 ^ i ≤ x * y * 2 ^ i := Nat.mul_le_mul_right _ (Nat.mul_pos (by omega) (by omega))
      omega
theorem bnd400 : bnd 400 := by constructor <;> decide
theorem gg_neg {t b : Int} : gg (-t) (-b) = gg t b := by simp [gg]
theorem low_end {t b : Int} {x : Nat} (hb : b ≠ 0) (h2 : b.natAbs < 2 ^ 125) (hx : x = Nat.gcd t.natAbs b.natAbs) {R : Int → Int → Prop}
    (h : if b < 0 then R (-t / gg t b) (-b / gg t b) else R (t / gg t b) (b / gg t b)) : if b < 0 then
    (CMul (-1) t ∨ CMulW (-1) t) ∧
      CDivW (-t) ↑x ∧
        (CMul (-1) b ∨ CMulW (-1) b) ∧ CDivW (-b) ↑x ∧ R (-t / ↑x) (-b / ↑x)
  else
    (CMul 1 t ∨ CMulW 1 t) ∧
      CDivW t ↑x ∧ (CMul 1 b ∨ CMulW 1 b) ∧ CDivW b ↑x ∧ R (t / ↑x) (b / ↑x) := by
  have e : ((x : Nat) : Int) = gg t b := by rw [hx]; rfl
  have p : 0 < Nat.gcd t.natAbs b.natAbs := Nat.gcd_pos_of_pos_right _ (by omega)
  have q : Nat.gcd t.natAbs b.natAbs ≤ b.natAbs := Nat.gcd_le_right _ (by omega)
  have hd : ∀ i, CDivW i (x : Int) := fun i => dv (by omega) (by omega)
  have m1 : ∀ i, CMul 1 i ∨ CMulW 1 i := fun i => .inl (.inl ⟨by decide, by decide⟩)
  have m2 : ∀ i, CMul (-1) i ∨ CMulW (-1) i := fun i => .inl (.inl ⟨by decide, by decide⟩)
  split
  · rename_i hn
    rw [if_pos hn] at h
    exact ⟨m2 _, hd _, m2 _, hd _, e ▸ h⟩
  · rename_i hn
    rw [if_neg hn] at h
    exact ⟨m1 _, hd _, m1 _, hd _, e ▸ h⟩
theorem b16 {t b : Int} (hb : b ≠ 0) (h1 : t.natAbs < 2 ^ 125) (h2 : b.natAbs < 2 ^ 125) (hq : Q (redD t b) μ) : wDef Γ 6 ir__law_lowest [.int t, .int b] μ Q := by
  have ea : ∀ i : Int, (if i < 0 then -i else i) = (i.natAbs : Int) := fun i => by split <;> omega
  simp [wDef, ir__law_lowest, wSs, wS, wE, wEs, wT, startD, ofE, wCmp, opCmp, setsD, wI, ea]
  refine ⟨bnd400, fun i ρ μ' => μ' = μ ∧ ∃ (x y : Nat) (o : Option D), ρ = [some (.int t), some (.int b), some (.int x), some (.int y), o, none] ∧ Inv (2 ^ 250) (Nat.gcd t.natAbs b.natAbs) i x y, ?_, ?_, ?_, ?_⟩
  · refine ⟨rfl, _, _, _, rfl, rfl, .inl ⟨rfl, ?_⟩⟩
    have := Nat.mul_le_mul (Nat.le_of_lt h1) (Nat.le_of_lt h2)
    exact Nat.le_trans this (by decide)
  · intro i ρ μ' _ _ n hn
    cases hn
  · rintro i d ρ μ' hd ⟨rfl, x, y, o, rfl, hI⟩
    obtain ⟨hi, rfl⟩ := r_rangeD hd
    refine ⟨_, rfl, ?_⟩
    simp
    split
    · rename_i hy
      subst hy
      refine low_end hb h2 (by simpa [Inv] using hI.1) (R := fun p q => rtD μ' Q (D.tup [D.int p, D.int q]) μ') ?_
      unfold redD lowD at hq
      split
      · rename_i hn
        rw [if_pos hn, gg_neg] at hq
        exact rt_here hq
      · rename_i hn
        rw [if_neg hn] at hq
        exact rt_here hq
    · rename_i hy
      exact ⟨by omega, y, x % y, ⟨rfl, by simp⟩, by simpa using inv_step hI hy⟩
  · rintro ρ μ' ⟨rfl, x, y, o, rfl, hI⟩
    replace hI : Inv (2 ^ 250) (Nat.gcd t.natAbs b.natAbs) (399 + 1) x y := by simpa using hI
    have p : 0 < Nat.gcd t.natAbs b.natAbs := Nat.gcd_pos_of_pos_right _ (by omega)
    have hy := inv_end (i := 399) hI (by decide +kernel) p
    subst hy
    simp
    refine low_end hb h2 (by simpa [Inv] using hI.1) (R := fun p q => rtD μ' Q (D.tup [D.int p, D.int q]) μ') ?_
    unfold redD lowD at hq
    split
    · rename_i hn
      rw [if_pos hn, gg_neg] at hq
      exact rt_here hq
    · rename_i hn
      rw [if_neg hn] at hq
      exact rt_here hq
/-! integer, two -/
theorem b17 (hu : UrnOk μ) (H14 : ∀ (many : Int) (μ : M) (P : WQ), UrnOk μ → 0 < many → many < 2 ^ 60 → (∀ r μ', UrnOk μ' → 0 ≤ r → r < many → P (.int r) μ') → Γ 14 [.cel 0, .int many] μ P)
    (hq : ∀ r μ', UrnOk μ' → -(10 ^ 15) ≤ r → r ≤ 10 ^ 15 → Q (.int r) μ') : wDef Γ 2 ir__law_integer [.cel 0] μ Q := by
  have p10 : CPow 10 15 := ⟨by decide, by decide, by decide⟩
  simp [wDef, ir__law_integer, wSs, wS, wE, wEs, wT, startD, ofE, wCmp, opCmp, setsD]
  refine ⟨p10, new_l (line_le (by simp)) (H14 _ _ _ hu (by decide) (by decide) ?_)⟩
  intro r μ1 hu1 hr0 hr1
  have hz : ∃ z : Int, atI ([D.int 4, D.int 100, D.int 1000, D.int 1000000000000000]) r = some (.int z) ∧ 0 < z ∧ z ≤ 10 ^ 15 := by
    have : r = 0 ∨ r = 1 ∨ r = 2 ∨ r = 3 := by omega
    rcases this with rfl | rfl | rfl | rfl <;> simp
  obtain ⟨z, hz, z0, z1⟩ := hz
  simp [hz]
  refine ⟨.inl (.inl ⟨by decide, by decide⟩), H14 _ _ _ hu1 (by omega) (by omega) ?_⟩
  intro r2 μ2 hu2 h0 h1
  simp
  exact rt_here (hq _ _ hu2 (by omega) (by omega))
theorem b18 (hu : UrnOk μ) (H14 : ∀ (many : Int) (μ : M) (P : WQ), UrnOk μ → 0 < many → many < 2 ^ 60 → (∀ r μ', UrnOk μ' → 0 ≤ r → r < many → P (.int r) μ') → Γ 14 [.cel 0, .int many] μ P)
    (H17 : ∀ (μ : M) (P : WQ), UrnOk μ → (∀ r μ', UrnOk μ' → -(10 ^ 15) ≤ r → r ≤ 10 ^ 15 → P (.int r) μ') → Γ 17 [.cel 0] μ P)
    (hq : ∀ a b c d μ', UrnOk μ' → b ≠ 0 → d ≠ 0 → (-(2 ^ 60) < a ∧ a < 2 ^ 60) → (-(2 ^ 60) < b ∧ b < 2 ^ 60) → (-(2 ^ 60) < c ∧ c < 2 ^ 60) → (-(2 ^ 60) < d ∧ d < 2 ^ 60) → Q (.tup [.int a, .int b, .int c, .int d]) μ') :
    wDef Γ 7 ir__law_two [.cel 0] μ Q := by
  simp only [wDef, ir__law_two, startD]
  rw [wS1]; simp [wS, wE, wEs, wT, wI, wO, wF, ofE, wCmp, opCmp, setsD]
  refine ⟨⟨by decide, by decide⟩, ?_⟩
  refine ⟨fun i acc μ' => UrnOk μ' ∧ ∃ zs : List Int, acc = zs.map .int ∧ zs.length = i ∧ ∀ z ∈ zs, -(10 ^ 15) ≤ z ∧ z ≤ 10 ^ 15, ⟨hu, [], rfl, rfl, by simp⟩, fun _ _ _ _ _ _ h => (by cases h), ?_, ?_⟩
  · rintro i x acc μ' hx ⟨hu', zs, rfl, hl, hz⟩
    obtain ⟨hi, rfl⟩ := r_rangeD hx
    refine ⟨_, rfl, ?_⟩
    simp [wF, wipeD]
    refine H17 _ _ hu' fun r μ2 hu2 h0 h1 => ⟨line_lt (by omega), hu2, zs ++ [r], by simp, by simp [hl], ?_⟩
    intro z hz'
    simp at hz'
    rcases hz' with h | rfl
    · exact hz z h
    · exact ⟨h0, h1⟩
  · rintro acc μ' ⟨hu', zs, rfl, hl, hz⟩
    simp at hl
    obtain ⟨a, b, c, d, rfl⟩ : ∃ a b c d, zs = [a, b, c, d] := by
      match zs, hl with
      | [a, b, c, d], _ => exact ⟨_, _, _, _, rfl⟩
    have ha := hz a (by simp); have hb := hz b (by simp); have hc := hz c (by simp); have hd := hz d (by simp)
    refine new_l (line_le (by simp)) ?_
    simp [setsD]
    rw [wS1]
    have key : ∀ b' d' : Int, b' ≠ 0 → d' ≠ 0 → (-(10 ^ 15) ≤ b' ∧ b' ≤ 10 ^ 15) → (-(10 ^ 15) ≤ d' ∧ d' ≤ 10 ^ 15) → wSs Γ ((.cons (.set 5 (.cal 14 (.cons (.var 0) (.cons (.cst (.int 5)) .nil))))   (.cons (.iff (.cmp .Eq (.var 5) (.cst (.int 0)))     (.cons (.par 3 4 (.bin .Mult (.var 1) (.cst (.int 6))) (.bin .Mult (.var 2) (.cst (.int 6))))     .nil)     (.cons (.iff (.cmp .Eq (.var 5) (.cst (.int 1)))       (.cons (.par 3 4 (.bin .Add (.var 1) (.cst (.int 1))) (.var 2))       .nil)       .nil)     .nil))   (.cons (.ret (.tup (.cons (.var 1) (.cons (.var 2) (.cons (.var 3) (.cons (.var 4) .nil))))))   .nil)))) { nx := fun x μ' => rtD μ Q D.non μ', rt := rtD μ Q } [some (.cel 0), some (.int a), some (.int b'), some (.int c), some (.int d'), none, none] μ' := by
      intro b' d' hb0 hd0 hb' hd'
      rw [wS1]; simp [wS, wE, wEs, wT, wI, wO, wF, ofE, wCmp, opCmp, setsD]
      refine H14 _ _ _ hu' (by decide) (by decide) fun r μ2 hu2 _ _ => ?_
      rw [wS1]; simp [wS, wE, wEs, wT, wI, wO, wF, ofE, wCmp, opCmp, setsD]
      have ml6 : ∀ i : Int, CMul i 6 ∨ CMulW i 6 := fun i => .inl (.inr ⟨by decide, by decide⟩)
      split
      · rw [wS1]
        simp [wS, wE, ml6]
        rw [wS1]
        simp [wS, wE, wEs]
        exact ⟨line_le (by decide), rt_here (hq _ _ _ _ _ hu2 hb0 (by omega) (by omega) (by omega) (by omega) (by omega))⟩
      · rw [wS1]
        simp [wS, wE, wT, wCmp, opCmp]
        split
        · rw [wS1]
          simp [wS, wE]
          rw [wS1]
          simp [wS, wE, wEs]
          exact ⟨line_le (by decide), rt_here (hq _ _ _ _ _ hu2 hb0 (by omega) (by omega) (by omega) (by omega) (by omega))⟩
        · rw [wS1]
          simp [wS, wE, wEs]
          exact ⟨line_le (by decide), rt_here (hq _ _ _ _ _ hu2 hb0 (by omega) (by omega) (by omega) (by omega) (by omega))⟩
    simp only [wS, wE, wT, wCmp, opCmp]
    simp
    by_cases e1 : b = 0 <;> by_cases e2 : d = 0 <;> simp [e1, e2]
    · exact key 1 (-3) (by decide) (by decide) (by omega) (by omega)
    · exact key 1 d (by decide) e2 (by omega) (by omega)
    · exact key b (-3) e1 (by decide) (by omega) (by omega)
    · exact key b d e1 e2 (by omega) (by omega)
end
end K00

set_option Elab.async false
set_option linter.all false
set_option maxRecDepth 100000
namespace K00
open PySem L2 Rf
section
variable {Γ : Tab} {μ : M} {Q : WQ}
@[simp] theorem fr0 {p q : Int} : opIdx (fr p q) (.int 0) μ Q = Q (.int p) μ := by simp [fr]
@[simp] theorem fr1 {p q : Int} : opIdx (fr p q) (.int 1) μ Q = Q (.int q) μ := by simp [fr]
theorem low_fr {t b : Int} (hb : 1 ≤ b) (h1 : b < 2 ^ 62) (h2 : -(2 ^ 62) < t) (h3 : t < 2 ^ 62) : ∃ p q, lowD t b = fr p q ∧ Fr p q := by
  have p := g1 (t := t) hb
  have q := g2 (t := t) hb
  refine ⟨_, _, rfl, ?_, ?_, ?_, ?_, ?_⟩
  · have : gg t b ∣ b := by
      have := Nat.gcd_dvd_right t.natAbs b.natAbs
      exact Int.ofNat_dvd_left.mpr this
    obtain ⟨k, hk⟩ := this
    have : b / gg t b = k := Int.ediv_eq_of_eq_mul_right (by omega) hk
    rw [this]
    by_cases hk0 : k ≤ 0
    · exfalso
      have : gg t b * k ≤ 0 := Int.mul_nonpos_of_nonneg_of_nonpos (by omega) hk0
      rw [← hk] at this
      omega
    · omega
  · exact Int.lt_of_le_of_lt (Int.ediv_le_self _ (by omega)) h1
  · have : t / gg t b * gg t b + t % gg t b = t := by rw [Int.mul_comm]; exact Int.mul_ediv_add_emod t (gg t b)
    by_cases ht : 0 ≤ t
    · have := Int.ediv_nonneg ht (by omega : 0 ≤ gg t b)
      omega
    · have h5 : t ≤ t / gg t b := by
        rw [Int.le_ediv_iff_mul_le (by omega)]
        have : t * gg t b ≤ t * 1 := Int.mul_le_mul_of_nonpos_left (by omega) (by omega)
        omega
      omega
  · by_cases ht : 0 ≤ t
    · exact Int.lt_of_le_of_lt (Int.ediv_le_self _ ht) h3
    · have : t / gg t b < 0 := Int.ediv_neg_of_neg_of_pos (by omega) (by omega)
      omega
  · have hpos : 0 < Nat.gcd t.natAbs b.natAbs := Nat.gcd_pos_of_pos_right _ (by omega)
    have hd1 : gg t b ∣ t := Int.ofNat_dvd_left.mpr (Nat.gcd_dvd_left _ _)
    have hd2 : gg t b ∣ b := Int.ofNat_dvd_left.mpr (Nat.gcd_dvd_right _ _)
    have e1 : (t / gg t b).natAbs = t.natAbs / Nat.gcd t.natAbs b.natAbs := by
      rw [Int.natAbs_ediv_of_dvd hd1]; rfl
    have e2 : (b / gg t b).natAbs = b.natAbs / Nat.gcd t.natAbs b.natAbs := by
      rw [Int.natAbs_ediv_of_dvd hd2]; rfl
    rw [e1, e2]
    exact Nat.gcd_div_gcd_div_gcd_of_pos_right (by omega)
theorem red_fr {t b : Int} (hb : b ≠ 0) (h0 : -(2 ^ 62) < b) (h1 : b < 2 ^ 62) (h2 : -(2 ^ 62) < t) (h3 : t < 2 ^ 62) : ∃ p q, redD t b = fr p q ∧ Fr p q := by
  unfold redD
  split
  · exact low_fr (by omega) (by omega) (by omega) (by omega)
  · exact low_fr (by omega) (by omega) (by omega) (by omega)
theorem fr_uniq {p q r s : Int} (h1 : Fr p q) (h2 : Fr r s) (h : p * s = r * q) : p = r ∧ q = s := by
  obtain ⟨a1, _, _, _, a5⟩ := h1
  obtain ⟨b1, _, _, _, b5⟩ := h2
  have hn : p.natAbs * s.natAbs = r.natAbs * q.natAbs := by rw [← Int.natAbs_mul, ← Int.natAbs_mul, h]
  have d1 : q.natAbs ∣ s.natAbs := by
    have : q.natAbs ∣ p.natAbs * s.natAbs := ⟨r.natAbs, by rw [hn, Nat.mul_comm]⟩
    exact Nat.Coprime.dvd_of_dvd_mul_left (by rw [Nat.Coprime, Nat.gcd_comm]; exact a5) this
  have d2 : s.natAbs ∣ q.natAbs := by
    have : s.natAbs ∣ r.natAbs * q.natAbs := ⟨p.natAbs, by rw [← hn, Nat.mul_comm]⟩
    exact Nat.Coprime.dvd_of_dvd_mul_left (by rw [Nat.Coprime, Nat.gcd_comm]; exact b5) this
  have e : q.natAbs = s.natAbs := Nat.dvd_antisymm d1 d2
  have e : q = s := by omega
  subst e
  exact ⟨Int.eq_of_mul_eq_mul_right (by omega) h, rfl⟩
theorem red_low {t b : Int} (h : 0 < b) : redD t b = lowD t b := by
  unfold redD
  rw [if_neg (by omega)]
theorem fr_mul {p q r s : Int} (h1 : Fr p q) (h2 : Fr r s) : 0 < q * s ∧ (q * s).natAbs < 2 ^ 125 ∧ (p * s + r * q).natAbs < 2 ^ 125 ∧ (p * r).natAbs < 2 ^ 125 := by
  obtain ⟨a1, a2, a3, a4, a5⟩ := h1
  obtain ⟨b1, b2, b3, b4, b5⟩ := h2
  have m : ∀ i j : Int, i.natAbs ≤ 2 ^ 62 → j.natAbs ≤ 2 ^ 62 → (i * j).natAbs ≤ 2 ^ 124 := fun i j hi hj => by
    rw [Int.natAbs_mul]
    exact Nat.le_trans (Nat.mul_le_mul hi hj) (by decide)
  have m1 := m q s (by omega) (by omega)
  have m2 := m p r (by omega) (by omega)
  have m3' : (p * s).natAbs ≤ 2 ^ 124 - 1 := by
    rw [Int.natAbs_mul]
    exact Nat.le_trans (Nat.mul_le_mul (by omega : p.natAbs ≤ 2 ^ 62 - 1) (by omega : s.natAbs ≤ 2 ^ 62 - 1)) (by decide +kernel)
  have m4' := m r q (by omega) (by omega)
  exact ⟨Int.mul_pos (by omega) (by omega), by omega, by omega, by omega⟩
theorem sm_fr {n : Nat} {p q : Int} : Sm (n + 2) (fr p q) := by simp [Sm, fr]
theorem sm_low {n : Nat} {p q : Int} : Sm (n + 2) (lowD p q) := by simp [Sm, lowD]

theorem sm_mono : ∀ {n j : Nat} {d : D}, Sm n d → Sm (j + n) d
  | 0, j, d, h => h.elim
  | n + 1, j, .non, h => trivial
  | n + 1, j, .bl _, h => trivial
  | n + 1, j, .int _, h => trivial
  | n + 1, j, .tup xs, h => ⟨h.1, fun x hx => sm_mono (h.2 x hx)⟩
  | n + 1, j, .lst xs, h => ⟨h.1, fun x hx => sm_mono (h.2 x hx)⟩
  | n + 1, j, .str _, h => h.elim
  | n + 1, j, .ty _, h => h.elim
  | n + 1, j, .scr _, h => h.elim
  | n + 1, j, .cel _, h => h.elim
theorem ord1 {c : Prop} [Decidable c] {A B : Int} (h : c ↔ A = B) : (if c then (0 : Int) else if A < B then -1 else 1) = if A - B < 0 then -1 else if B < A then 1 else 0 := by
  by_cases hc : c
  · have e := h.mp hc
    rw [if_pos hc]
    repeat' split
    all_goals omega
  · have e : ¬ A = B := fun x => hc (h.mpr x)
    rw [if_neg hc]
    repeat' split
    all_goals omega
theorem ord2 {c : Prop} [Decidable c] {A B : Int} (h : c ↔ A = B) : (if c then (0 : Int) else if B < A then -1 else 1) = -(if A - B < 0 then -1 else if B < A then 1 else 0) := by
  by_cases hc : c
  · have e := h.mp hc
    rw [if_pos hc]
    repeat' split
    all_goals omega
  · have e : ¬ A = B := fun x => hc (h.mpr x)
    rw [if_neg hc]
    repeat' split
    all_goals omega
theorem b19 {ns : List Int} (hns : ns.length ≤ 63) (H : ∀ f ds μ (P : WQ), f < 19 → sp 4 f ds μ P → Γ f ds μ P) (hq : ∀ μ', Q (.bl true) μ') : wDef Γ 17 ir_law [.scr (ns.map .int)] [] Q := by
  have H13 := H 13
  have H15 : ∀ (d : D) (μ : M) (P : WQ), Sm 4 d → P (.bl true) μ → Γ 15 [d, d] μ P := fun d μ P h1 h2 => H 15 _ _ _ (by decide) ⟨d, rfl, h1, h2⟩
  have H15' : ∀ (d e : D) (μ : M) (P : WQ), d = e → Sm 4 d → P (.bl true) μ → Γ 15 [d, e] μ P := fun d e μ P h h1 h2 => h ▸ H15 d μ P h1 h2
  have H16 : ∀ (t b : Int) (μ : M) (P : WQ), b ≠ 0 → t.natAbs < 2 ^ 125 → b.natAbs < 2 ^ 125 → P (redD t b) μ → Γ 16 [.int t, .int b] μ P := fun t b μ P h1 h2 h3 h4 => H 16 _ _ _ (by decide) ⟨t, b, rfl, h1, h2, h3, h4⟩
  have H8 : ∀ (t b : Int) (μ : M) (P : WQ), b ≠ 0 → -(2 ^ 62) < b → b < 2 ^ 62 → P (redD t b) μ → Γ 8 [.int t, .int b] μ P := fun t b μ P h1 h2 h3 h4 => H 8 _ _ _ (by decide) ⟨t, b, rfl, h1, h2, h3, h4⟩
  have H9 : ∀ (a b c d : Int) (μ : M) (P : WQ), Fr a b → Fr c d → P (lowD (a * d + c * b) (b * d)) μ → Γ 9 [fr a b, fr c d] μ P := fun a b c d μ P h1 h2 h3 => H 9 _ _ _ (by decide) ⟨a, b, c, d, rfl, h1, h2, h3⟩
  have H10 : ∀ (a b c d : Int) (μ : M) (P : WQ), Fr a b → Fr c d → P (lowD (a * c) (b * d)) μ → Γ 10 [fr a b, fr c d] μ P := fun a b c d μ P h1 h2 h3 => H 10 _ _ _ (by decide) ⟨a, b, c, d, rfl, h1, h2, h3⟩
  have H11 : ∀ (a b c d : Int) (μ : M) (P : WQ), Fr a b → Fr c d → P (.int (if a = c ∧ b = d then 0 else if a * d < c * b then -1 else 1)) μ → Γ 11 [fr a b, fr c d] μ P := fun a b c d μ P h1 h2 h3 => H 11 _ _ _ (by decide) ⟨a, b, c, d, rfl, h1, h2, h3⟩
  have H12 : ∀ (a b : Int) (μ : M) (P : WQ), Fr a b → P (.int (a / b)) μ → Γ 12 [fr a b] μ P := fun a b μ P h1 h3 => H 12 _ _ _ (by decide) ⟨a, b, rfl, h1, h3⟩
  have H6 : ∀ (x : D) (μ : M) (P : WQ), okF x = true → P (.bl (isFr x)) μ → Γ 6 [x] μ P := fun x μ P h1 h3 => H 6 _ _ _ (by decide) ⟨x, rfl, h1, h3⟩
  have H14 : ∀ (many : Int) (μ : M) (P : WQ), UrnOk μ → 0 < many → many < 2 ^ 60 → (∀ r μ', UrnOk μ' → 0 ≤ r → r < many → P (.int r) μ') → Γ 14 [.cel 0, .int many] μ P := fun many μ P h1 h2 h3 h4 => H 14 _ _ _ (by decide) ⟨many, rfl, h1, h2, h3, h4⟩
  have H18 : ∀ (μ : M) (P : WQ), UrnOk μ → (∀ a b c d μ', UrnOk μ' → b ≠ 0 → d ≠ 0 → (-(2 ^ 60) < a ∧ a < 2 ^ 60) → (-(2 ^ 60) < b ∧ b < 2 ^ 60) → (-(2 ^ 60) < c ∧ c < 2 ^ 60) → (-(2 ^ 60) < d ∧ d < 2 ^ 60) → P (.tup [.int a, .int b, .int c, .int d]) μ') → Γ 18 [.cel 0] μ P := fun μ P h1 h2 => H 18 _ _ _ (by decide) ⟨rfl, h1, h2⟩
  have l2 : ∀ n : Nat, n ≤ 100 → n ≤ sizeLine := fun n h => line_le (by omega)
  simp only [wDef, ir_law, startD]
  rw [wS1]; simp [wS, wE, wEs, wT, wI, wO, wF, ofE, wCmp, opCmp, setsD]
  refine H13 _ _ _ (by decide) ⟨ns, rfl, rfl, line_le (by omega), fun μ1 hu1 => ?_⟩
  simp
  rw [wS1]; simp [wS, wE, wEs, wT, wI, wO, wF, ofE, wCmp, opCmp, setsD]
  refine ⟨⟨by decide, by decide⟩, fun _ ρ μ' => UrnOk μ' ∧ ∃ o2 o3 o4 o5 o6 o7 o8 o9 o10 o11 o12 o13 o14 o15 o16, ρ = [some (.scr (ns.map .int)), some (.cel 0), o2, o3, o4, o5, o6, o7, o8, o9, o10, o11, o12, o13, o14, o15, o16], ⟨hu1, _, _, _, _, _, _, _, _, _, _, _, _, _, _, _, rfl⟩, fun _ _ _ _ _ _ h => (by cases h), ?_, ?_⟩
  case refine_2 =>
    rintro ρ μ2 ⟨hu2, o2, o3, o4, o5, o6, o7, o8, o9, o10, o11, o12, o13, o14, o15, o16, rfl⟩
    rw [wS1]; simp [wS, wE, wEs, wT, wI, wO, wF, ofE, wCmp, opCmp, setsD]
    exact rt_here (hq _)
  rintro i x ρ μ2 hx ⟨hu2, o2, o3, o4, o5, o6, o7, o8, o9, o10, o11, o12, o13, o14, o15, o16, rfl⟩
  refine ⟨_, rfl, ?_⟩
  rw [wS1]; simp [wS, wE, wEs, wT, wI, wO, wF, ofE, wCmp, opCmp, setsD]
  refine H18 _ _ hu2 fun a b c d μ3 hu3 hb hd ⟨ha0, ha1⟩ ⟨hb0, hb1⟩ ⟨hc0, hc1⟩ ⟨hd0, hd1⟩ => ?_
  simp [setsD]
  obtain ⟨p, q, ex, fx⟩ := red_fr (t := a) hb (by omega) (by omega) (by omega) (by omega)
  obtain ⟨r, s, ey, fy⟩ := red_fr (t := c) hd (by omega) (by omega) (by omega) (by omega)
  rw [wS1]; simp [wS, wE, wEs, wT, wI, wO, wF, ofE, wCmp, opCmp, setsD]
  refine H16 _ _ _ _ hb (by omega) (by omega) ?_
  refine H16 _ _ _ _ hd (by omega) (by omega) ?_
  rw [ex, ey]
  rw [wS1]; simp [wS, wE, wEs, wT, wI, wO, wF, ofE, wCmp, opCmp, setsD]
  refine H8 _ _ _ _ hb (by omega) (by omega) ?_
  simp [permD]
  refine H8 _ _ _ _ hd (by omega) (by omega) ?_
  rw [ex, ey]
  refine new_l (l2 _ (by simp)) (new_l (l2 _ (by simp)) (H15 _ _ _ (by simp [Sm, sm_fr]) ?_))
  simp
  obtain ⟨u1, u2, u3, u4, u5⟩ := id fx
  obtain ⟨v1, v2, v3, v4, v5⟩ := id fy
  obtain ⟨w1, w2, w3, w4⟩ := fr_mul fx fy
  rw [wS1]; simp [wS, wE, wEs, wT, wI, wO, wF, ofE, wCmp, opCmp, setsD]
  refine ⟨ml ⟨u3, u4⟩, ml ⟨v3, v4⟩, ml ⟨by omega, u2⟩, ?_⟩
  refine H16 _ _ _ _ (by omega) (by omega) (by omega) ?_
  refine ⟨ml ⟨u3, u4⟩, ml ⟨by omega, u2⟩, ?_⟩
  refine H16 _ _ _ _ (by omega) (by omega) (by omega) ?_
  rw [red_low w1, red_low w1]
  rw [wS1]; simp [wS, wE, wEs, wT, wI, wO, wF, ofE, wCmp, opCmp, setsD]
  refine H9 _ _ _ _ _ _ fx fy ?_
  simp [permD]
  refine H9 _ _ _ _ _ _ fy fx ?_
  rw [show r * q + p * s = p * s + r * q by omega, Int.mul_comm s q]
  refine new_l (l2 _ (by simp)) (new_l (l2 _ (by simp)) (H15 _ _ _ (by simp [Sm, sm_low]) ?_))
  simp
  rw [wS1]; simp [wS, wE, wEs, wT, wI, wO, wF, ofE, wCmp, opCmp, setsD]
  refine H10 _ _ _ _ _ _ fx fy ?_
  simp [permD]
  refine H10 _ _ _ _ _ _ fy fx ?_
  rw [Int.mul_comm r p, Int.mul_comm s q]
  refine new_l (l2 _ (by simp)) (new_l (l2 _ (by simp)) (H15 _ _ _ (by simp [Sm, sm_low]) ?_))
  simp
  rw [wS1]; simp [wS, wE, wEs, wT, wI, wO, wF, ofE, wCmp, opCmp, setsD]
  refine ⟨ml ⟨u3, u4⟩, ml ⟨v3, v4⟩, ?_⟩
  refine set_val (.int (if p * s - r * q < 0 then -1 else if r * q < p * s then 1 else 0)) (fun P hP => ?_) ?_
  · simp [wE, wT, wCmp, opCmp]
    split
    · rename_i h1; rw [if_pos h1] at hP; exact hP
    · rename_i h1
      rw [if_neg h1] at hP
      split
      · rename_i h2; rw [if_pos h2] at hP; exact hP
      · rename_i h2; rw [if_neg h2] at hP; exact hP
  simp
  rw [wS1]; simp [wS, wE, wEs, wT, wI, wO, wF, ofE, wCmp, opCmp, setsD]
  refine H11 _ _ _ _ _ _ fx fy ?_
  simp [permD]
  refine H11 _ _ _ _ _ _ fy fx ?_
  refine H11 _ _ _ _ _ _ fx fx ?_
  refine new_l (l2 _ (by simp)) (new_l (l2 _ (by simp)) (H15' _ _ _ _ ?_ (by simp [Sm]) ?_))
  · have k1 : p = r ∧ q = s ↔ p * s = r * q := ⟨by rintro ⟨rfl, rfl⟩; rfl, fun h => fr_uniq fx fy h⟩
    have k2 : r = p ∧ s = q ↔ p * s = r * q := ⟨by rintro ⟨rfl, rfl⟩; rfl, fun h => (fr_uniq fx fy h).imp Eq.symm Eq.symm⟩
    rw [ord1 k1, ord2 k2]
    simp
  simp
  rw [wS1]; simp [wS, wE, wEs, wT, wI, wO, wF, ofE, wCmp, opCmp, setsD]
  refine H12 _ _ _ _ fx ?_
  rw [wS1]; simp [wS, wE, wEs, wT, wI, wO, wF, ofE, wCmp, opCmp, setsD]
  have em1 := Int.mul_ediv_add_emod p q
  have em2 := Int.emod_nonneg p (b := q) (by omega)
  have em3 := Int.emod_lt_of_pos p (b := q) (by omega)
  rw [Int.mul_comm q] at em1
  refine ⟨mr ⟨by omega, u2⟩, ?_⟩
  rw [if_pos (by omega), if_pos (by omega)]
  rw [wS1]; simp [wS, wE, wEs, wT, wI, wO, wF, ofE, wCmp, opCmp, setsD]
  refine H12 _ _ _ _ fy ?_
  refine H6 _ _ _ rfl ?_
  simp [permD]
  refine H6 _ _ _ rfl ?_
  rw [isFr_fr fx, isFr_fr fy]
  refine new_l (l2 _ (by simp)) ?_
  refine ⟨dv (by omega) (by omega), ?_⟩
  refine new_l (l2 _ (by simp)) (H15 _ _ _ (by simp [Sm]) ?_)
  simp
  rw [wS1]; simp [wS, wE, wEs, wT, wI, wO, wF, ofE, wCmp, opCmp, setsD]
  refine H14 _ _ _ hu3 (by decide) (by decide) fun k μ4 hu4 hk0 hk1 => ?_
  simp only [r_addI, fr]
  rw [wS1]; simp [wS, wE, wEs, wT, wI, wO, wF, ofE, wCmp, opCmp, setsD]
  refine ⟨ml ⟨u3, u4⟩, ml ⟨by omega, u2⟩, new_l (l2 _ (by simp)) ⟨l2 _ (by decide), l2 _ (by decide), ?_⟩⟩
  refine ⟨by show ¬ (HT.sIx 2 0 none = 0 ∧ HT.sIx 2 2 (some 1) = 2); decide, ?_⟩
  show newL [D.tup [D.int (p * (2 + k)), D.int (q * (2 + k))], D.tup [D.int (-p), D.int (-q)], D.tup [D.int p, D.int 0], .lst [.int p, .int q], D.tup [D.int p, D.int q, D.int 1], .tup [.int p], D.tup [D.tup [D.int p, D.int q], D.tup [D.int r, D.int s]]] μ4 _
  refine new_l (l2 _ (by simp)) ?_
  rw [wS1]; simp [wS, wEs, wE, wT, ofE, wI, srcOf]
  refine lc_pure (fun n h => by cases h) (by simp; exact l2 _ (by decide)) (fun _ => .bl false) ?_ ?_
  · intro j x hx
    refine ⟨_, rfl, fun P hP => ?_⟩
    simp [wipeD]
    have hxm : x ∈ _ := List.mem_of_getElem? hx
    have ok : okF x = true ∧ isFr x = false := by
      simp at hxm
      rcases hxm with rfl | rfl | rfl | rfl | rfl | rfl | rfl
      · refine ⟨rfl, ?_⟩
        have e : Nat.gcd (p * (2 + k)).natAbs (q * (2 + k)).natAbs = (2 + k).natAbs := by
          rw [Int.natAbs_mul, Int.natAbs_mul, Nat.gcd_mul_right, u5, Nat.one_mul]
        simp [isFr, e]
        omega
      · refine ⟨rfl, ?_⟩
        simp [isFr]
        omega
      · refine ⟨rfl, ?_⟩
        simp [isFr]
      all_goals exact ⟨rfl, rfl⟩
    exact H6 _ _ _ ok.1 (ok.2 ▸ hP)
  refine new_l (l2 _ (by simp)) ?_
  refine lc_pure (fun n h => by cases h) (by simp; exact l2 _ (by decide)) (fun _ => .bl false) ?_ ?_
  · intro j x hx
    exact ⟨_, rfl, fun P hP => hP⟩
  refine new_l (l2 _ (by simp)) ?_
  simp
  refine H15 _ _ _ (by simp [Sm]) ?_
  simp
  exact hu4
end
theorem T_body : ∀ k i d ds μ Q, Ds[i]? = some d → T (k + 1) i ds μ Q → wDef (T k) d.N.length d.ir ds μ Q := by
  intro k i d ds μ Q hd h
  obtain ⟨hl, h⟩ := h
  by_cases hi : i < 20
  · have : i = 0 ∨ i = 1 ∨ i = 2 ∨ i = 3 ∨ i = 4 ∨ i = 5 ∨ i = 6 ∨ i = 7 ∨ i = 8 ∨ i = 9 ∨ i = 10 ∨ i = 11 ∨ i = 12 ∨ i = 13 ∨ i = 14 ∨ i = 15 ∨ i = 16 ∨ i = 17 ∨ i = 18 ∨ i = 19 := by omega
    have H1 : 2 ≤ k + 1 → ∀ t b (P : WQ), 1 ≤ b → b < 2 ^ 200 → P (lowD t b) μ → T k 1 [.int t, .int b] μ P := fun hk t b P h1 h2 h3 => ⟨by simp [lv]; omega, t, b, rfl, h1, h2, h3⟩
    have H0 : 2 ≤ k + 1 → ∀ i (P : WQ), P (.bl true) μ → T k 0 [.int i] μ P := fun hk i P h => ⟨by simp [lv]; omega, .inl ⟨i, rfl, h⟩⟩
    have H0' : 2 ≤ k + 1 → ∀ ds (P : WQ), sp 1 0 ds μ P → T k 0 ds μ P := fun hk i P h => ⟨by simp [lv]; omega, h⟩
    have H6 : 3 ≤ k + 1 → ∀ x (P : WQ), okF x = true → P (.bl (isFr x)) μ → T k 6 [x] μ P := fun hk x P h1 h2 => ⟨by simp [lv]; omega, x, rfl, h1, h2⟩
    have H7 : 4 ≤ k + 1 → ∀ a b (P : WQ), Fr a b → P .non μ → T k 7 [fr a b] μ P := fun hk a b P h1 h2 => ⟨by simp [lv]; omega, a, b, rfl, h1, h2⟩
    have H14 : 2 ≤ k + 1 → ∀ (many : Int) (μ : M) (P : WQ), UrnOk μ → 0 < many → many < 2 ^ 60 → (∀ r μ', UrnOk μ' → 0 ≤ r → r < many → P (.int r) μ') → T k 14 [.cel 0, .int many] μ P := fun hk many μ P h1 h2 h3 h4 => ⟨by simp [lv]; omega, many, rfl, h1, h2, h3, h4⟩
    have H17 : 3 ≤ k + 1 → ∀ (μ : M) (P : WQ), UrnOk μ → (∀ r μ', UrnOk μ' → -(10 ^ 15) ≤ r → r ≤ 10 ^ 15 → P (.int r) μ') → T k 17 [.cel 0] μ P := fun hk μ P h1 h2 => ⟨by simp [lv]; omega, rfl, h1, h2⟩
    rcases this with rfl | rfl | rfl | rfl | rfl | rfl | rfl | rfl | rfl | rfl | rfl | rfl | rfl | rfl | rfl | rfl | rfl | rfl | rfl | rfl <;> cases hd <;> simp only [lv] at hl
    · rcases h with ⟨_, rfl, h⟩ | ⟨_, rfl, h⟩
      · exact b0i h
      · exact b0t h
    · obtain ⟨t, b, rfl, h1, h2, h3⟩ := h
      exact b1 h1 h2 h3
    · obtain ⟨a, b, c, d, rfl, h1, h2, h3⟩ := h
      exact b2 (H1 hl) h1 h2 h3
    · obtain ⟨a, b, c, d, rfl, h1, h2, h3⟩ := h
      exact b3 (H1 hl) h1 h2 h3
    · obtain ⟨a, b, c, d, rfl, h1, h2, h3⟩ := h
      exact b4 h1 h2 h3
    · obtain ⟨a, b, rfl, h1, h3⟩ := h
      exact b5 h1 h3
    · obtain ⟨x, rfl, h1, h3⟩ := h
      exact b6 (H0' hl) h1 h3
    · obtain ⟨a, b, rfl, h1, h3⟩ := h
      exact b7 (H6 hl) h1 h3
    · obtain ⟨t, b, rfl, h1, h2, h3, h4⟩ := h
      exact b8 (H0 hl) (H1 hl) h1 h2 h3 h4
    · obtain ⟨a, b, c, d, rfl, h1, h2, h3⟩ := h
      exact b9 (H7 hl) (fun a b c d P h1 h2 h3 => ⟨by simp [lv]; omega, a, b, c, d, rfl, h1, h2, h3⟩) h1 h2 h3
    · obtain ⟨a, b, c, d, rfl, h1, h2, h3⟩ := h
      exact b10 (H7 hl) (fun a b c d P h1 h2 h3 => ⟨by simp [lv]; omega, a, b, c, d, rfl, h1, h2, h3⟩) h1 h2 h3
    · obtain ⟨a, b, c, d, rfl, h1, h2, h3⟩ := h
      exact b11 (H7 hl) (fun a b c d P h1 h2 h3 => ⟨by simp [lv]; omega, a, b, c, d, rfl, h1, h2, h3⟩) h1 h2 h3
    · obtain ⟨a, b, rfl, h1, h3⟩ := h
      exact b12 (H7 hl) (fun a b P h1 h3 => ⟨by simp [lv]; omega, a, b, rfl, h1, h3⟩) h1 h3
    · obtain ⟨ns, rfl, rfl, h1, h2⟩ := h
      exact b_urn h1 h2
    · obtain ⟨many, rfl, h1, h2, h3, h4⟩ := h
      exact b_pick h1 h2 h3 h4
    · obtain ⟨d, rfl, h1, h2⟩ := h
      exact b15 h1 (fun x hx P hP => by
        cases k with
        | zero => exact hx.elim
        | succ k => exact ⟨by simp [lv], x, rfl, hx, hP⟩) h2
    · obtain ⟨t, b, rfl, h1, h2, h3, h4⟩ := h
      exact b16 h1 h2 h3 h4
    · obtain ⟨rfl, h1, h2⟩ := h
      exact b17 h1 (H14 hl) h2
    · obtain ⟨rfl, h1, h2⟩ := h
      exact b18 h1 (H14 (by omega)) (H17 hl) h2
    · obtain ⟨ns, rfl, rfl, h1, h2⟩ := h
      refine b19 h1 (fun f ds μ P hf hs => ⟨?_, ?_⟩) h2
      · have : lv f ≤ 4 := by
          have : f = 0 ∨ f = 1 ∨ f = 2 ∨ f = 3 ∨ f = 4 ∨ f = 5 ∨ f = 6 ∨ f = 7 ∨ f = 8 ∨ f = 9 ∨ f = 10 ∨ f = 11 ∨ f = 12 ∨ f = 13 ∨ f = 14 ∨ f = 15 ∨ f = 16 ∨ f = 17 ∨ f = 18 := by omega
          rcases this with rfl | rfl | rfl | rfl | rfl | rfl | rfl | rfl | rfl | rfl | rfl | rfl | rfl | rfl | rfl | rfl | rfl | rfl | rfl <;> decide
        omega
      · obtain ⟨j, rfl⟩ : ∃ j, k = j + 4 := ⟨k - 4, by omega⟩
        by_cases h15 : f = 15
        · subst h15
          obtain ⟨d, rfl, h1, h2⟩ := hs
          exact ⟨d, rfl, sm_mono h1, h2⟩
        · have : sp (j + 4) f = sp 4 f := by
            unfold sp
            split <;> first | rfl | (exact absurd rfl h15)
          rw [this]; exact hs
  · exact (by
      have : Ds.length = 20 := rfl
      rw [List.getElem?_eq_none (by omega)] at hd
      cases hd)
theorem law_told (ns : List Int) (h : ns.length ≤ 63) : T LV 19 [.scr (ns.map .int)] [] fun d _ => d = .bl true := ⟨Nat.le_refl 5, ns, rfl, rfl, h, fun _ => rfl⟩
end K00

namespace K00
open PySem L2 Rf
set_option maxHeartbeats 0 in
theorem all_mk {l : PySem.W.OpenLaw} {w : World} {K : PySem.W.Frag} {h : Heap} {mg : Str → Option Value} {fa : Addr} (X : K.In h) (G : h.Ns mainGlobals mg) (hfa : mg "law" = some (.ref fa))
    {f0 : Addr} {od0 an0 : Option Addr} {sl0 : Array (Option Value)} {oc0 kV0 dc0 pm0 cd0 ct0 : Value}
    {f1 : Addr} {od1 an1 : Option Addr} {sl1 : Array (Option Value)} {oc1 kV1 dc1 pm1 cd1 ct1 : Value}
    {f2 : Addr} {od2 an2 : Option Addr} {sl2 : Array (Option Value)} {oc2 kV2 dc2 pm2 cd2 ct2 : Value}
    {f3 : Addr} {od3 an3 : Option Addr} {sl3 : Array (Option Value)} {oc3 kV3 dc3 pm3 cd3 ct3 : Value}
    {f4 : Addr} {od4 an4 : Option Addr} {sl4 : Array (Option Value)} {oc4 kV4 dc4 pm4 cd4 ct4 : Value}
    {f5 : Addr} {od5 an5 : Option Addr} {sl5 : Array (Option Value)} {oc5 kV5 dc5 pm5 cd5 ct5 : Value}
    {f6 : Addr} {od6 an6 : Option Addr} {sl6 : Array (Option Value)} {oc6 kV6 dc6 pm6 cd6 ct6 : Value}
    {f7 : Addr} {od7 an7 : Option Addr} {sl7 : Array (Option Value)} {oc7 kV7 dc7 pm7 cd7 ct7 : Value}
    {f8 : Addr} {od8 an8 : Option Addr} {sl8 : Array (Option Value)} {oc8 kV8 dc8 pm8 cd8 ct8 : Value}
    {f9 : Addr} {od9 an9 : Option Addr} {sl9 : Array (Option Value)} {oc9 kV9 dc9 pm9 cd9 ct9 : Value}
    {f10 : Addr} {od10 an10 : Option Addr} {sl10 : Array (Option Value)} {oc10 kV10 dc10 pm10 cd10 ct10 : Value}
    {f11 : Addr} {od11 an11 : Option Addr} {sl11 : Array (Option Value)} {oc11 kV11 dc11 pm11 cd11 ct11 : Value}
    {f12 : Addr} {od12 an12 : Option Addr} {sl12 : Array (Option Value)} {oc12 kV12 dc12 pm12 cd12 ct12 : Value}
    {f13 : Addr} {od13 an13 : Option Addr} {sl13 : Array (Option Value)} {oc13 kV13 dc13 pm13 cd13 ct13 : Value}
    {f14 : Addr} {od14 an14 : Option Addr} {sl14 : Array (Option Value)} {oc14 kV14 dc14 pm14 cd14 ct14 : Value}
    {f15 : Addr} {od15 an15 : Option Addr} {sl15 : Array (Option Value)} {oc15 kV15 dc15 pm15 cd15 ct15 : Value}
    {f16 : Addr} {od16 an16 : Option Addr} {sl16 : Array (Option Value)} {oc16 kV16 dc16 pm16 cd16 ct16 : Value}
    {f17 : Addr} {od17 an17 : Option Addr} {sl17 : Array (Option Value)} {oc17 kV17 dc17 pm17 cd17 ct17 : Value}
    {f18 : Addr} {od18 an18 : Option Addr} {sl18 : Array (Option Value)} {oc18 kV18 dc18 pm18 cd18 ct18 : Value}
    {f19 : Addr} {od19 an19 : Option Addr} {sl19 : Array (Option Value)} {oc19 kV19 dc19 pm19 cd19 ct19 : Value}
    (a0 : PySem.W.nsIn K mainGlobals "is_integer" = some (some (.ref f0))) (l0 : K.lookup f0 = some ⟨oc0, od0, .func (PySem.W.fnOf "is_integer" "is_integer" (defArgs d_is_integer.st) (defBody d_is_integer.st) (defScope d_is_integer.st) .none kV0 dc0 pm0 an0 cd0 ct0), sl0⟩) (c0 : PySem.W.codeIn K cd0 "is_integer" = true) (k0 : PySem.W.keepIn K (.ref f0) = true)
    (a1 : PySem.W.nsIn K mainGlobals "made" = some (some (.ref f1))) (l1 : K.lookup f1 = some ⟨oc1, od1, .func (PySem.W.fnOf "made" "made" (defArgs d_made.st) (defBody d_made.st) (defScope d_made.st) .none kV1 dc1 pm1 an1 cd1 ct1), sl1⟩) (c1 : PySem.W.codeIn K cd1 "made" = true) (k1 : PySem.W.keepIn K (.ref f1) = true)
    (a2 : PySem.W.nsIn K mainGlobals "plus" = some (some (.ref f2))) (l2 : K.lookup f2 = some ⟨oc2, od2, .func (PySem.W.fnOf "plus" "plus" (defArgs d_plus.st) (defBody d_plus.st) (defScope d_plus.st) .none kV2 dc2 pm2 an2 cd2 ct2), sl2⟩) (c2 : PySem.W.codeIn K cd2 "plus" = true) (k2 : PySem.W.keepIn K (.ref f2) = true)
    (a3 : PySem.W.nsIn K mainGlobals "scaled" = some (some (.ref f3))) (l3 : K.lookup f3 = some ⟨oc3, od3, .func (PySem.W.fnOf "scaled" "scaled" (defArgs d_scaled.st) (defBody d_scaled.st) (defScope d_scaled.st) .none kV3 dc3 pm3 an3 cd3 ct3), sl3⟩) (c3 : PySem.W.codeIn K cd3 "scaled" = true) (k3 : PySem.W.keepIn K (.ref f3) = true)
    (a4 : PySem.W.nsIn K mainGlobals "is_less" = some (some (.ref f4))) (l4 : K.lookup f4 = some ⟨oc4, od4, .func (PySem.W.fnOf "is_less" "is_less" (defArgs d_is_less.st) (defBody d_is_less.st) (defScope d_is_less.st) .none kV4 dc4 pm4 an4 cd4 ct4), sl4⟩) (c4 : PySem.W.codeIn K cd4 "is_less" = true) (k4 : PySem.W.keepIn K (.ref f4) = true)
    (a5 : PySem.W.nsIn K mainGlobals "whole_of" = some (some (.ref f5))) (l5 : K.lookup f5 = some ⟨oc5, od5, .func (PySem.W.fnOf "whole_of" "whole_of" (defArgs d_whole_of.st) (defBody d_whole_of.st) (defScope d_whole_of.st) .none kV5 dc5 pm5 an5 cd5 ct5), sl5⟩) (c5 : PySem.W.codeIn K cd5 "whole_of" = true) (k5 : PySem.W.keepIn K (.ref f5) = true)
    (a6 : PySem.W.nsIn K mainGlobals "is_fraction" = some (some (.ref f6))) (l6 : K.lookup f6 = some ⟨oc6, od6, .func (PySem.W.fnOf "is_fraction" "is_fraction" (defArgs d_is_fraction.st) (defBody d_is_fraction.st) (defScope d_is_fraction.st) .none kV6 dc6 pm6 an6 cd6 ct6), sl6⟩) (c6 : PySem.W.codeIn K cd6 "is_fraction" = true) (k6 : PySem.W.keepIn K (.ref f6) = true)
    (a7 : PySem.W.nsIn K mainGlobals "check_fraction" = some (some (.ref f7))) (l7 : K.lookup f7 = some ⟨oc7, od7, .func (PySem.W.fnOf "check_fraction" "check_fraction" (defArgs d_check_fraction.st) (defBody d_check_fraction.st) (defScope d_check_fraction.st) .none kV7 dc7 pm7 an7 cd7 ct7), sl7⟩) (c7 : PySem.W.codeIn K cd7 "check_fraction" = true) (k7 : PySem.W.keepIn K (.ref f7) = true)
    (a8 : PySem.W.nsIn K mainGlobals "fraction_of" = some (some (.ref f8))) (l8 : K.lookup f8 = some ⟨oc8, od8, .func (PySem.W.fnOf "fraction_of" "fraction_of" (defArgs d_fraction_of.st) (defBody d_fraction_of.st) (defScope d_fraction_of.st) .none kV8 dc8 pm8 an8 cd8 ct8), sl8⟩) (c8 : PySem.W.codeIn K cd8 "fraction_of" = true) (k8 : PySem.W.keepIn K (.ref f8) = true)
    (a9 : PySem.W.nsIn K mainGlobals "add" = some (some (.ref f9))) (l9 : K.lookup f9 = some ⟨oc9, od9, .func (PySem.W.fnOf "add" "add" (defArgs d_add.st) (defBody d_add.st) (defScope d_add.st) .none kV9 dc9 pm9 an9 cd9 ct9), sl9⟩) (c9 : PySem.W.codeIn K cd9 "add" = true) (k9 : PySem.W.keepIn K (.ref f9) = true)
    (a10 : PySem.W.nsIn K mainGlobals "multiply" = some (some (.ref f10))) (l10 : K.lookup f10 = some ⟨oc10, od10, .func (PySem.W.fnOf "multiply" "multiply" (defArgs d_multiply.st) (defBody d_multiply.st) (defScope d_multiply.st) .none kV10 dc10 pm10 an10 cd10 ct10), sl10⟩) (c10 : PySem.W.codeIn K cd10 "multiply" = true) (k10 : PySem.W.keepIn K (.ref f10) = true)
    (a11 : PySem.W.nsIn K mainGlobals "compare" = some (some (.ref f11))) (l11 : K.lookup f11 = some ⟨oc11, od11, .func (PySem.W.fnOf "compare" "compare" (defArgs d_compare.st) (defBody d_compare.st) (defScope d_compare.st) .none kV11 dc11 pm11 an11 cd11 ct11), sl11⟩) (c11 : PySem.W.codeIn K cd11 "compare" = true) (k11 : PySem.W.keepIn K (.ref f11) = true)
    (a12 : PySem.W.nsIn K mainGlobals "floor_of" = some (some (.ref f12))) (l12 : K.lookup f12 = some ⟨oc12, od12, .func (PySem.W.fnOf "floor_of" "floor_of" (defArgs d_floor_of.st) (defBody d_floor_of.st) (defScope d_floor_of.st) .none kV12 dc12 pm12 an12 cd12 ct12), sl12⟩) (c12 : PySem.W.codeIn K cd12 "floor_of" = true) (k12 : PySem.W.keepIn K (.ref f12) = true)
    (a13 : PySem.W.nsIn K mainGlobals "_law_urn" = some (some (.ref f13))) (l13 : K.lookup f13 = some ⟨oc13, od13, .func (PySem.W.fnOf "_law_urn" "_law_urn" (defArgs d__law_urn.st) (defBody d__law_urn.st) (defScope d__law_urn.st) .none kV13 dc13 pm13 an13 cd13 ct13), sl13⟩) (c13 : PySem.W.codeIn K cd13 "_law_urn" = true) (k13 : PySem.W.keepIn K (.ref f13) = true)
    (a14 : PySem.W.nsIn K mainGlobals "_law_pick" = some (some (.ref f14))) (l14 : K.lookup f14 = some ⟨oc14, od14, .func (PySem.W.fnOf "_law_pick" "_law_pick" (defArgs d__law_pick.st) (defBody d__law_pick.st) (defScope d__law_pick.st) .none kV14 dc14 pm14 an14 cd14 ct14), sl14⟩) (c14 : PySem.W.codeIn K cd14 "_law_pick" = true) (k14 : PySem.W.keepIn K (.ref f14) = true)
    (a15 : PySem.W.nsIn K mainGlobals "_law_same" = some (some (.ref f15))) (l15 : K.lookup f15 = some ⟨oc15, od15, .func (PySem.W.fnOf "_law_same" "_law_same" (defArgs d__law_same.st) (defBody d__law_same.st) (defScope d__law_same.st) .none kV15 dc15 pm15 an15 cd15 ct15), sl15⟩) (c15 : PySem.W.codeIn K cd15 "_law_same" = true) (k15 : PySem.W.keepIn K (.ref f15) = true)
    (a16 : PySem.W.nsIn K mainGlobals "_law_lowest" = some (some (.ref f16))) (l16 : K.lookup f16 = some ⟨oc16, od16, .func (PySem.W.fnOf "_law_lowest" "_law_lowest" (defArgs d__law_lowest.st) (defBody d__law_lowest.st) (defScope d__law_lowest.st) .none kV16 dc16 pm16 an16 cd16 ct16), sl16⟩) (c16 : PySem.W.codeIn K cd16 "_law_lowest" = true) (k16 : PySem.W.keepIn K (.ref f16) = true)
    (a17 : PySem.W.nsIn K mainGlobals "_law_integer" = some (some (.ref f17))) (l17 : K.lookup f17 = some ⟨oc17, od17, .func (PySem.W.fnOf "_law_integer" "_law_integer" (defArgs d__law_integer.st) (defBody d__law_integer.st) (defScope d__law_integer.st) .none kV17 dc17 pm17 an17 cd17 ct17), sl17⟩) (c17 : PySem.W.codeIn K cd17 "_law_integer" = true) (k17 : PySem.W.keepIn K (.ref f17) = true)
    (a18 : PySem.W.nsIn K mainGlobals "_law_two" = some (some (.ref f18))) (l18 : K.lookup f18 = some ⟨oc18, od18, .func (PySem.W.fnOf "_law_two" "_law_two" (defArgs d__law_two.st) (defBody d__law_two.st) (defScope d__law_two.st) .none kV18 dc18 pm18 an18 cd18 ct18), sl18⟩) (c18 : PySem.W.codeIn K cd18 "_law_two" = true) (k18 : PySem.W.keepIn K (.ref f18) = true)
    (a19 : PySem.W.nsIn K mainGlobals "law" = some (some (.ref f19))) (l19 : K.lookup f19 = some ⟨oc19, od19, .func (PySem.W.fnOf "law" "law" (defArgs d_law.st) (defBody d_law.st) (defScope d_law.st) .none kV19 dc19 pm19 an19 cd19 ct19), sl19⟩) (c19 : PySem.W.codeIn K cd19 "law" = true) (k19 : PySem.W.keepIn K (.ref f19) = true)
    (z0 : PySem.W.nsIn K mainGlobals "abs" = some none)
    (z1 : PySem.W.nsIn K mainGlobals "all" = some none)
    (z2 : PySem.W.nsIn K mainGlobals "bool" = some none)
    (z3 : PySem.W.nsIn K mainGlobals "int" = some none)
    (z4 : PySem.W.nsIn K mainGlobals "isinstance" = some none)
    (z5 : PySem.W.nsIn K mainGlobals "len" = some none)
    (z6 : PySem.W.nsIn K mainGlobals "list" = some none)
    (z7 : PySem.W.nsIn K mainGlobals "range" = some none)
    (z8 : PySem.W.nsIn K mainGlobals "str" = some none)
    (z9 : PySem.W.nsIn K mainGlobals "tuple" = some none)
    (zg : PySem.W.nsIn K mainGlobals "gcd" = some (some (.builtin "math.gcd")))
    : ∃ fd : FuncData, (∀ (s : Shared) (v : Value), BindsTo s fd ⟨[v], []⟩ [("script", v)]) ∧ ∀ base : Heap, K.In base → base.Ns mainGlobals mg → FnOk l.prog w K mg base CX0 LV fa fd ["script"] (lift K (T LV 19)) := by
  have e := hfa.symm.trans (PySem.W.mg_of X G a19)
  cases e
  have F0 := fun_mk (st := d_is_integer.st) l0 c0 k0
  have B0 : Binds K _ d_is_integer.ps [] := F0.binds (ps := d_is_integer.ps) fun _ _ _ _ _ _ us hl => match us, hl with | [_], _ => rfl
  have A0 : DefAt K mg KW 0 d_is_integer f0 _ := ⟨F0, PySem.W.mg_of X G a0, B0, fun n ks perm hm => by
    simp [KW] at hm⟩
  have F1 := fun_mk (st := d_made.st) l1 c1 k1
  have B1 : Binds K _ d_made.ps [] := F1.binds (ps := d_made.ps) fun _ _ _ _ _ _ us hl => match us, hl with | [_, _], _ => rfl
  have A1 : DefAt K mg KW 1 d_made f1 _ := ⟨F1, PySem.W.mg_of X G a1, B1, fun n ks perm hm => by
    simp [KW] at hm⟩
  have F2 := fun_mk (st := d_plus.st) l2 c2 k2
  have B2 : Binds K _ d_plus.ps [] := F2.binds (ps := d_plus.ps) fun _ _ _ _ _ _ us hl => match us, hl with | [_, _], _ => rfl
  have A2 : DefAt K mg KW 2 d_plus f2 _ := ⟨F2, PySem.W.mg_of X G a2, B2, fun n ks perm hm => by
    simp [KW] at hm⟩
  have F3 := fun_mk (st := d_scaled.st) l3 c3 k3
  have B3 : Binds K _ d_scaled.ps [] := F3.binds (ps := d_scaled.ps) fun _ _ _ _ _ _ us hl => match us, hl with | [_, _], _ => rfl
  have A3 : DefAt K mg KW 3 d_scaled f3 _ := ⟨F3, PySem.W.mg_of X G a3, B3, fun n ks perm hm => by
    simp [KW] at hm⟩
  have F4 := fun_mk (st := d_is_less.st) l4 c4 k4
  have B4 : Binds K _ d_is_less.ps [] := F4.binds (ps := d_is_less.ps) fun _ _ _ _ _ _ us hl => match us, hl with | [_, _], _ => rfl
  have A4 : DefAt K mg KW 4 d_is_less f4 _ := ⟨F4, PySem.W.mg_of X G a4, B4, fun n ks perm hm => by
    simp [KW] at hm⟩
  have F5 := fun_mk (st := d_whole_of.st) l5 c5 k5
  have B5 : Binds K _ d_whole_of.ps [] := F5.binds (ps := d_whole_of.ps) fun _ _ _ _ _ _ us hl => match us, hl with | [_], _ => rfl
  have A5 : DefAt K mg KW 5 d_whole_of f5 _ := ⟨F5, PySem.W.mg_of X G a5, B5, fun n ks perm hm => by
    simp [KW] at hm⟩
  have F6 := fun_mk (st := d_is_fraction.st) l6 c6 k6
  have B6 : Binds K _ d_is_fraction.ps [] := F6.binds (ps := d_is_fraction.ps) fun _ _ _ _ _ _ us hl => match us, hl with | [_], _ => rfl
  have A6 : DefAt K mg KW 6 d_is_fraction f6 _ := ⟨F6, PySem.W.mg_of X G a6, B6, fun n ks perm hm => by
    simp [KW] at hm
    rcases hm with ⟨rfl, rfl, rfl⟩
    · refine ⟨fun s us ws _ hl => ?_, fun r q => perm_rel r q⟩
      unfold permU at hl ⊢
      split at hl
      · rename_i hc
        rw [if_pos hc]
        exact match us, ws, hc with | [], [_], _ => .of_eq rfl
      · cases hl⟩
  have F7 := fun_mk (st := d_check_fraction.st) l7 c7 k7
  have B7 : Binds K _ d_check_fraction.ps [] := F7.binds (ps := d_check_fraction.ps) fun _ _ _ _ _ _ us hl => match us, hl with | [_], _ => rfl
  have A7 : DefAt K mg KW 7 d_check_fraction f7 _ := ⟨F7, PySem.W.mg_of X G a7, B7, fun n ks perm hm => by
    simp [KW] at hm⟩
  have F8 := fun_mk (st := d_fraction_of.st) l8 c8 k8
  have B8 : Binds K _ d_fraction_of.ps [] := F8.binds (ps := d_fraction_of.ps) fun _ _ _ _ _ _ us hl => match us, hl with | [_, _], _ => rfl
  have A8 : DefAt K mg KW 8 d_fraction_of f8 _ := ⟨F8, PySem.W.mg_of X G a8, B8, fun n ks perm hm => by
    simp [KW] at hm
    rcases hm with ⟨rfl, rfl, rfl⟩
    · refine ⟨fun s us ws _ hl => ?_, fun r q => perm_rel r q⟩
      unfold permU at hl ⊢
      split at hl
      · rename_i hc
        rw [if_pos hc]
        exact match us, ws, hc with | [], [_, _], _ => .of_eq rfl
      · cases hl⟩
  have F9 := fun_mk (st := d_add.st) l9 c9 k9
  have B9 : Binds K _ d_add.ps [] := F9.binds (ps := d_add.ps) fun _ _ _ _ _ _ us hl => match us, hl with | [_, _], _ => rfl
  have A9 : DefAt K mg KW 9 d_add f9 _ := ⟨F9, PySem.W.mg_of X G a9, B9, fun n ks perm hm => by
    simp [KW] at hm
    rcases hm with ⟨rfl, rfl, rfl⟩
    · refine ⟨fun s us ws _ hl => ?_, fun r q => perm_rel r q⟩
      unfold permU at hl ⊢
      split at hl
      · rename_i hc
        rw [if_pos hc]
        exact match us, ws, hc with | [], [_, _], _ => .of_eq rfl
      · cases hl⟩
  have F10 := fun_mk (st := d_multiply.st) l10 c10 k10
  have B10 : Binds K _ d_multiply.ps [] := F10.binds (ps := d_multiply.ps) fun _ _ _ _ _ _ us hl => match us, hl with | [_, _], _ => rfl
  have A10 : DefAt K mg KW 10 d_multiply f10 _ := ⟨F10, PySem.W.mg_of X G a10, B10, fun n ks perm hm => by
    simp [KW] at hm
    rcases hm with ⟨rfl, rfl, rfl⟩
    · refine ⟨fun s us ws _ hl => ?_, fun r q => perm_rel r q⟩
      unfold permU at hl ⊢
      split at hl
      · rename_i hc
        rw [if_pos hc]
        exact match us, ws, hc with | [], [_, _], _ => .of_eq rfl
      · cases hl⟩
  have F11 := fun_mk (st := d_compare.st) l11 c11 k11
  have B11 : Binds K _ d_compare.ps [] := F11.binds (ps := d_compare.ps) fun _ _ _ _ _ _ us hl => match us, hl with | [_, _], _ => rfl
  have A11 : DefAt K mg KW 11 d_compare f11 _ := ⟨F11, PySem.W.mg_of X G a11, B11, fun n ks perm hm => by
    simp [KW] at hm
    rcases hm with ⟨rfl, rfl, rfl⟩
    · refine ⟨fun s us ws _ hl => ?_, fun r q => perm_rel r q⟩
      unfold permU at hl ⊢
      split at hl
      · rename_i hc
        rw [if_pos hc]
        exact match us, ws, hc with | [], [_, _], _ => .of_eq rfl
      · cases hl⟩
  have F12 := fun_mk (st := d_floor_of.st) l12 c12 k12
  have B12 : Binds K _ d_floor_of.ps [] := F12.binds (ps := d_floor_of.ps) fun _ _ _ _ _ _ us hl => match us, hl with | [_], _ => rfl
  have A12 : DefAt K mg KW 12 d_floor_of f12 _ := ⟨F12, PySem.W.mg_of X G a12, B12, fun n ks perm hm => by
    simp [KW] at hm
    rcases hm with ⟨rfl, rfl, rfl⟩
    · refine ⟨fun s us ws _ hl => ?_, fun r q => perm_rel r q⟩
      unfold permU at hl ⊢
      split at hl
      · rename_i hc
        rw [if_pos hc]
        exact match us, ws, hc with | [], [_], _ => .of_eq rfl
      · cases hl⟩
  have F13 := fun_mk (st := d__law_urn.st) l13 c13 k13
  have B13 : Binds K _ d__law_urn.ps [] := F13.binds (ps := d__law_urn.ps) fun _ _ _ _ _ _ us hl => match us, hl with | [_], _ => rfl
  have A13 : DefAt K mg KW 13 d__law_urn f13 _ := ⟨F13, PySem.W.mg_of X G a13, B13, fun n ks perm hm => by
    simp [KW] at hm⟩
  have F14 := fun_mk (st := d__law_pick.st) l14 c14 k14
  have B14 : Binds K _ d__law_pick.ps [] := F14.binds (ps := d__law_pick.ps) fun _ _ _ _ _ _ us hl => match us, hl with | [_, _], _ => rfl
  have A14 : DefAt K mg KW 14 d__law_pick f14 _ := ⟨F14, PySem.W.mg_of X G a14, B14, fun n ks perm hm => by
    simp [KW] at hm⟩
  have F15 := fun_mk (st := d__law_same.st) l15 c15 k15
  have B15 : Binds K _ d__law_same.ps [] := F15.binds (ps := d__law_same.ps) fun _ _ _ _ _ _ us hl => match us, hl with | [_, _], _ => rfl
  have A15 : DefAt K mg KW 15 d__law_same f15 _ := ⟨F15, PySem.W.mg_of X G a15, B15, fun n ks perm hm => by
    simp [KW] at hm⟩
  have F16 := fun_mk (st := d__law_lowest.st) l16 c16 k16
  have B16 : Binds K _ d__law_lowest.ps [] := F16.binds (ps := d__law_lowest.ps) fun _ _ _ _ _ _ us hl => match us, hl with | [_, _], _ => rfl
  have A16 : DefAt K mg KW 16 d__law_lowest f16 _ := ⟨F16, PySem.W.mg_of X G a16, B16, fun n ks perm hm => by
    simp [KW] at hm⟩
  have F17 := fun_mk (st := d__law_integer.st) l17 c17 k17
  have B17 : Binds K _ d__law_integer.ps [] := F17.binds (ps := d__law_integer.ps) fun _ _ _ _ _ _ us hl => match us, hl with | [_], _ => rfl
  have A17 : DefAt K mg KW 17 d__law_integer f17 _ := ⟨F17, PySem.W.mg_of X G a17, B17, fun n ks perm hm => by
    simp [KW] at hm⟩
  have F18 := fun_mk (st := d__law_two.st) l18 c18 k18
  have B18 : Binds K _ d__law_two.ps [] := F18.binds (ps := d__law_two.ps) fun _ _ _ _ _ _ us hl => match us, hl with | [_], _ => rfl
  have A18 : DefAt K mg KW 18 d__law_two f18 _ := ⟨F18, PySem.W.mg_of X G a18, B18, fun n ks perm hm => by
    simp [KW] at hm⟩
  have F19 := fun_mk (st := d_law.st) l19 c19 k19
  have B19 : Binds K _ d_law.ps [] := F19.binds (ps := d_law.ps) fun _ _ _ _ _ _ us hl => match us, hl with | [_], _ => rfl
  have A19 : DefAt K mg KW 19 d_law fa _ := ⟨F19, PySem.W.mg_of X G a19, B19, fun n ks perm hm => by
    simp [KW] at hm⟩
  have bn : ∀ n ∈ BN, mg n = none := by
    intro n hn
    simp only [BN, List.mem_cons, List.not_mem_nil, or_false] at hn
    rcases hn with rfl | rfl | rfl | rfl | rfl | rfl | rfl | rfl | rfl | rfl
    · exact PySem.W.mg_none_of X G z0
    · exact PySem.W.mg_none_of X G z1
    · exact PySem.W.mg_none_of X G z2
    · exact PySem.W.mg_none_of X G z3
    · exact PySem.W.mg_none_of X G z4
    · exact PySem.W.mg_none_of X G z5
    · exact PySem.W.mg_none_of X G z6
    · exact PySem.W.mg_none_of X G z7
    · exact PySem.W.mg_none_of X G z8
    · exact PySem.W.mg_none_of X G z9
  refine ⟨PySem.W.fnOf "law" "law" (defArgs d_law.st) (defBody d_law.st) (defScope d_law.st) .none kV19 dc19 pm19 an19 cd19 ct19, fun s v => .of_eq rfl, fun base _ _ => all_ok' ds_ok bn (fun _ => PySem.W.mg_of X G zg) ?_ T_zero T_len T_body LV 19 d_law _ _ rfl A19⟩
  intro i d hd
  cases i with
  | zero => cases hd; exact ⟨_, _, A0⟩
  | succ i =>
  cases i with
  | zero => cases hd; exact ⟨_, _, A1⟩
  | succ i =>
  cases i with
  | zero => cases hd; exact ⟨_, _, A2⟩
  | succ i =>
  cases i with
  | zero => cases hd; exact ⟨_, _, A3⟩
  | succ i =>
  cases i with
  | zero => cases hd; exact ⟨_, _, A4⟩
  | succ i =>
  cases i with
  | zero => cases hd; exact ⟨_, _, A5⟩
  | succ i =>
  cases i with
  | zero => cases hd; exact ⟨_, _, A6⟩
  | succ i =>
  cases i with
  | zero => cases hd; exact ⟨_, _, A7⟩
  | succ i =>
  cases i with
  | zero => cases hd; exact ⟨_, _, A8⟩
  | succ i =>
  cases i with
  | zero => cases hd; exact ⟨_, _, A9⟩
  | succ i =>
  cases i with
  | zero => cases hd; exact ⟨_, _, A10⟩
  | succ i =>
  cases i with
  | zero => cases hd; exact ⟨_, _, A11⟩
  | succ i =>
  cases i with
  | zero => cases hd; exact ⟨_, _, A12⟩
  | succ i =>
  cases i with
  | zero => cases hd; exact ⟨_, _, A13⟩
  | succ i =>
  cases i with
  | zero => cases hd; exact ⟨_, _, A14⟩
  | succ i =>
  cases i with
  | zero => cases hd; exact ⟨_, _, A15⟩
  | succ i =>
  cases i with
  | zero => cases hd; exact ⟨_, _, A16⟩
  | succ i =>
  cases i with
  | zero => cases hd; exact ⟨_, _, A17⟩
  | succ i =>
  cases i with
  | zero => cases hd; exact ⟨_, _, A18⟩
  | succ i =>
  cases i with
  | zero => cases hd; exact ⟨_, _, A19⟩
  | succ i =>
  cases hd
end K00
open PySem PySem.W PyProof.Rows
set_option maxHeartbeats 0 in
theorem PySem.Challenge.cw_wholelines_k00_fractions_holds : PySem.Challenge.rw_wholelines_k00_fractions.Holds := by
  w_on; o_law; k_head; (case hw => w_witness2)
  k_fill
  refine L2.walk_of (l := PySem.Challenge.rw_wholelines_k00_fractions) (n := 63) (k := K00.LV) (x := "script") (CX := fun _ => L2.CX0) (sp := fun w => Rf.lift _ (K00.T K00.LV 19)) rfl (by decide) rfl ⟨rfl, by decide, by decide⟩ (fun w h Y => PySem.W.kIn_of Y) ?F (fun _ _ a ns hl _ hS => Rf.law_start (K00.law_told ns hl) hS) (fun _ _ _ _ _ h => h)
  case F =>
    intro w mg fa h KX G hmg
    refine' K00.all_mk KX G hmg ?a0 ?l0 ?c0 ?k0 ?a1 ?l1 ?c1 ?k1 ?a2 ?l2 ?c2 ?k2 ?a3 ?l3 ?c3 ?k3 ?a4 ?l4 ?c4 ?k4 ?a5 ?l5 ?c5 ?k5 ?a6 ?l6 ?c6 ?k6 ?a7 ?l7 ?c7 ?k7 ?a8 ?l8 ?c8 ?k8 ?a9 ?l9 ?c9 ?k9 ?a10 ?l10 ?c10 ?k10 ?a11 ?l11 ?c11 ?k11 ?a12 ?l12 ?c12 ?k12 ?a13 ?l13 ?c13 ?k13 ?a14 ?l14 ?c14 ?k14 ?a15 ?l15 ?c15 ?k15 ?a16 ?l16 ?c16 ?k16 ?a17 ?l17 ?c17 ?k17 ?a18 ?l18 ?c18 ?k18 ?a19 ?l19 ?c19 ?k19 ?z0 ?z1 ?z2 ?z3 ?z4 ?z5 ?z6 ?z7 ?z8 ?z9 ?zg
    (case a0 => k_is); (case l0 => k_is); (case c0 => k_is); (case k0 => k_is); (case a1 => k_is); (case l1 => k_is); (case c1 => k_is); (case k1 => k_is); (case a2 => k_is); (case l2 => k_is); (case c2 => k_is); (case k2 => k_is); (case a3 => k_is); (case l3 => k_is); (case c3 => k_is); (case k3 => k_is); (case a4 => k_is); (case l4 => k_is); (case c4 => k_is); (case k4 => k_is); (case a5 => k_is); (case l5 => k_is); (case c5 => k_is); (case k5 => k_is); (case a6 => k_is); (case l6 => k_is); (case c6 => k_is); (case k6 => k_is); (case a7 => k_is); (case l7 => k_is); (case c7 => k_is); (case k7 => k_is); (case a8 => k_is); (case l8 => k_is); (case c8 => k_is); (case k8 => k_is); (case a9 => k_is); (case l9 => k_is); (case c9 => k_is); (case k9 => k_is); (case a10 => k_is); (case l10 => k_is); (case c10 => k_is); (case k10 => k_is); (case a11 => k_is); (case l11 => k_is); (case c11 => k_is); (case k11 => k_is); (case a12 => k_is); (case l12 => k_is); (case c12 => k_is); (case k12 => k_is); (case a13 => k_is); (case l13 => k_is); (case c13 => k_is); (case k13 => k_is); (case a14 => k_is); (case l14 => k_is); (case c14 => k_is); (case k14 => k_is); (case a15 => k_is); (case l15 => k_is); (case c15 => k_is); (case k15 => k_is); (case a16 => k_is); (case l16 => k_is); (case c16 => k_is); (case k16 => k_is); (case a17 => k_is); (case l17 => k_is); (case c17 => k_is); (case k17 => k_is); (case a18 => k_is); (case l18 => k_is); (case c18 => k_is); (case k18 => k_is); (case a19 => k_is); (case l19 => k_is); (case c19 => k_is); (case k19 => k_is); (case z0 => k_is); (case z1 => k_is); (case z2 => k_is); (case z3 => k_is); (case z4 => k_is); (case z5 => k_is); (case z6 => k_is); (case z7 => k_is); (case z8 => k_is); (case z9 => k_is); (case zg => k_is)

