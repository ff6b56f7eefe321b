import PyProof.Rows.All
import Wide.All
import OpenK.AllK
import Wide.FinOn
import HandS.ForMost
import HandS.ForExc
import HandS.Deep
import HandS.IsInst
import HandS.Flow
import HandS.TupAny
import HandS.Style
import HandS.Wide
import HandS.Hot
import HandS.HotCalls
import HandS.Lambda
import HandS.ExcCtx
import HandS.ExcIs
import HandS.EndTab
import HandS.TupMul
import HandS.Text
import HandS.StrMore
import HandS.Conv
import HandS.More
import KE.KNest
import HandS.Dict
import HandS.TupLen
import HandS.Zip
import KE.KRevSl
import KE.GoesEnum
import PySem.Challenge.RW_matefloors_k47_numbers_written
set_option Elab.async false
set_option linter.all false
set_option maxRecDepth 100000
set_option maxHeartbeats 4000000
open PySem PySem.Spec PyProof.Rows L2
namespace MF
section CP1

/-! ## Data -/
/-- a value: data; a list that changes no more (lst); a cell of the store (ref) -/
inductive D where
  | non | bl (b : Bool) | int (i : Int) | str (s : Str)
  | tup (xs : List D) | lst (xs : List D) | ref (n : Nat)
  /-- a list that is read alone (the script) -/
  | fix (xs : List D)
  deriving Inhabited

inductive Cell where
  | lst (xs : List D)
  /-- a dict: its keys are tuples of whole numbers -/
  | dct (es : List (List Int × D))
abbrev Mem := List Cell
abbrev Env := List (Option D)

mutual
/-- no cell within -/
def D.pure : D → Bool
  | .ref _ => false
  | .tup xs => pures xs
  | .lst xs => pures xs
  | .fix xs => pures xs
  | _ => true
def pures : List D → Bool
  | [] => true
  | x :: r => x.pure && pures r
end
mutual
/-- all cells within are below n -/
def D.bel (n : Nat) : D → Bool
  | .ref k => decide (k < n)
  | .tup xs => belows n xs
  | .lst xs => belows n xs
  | .fix xs => belows n xs
  | _ => true
def belows (n : Nat) : List D → Bool
  | [] => true
  | x :: r => x.bel n && belows n r
end
def Cell.bel (n : Nat) : Cell → Bool
  | .lst xs => belows n xs
  | .dct es => belows n (es.map (·.2))
mutual
def D.toPD : D → Option PyData
  | .non => some .none
  | .bl b => some (.bool b)
  | .int i => some (.int i)
  | .str s => some (.str s)
  | .tup xs => (toPDs xs).map .tuple
  | .lst xs => (toPDs xs).map .list
  | .fix xs => (toPDs xs).map .list
  | .ref _ => none
def toPDs : List D → Option (List PyData)
  | [] => some []
  | x :: r => match x.toPD, toPDs r with
    | some a, some b => some (a :: b)
    | _, _ => none
end

/-! ## Outcomes -/
inductive Res (A : Type) where
  | stuck
  | exc (c : Str) (M : Mem)
  | ok (a : A) (M : Mem)
def Res.bind {A B : Type} (r : Res A) (f : A → Mem → Res B) : Res B :=
  match r with
  | .stuck => .stuck
  | .exc c M => .exc c M
  | .ok a M => f a M
@[simp] theorem Res.bind_ok {A B : Type} (a : A) (M : Mem) (f : A → Mem → Res B) : (Res.ok a M).bind f = f a M := rfl
@[simp] theorem Res.bind_exc {A B : Type} (c : Str) (M : Mem) (f : A → Mem → Res B) : (Res.exc c M : Res A).bind f = .exc c M := rfl
@[simp] theorem Res.bind_stuck {A B : Type} (f : A → Mem → Res B) : (Res.stuck : Res A).bind f = .stuck := rfl
/-- no exception is let out -/
def Res.nox {A : Type} : Res A → Res A
  | .exc _ _ => .stuck
  | r => r
@[simp] theorem Res.nox_ok {A : Type} (a : A) (M : Mem) : (Res.ok a M).nox = .ok a M := rfl

/-! ## What is written -/
inductive Ty where
  | int | bool | tuple | list | str
  deriving DecidableEq
inductive Prim where
  | add | sub | mul | fdiv | mod | pow | neg | notb
  | eq | ne | lt | le | gt | ge | isin | notin | is | isnot
  | tup | lst (m : Bool) | idx | slc (lo hi m : Bool)
  | len | abs | int1 | isi (t : Ty) | all | any | min2 | max2 | sum | tuple1 | list1 (m : Bool)
  | append | extend | insert | pop0 | pop1 | reverse
  | rev (m : Bool) | max1 | min1 | lenset
  /-- {} -/
  | newd
  /-- texts: str(n); sep.join; s.rfind, s.partition, s.index; {..}[x] of a written dict -/
  | str1 | join | rfind | part3 | index1
  | pick (es : List (Str × D))
inductive Src where
  | seq | range1 | range2 | enum | zip2
inductive Pat where
  | name (i : Nat)
  | tup (ps : List Pat)
mutual
inductive Tm where
  | var (i : Nat)
  | con (d : D)
  | prim (p : Prim) (ts : Tms)
  /-- a method: the receiver is looked at ahead of the arguments -/
  | meth (p : Prim) (o : Tm) (ts : Tms)
  /-- a method of a text -/
  | smeth (p : Prim) (o : Tm) (ts : Tms)
  | call (f : Nat) (ts : Tms)
  | and (s t : Tm)
  | or (s t : Tm)
  | ite (c s t : Tm)
  | chain (p q : Prim) (s t u : Tm)
  | chain3 (p q r : Prim) (s t u v : Tm)
  | slc2 (m : Bool) (s t u : Tm)
  | comp (m : Bool) (own : List Nat) (pt : Pat) (k : Src) (ts : Tms) (cond : Tms) (elt : Tm)
  /-- what is refused by an expression: the class's name, or None -/
  | refus (t : Tm)
inductive Tms where
  | nil
  | cons (t : Tm) (r : Tms)
end
mutual
inductive Sm where
  | asg (p : Pat) (t : Tm)
  | setI (o i t : Tm)
  | expr (t : Tm)
  | ite (c : Tm) (a b : Sms)
  | whil (c : Tm) (a : Sms)
  | for_ (p : Pat) (k : Src) (ts : Tms) (a : Sms)
  | ret (t : Tm)
  | retN
  | raise (c : Str)
  | pass
  /-- a name's slot is forgotten -/
  | wipe (i : Nat)
inductive Sms where
  | nil
  | cons (s : Sm) (r : Sms)
end
structure Fn where
  name : Str
  ps : List Str
  N : List Str
  keep : Bool
  body : Sms

/-! ## What it does -/
def lim : Nat := sizeLine
/-- a new list: a cell, or data -/
def mkL (m : Bool) (xs : List D) (M : Mem) : Res D :=
  if xs.length ≤ lim then (if m then .ok (.ref M.length) (M ++ [.lst xs]) else .ok (.lst xs) M) else .stuck
def look (M : Mem) : D → Option (List D)
  | .lst xs => some xs
  | .ref n => match M[n]? with
    | some (.lst xs) => some xs
    | _ => none
  | _ => none
/-- a list's or tuple's items -/
def items (M : Mem) : D → Option (List D)
  | .tup xs => some xs
  | .fix xs => some xs
  | d => look M d
/-- data as the library has it; a cell by its items -/
def toPDT (M : Mem) (ds : List D) : Option PyData :=
  match toPDs ds with
  | some qs => some (.tuple qs)
  | none => match ds with
    | [x, .ref n] => match x.toPD, look M (.ref n) with
      | some a, some xs => (toPDs xs).map fun q => .tuple [a, .list q]
      | _, _ => none
    | _ => none
def toPDM (M : Mem) (d : D) : Option PyData :=
  match d with
  | .ref n => (look M (.ref n)).bind fun xs => (toPDs xs).map .list
  | .tup ds => toPDT M ds
  | d => d.toPD
/-- a dict's entries -/
def dctOf (M : Mem) : D → Option (Nat × List (List Int × D))
  | .ref n => match M[n]? with
    | some (.dct es) => some (n, es)
    | _ => none
  | _ => none
def numsOf : List D → Option (List Int)
  | [] => some []
  | .int i :: r => (numsOf r).map (i :: ·)
  | _ :: _ => none
/-- a key: a tuple of whole numbers -/
def keyOf : D → Option (List Int)
  | .tup xs => numsOf xs
  | _ => none
def valD (es : List (List Int × D)) (k : List Int) : Option D := (es.find? fun x => decide (x.1 = k)).map (·.2)
def putD (es : List (List Int × D)) (k : List Int) (v : D) : List (List Int × D) := if (valD es k).isSome = true then es.map (fun x => if x.1 = k then (x.1, v) else x) else es ++ [(k, v)]
/-- a text of one sign -/
def sgn1 (c : Nat) : Str := ⟨#[c]⟩
def oneSign (s : Str) : Option Nat := match s.cps.toList with
  | [c] => some c
  | _ => none
/-- a text's signs -/
def signs (s : Str) : List D := s.cps.toList.map fun c => D.str (sgn1 c)
def strsOf : List D → Option (List Str)
  | [] => some []
  | .str s :: r => (strsOf r).map (s :: ·)
  | _ :: _ => none
/-- one sign in a text -/
def inS (x y : D) : Option Bool := match x, y with
  | .str a, .str z => (oneSign a).map fun c => decide (c ∈ z.cps.toList)
  | _, _ => none
def eqE (M : Mem) (x y : D) : Option Bool :=
  match toPDM M x, toPDM M y with
  | some a, some b => if SeqAt.shaped a = true ∧ SeqAt.shaped b = true then some (PyData.eqv a b) else none
  | _, _ => none
def inE (M : Mem) (x y : D) : Option Bool :=
  match toPDM M x, (items M y).bind toPDs with
  | some a, some bs => if SeqAt.shaped a = true ∧ SeqAt.shaped (.list bs) = true then some (bs.any fun z => PyData.eqv z a) else none
  | _, _ => match dctOf M y, keyOf x with
    | some p, some k => some (valD p.2 k).isSome
    | _, _ => inS x y
open Classical in
noncomputable def mulOk (i j : Int) : Bool := decide (IntMulOk i j)
/-- a change of a cell: what goes into an elder one bears no cell -/
def putC (b n : Nat) (vs : List D) (xs : List D) (M : Mem) {A : Type} (a : A) : Res A :=
  if (decide (n < b) && !pures vs) = true then .stuck else if xs.length ≤ lim then .ok a (M.set n (.lst xs)) else .stuck
def isiE (M : Mem) (t : Ty) : D → Option Bool
  | .non => some false
  | .bl _ => some (decide (t = .bool ∨ t = .int))
  | .int _ => some (decide (t = .int))
  | .str _ => some (decide (t = .str))
  | .tup _ => some (decide (t = .tuple))
  | .lst _ => some (decide (t = .list))
  | .fix _ => none
  | .ref n => match M[n]? with
    | some (.lst _) => some (decide (t = .list))
    | _ => none
def boolsOf : List D → Option (List Bool)
  | [] => some []
  | .bl b :: r => (boolsOf r).map (b :: ·)
  | _ :: _ => none
def intsOf : List D → Option (List Int)
  | [] => some []
  | .int b :: r => (intsOf r).map (b :: ·)
  | _ :: _ => none
def small (i : Int) : Bool := decide (-(2 ^ 62) ≤ i ∧ i < 2 ^ 62)
def okB (o : Option Bool) (M : Mem) : Res D := match o with
  | some b => .ok (.bl b) M
  | none => .stuck
def cutD (xs : List D) (lo hi : Option Int) : List D := (xs.drop (HT.sIx xs.length 0 lo)).take (HT.sIx xs.length xs.length hi - HT.sIx xs.length 0 lo)
/-- a slice of a list, tuple, text -/
def slcE (m : Bool) (o : D) (lo hi : Option Int) (M : Mem) : Res D :=
  match o with
  | .tup xs => .ok (.tup (cutD xs lo hi)) M
  | .str z => if z.length ≤ lim then .ok (.str (cutS z lo hi)) M else .stuck
  | o => match look M o with
    | some xs => mkL m (cutD xs lo hi) M
    | none => .stuck
/-! each by its own function of the values -/
def addE (x y : D) (M : Mem) : Res D :=
  match x, y with
  | .int i, .int j => .ok (.int (i + j)) M
  | .tup xs, .tup ys => if xs.length + ys.length ≤ lim then .ok (.tup (xs ++ ys)) M else .stuck
  | .str a, .str c => if a.length + c.length ≤ lim then .ok (.str (a ++ c)) M else .stuck
  | x, y => match look M x, look M y with
    | some xs, some ys => if xs.length + ys.length ≤ lim then .ok (.lst (xs ++ ys)) M else .stuck
    | _, _ => .stuck
def intOp (f : Int → Int → D) (x y : D) (M : Mem) : Res D :=
  match x, y with
  | .int i, .int j => .ok (f i j) M
  | _, _ => .stuck
noncomputable def mulE (x y : D) (M : Mem) : Res D :=
  match x, y with
  | .int i, .int j => if mulOk i j = true then .ok (.int (i * j)) M else .stuck
  | .str z, .int k => if (0 ≤ k ∧ k ≤ 1000 ∧ z.length ≤ 1000) then .ok (.str ⟨(List.replicate k.toNat z.cps.toList).flatten.toArray⟩) M else .stuck
  | .tup xs, .int k => if (xs ≠ [] ∧ 2 ≤ k ∧ k ≤ 1000 ∧ xs.length ≤ 1000) then .ok (.tup (List.replicate k.toNat xs).flatten) M else .stuck
  | x, .int k => match look M x with
    | some xs => if (small k = true ∧ xs.length * k.toNat ≤ lim) then .ok (.lst (List.replicate k.toNat xs).flatten) M else .stuck
    | none => .stuck
  | _, _ => .stuck
def divE (x y : D) (M : Mem) : Res D :=
  match x, y with
  | .int i, .int j => if j ≠ 0 ∧ Builtin.divisionGoesByPylong i j = false then .ok (.int (i.fdiv j)) M else .stuck
  | _, _ => .stuck
def modE (x y : D) (M : Mem) : Res D :=
  match x, y with
  | .int i, .int j => if j ≠ 0 then .ok (.int (i.fmod j)) M else .stuck
  | _, _ => .stuck
def powE (x y : D) (M : Mem) : Res D :=
  match x, y with
  | .int i, .int j => if 0 ≤ j ∧ j ≤ 1000000 ∧ i.natAbs < 2 ^ 64 then .ok (.int (i ^ j.toNat)) M else .stuck
  | _, _ => .stuck
def isE (neg : Bool) (x y : D) (M : Mem) : Res D :=
  match x, y with
  | .bl e, .bl c => .ok (.bl (if neg then !(e == c) else (e == c))) M
  | .non, .non => .ok (.bl (!neg)) M
  | _, .non => .ok (.bl neg) M
  | _, _ => .stuck
def idxS (z : Str) (i : D) (M : Mem) : Res D :=
  match i with
  | .int i => if z.length ≤ lim then (match atI z.cps.toList i with
    | some c => .ok (.str (sgn1 c)) M
    | none => .stuck) else .stuck
  | _ => .stuck
def idxO (o i : D) (M : Mem) : Res D :=
  match i with
  | .int i => match items M o with
    | some xs => match atI xs i with
      | some d => .ok d M
      | none => .stuck
    | none => .stuck
  | i => match dctOf M o, keyOf i with
    | some p, some k => match valD p.2 k with
      | some d => .ok d M
      | none => .stuck
    | _, _ => .stuck
def idxE (o i : D) (M : Mem) : Res D :=
  match o with
  | .str z => idxS z i M
  | o => idxO o i M
def lenO (o : D) (M : Mem) : Res D :=
  match items M o with
  | some xs => .ok (.int xs.length) M
  | none => match dctOf M o with
    | some p => .ok (.int p.2.length) M
    | none => .stuck
def lenE (o : D) (M : Mem) : Res D :=
  match o with
  | .str z => if z.length ≤ lim then .ok (.int z.length) M else .stuck
  | o => lenO o M
def absE (x : D) (M : Mem) : Res D :=
  match x with
  | .int i => .ok (.int (if i < 0 then -i else i)) M
  | _ => .stuck
def negE (x : D) (M : Mem) : Res D :=
  match x with
  | .int i => .ok (.int (-i)) M
  | _ => .stuck
def notE (x : D) (M : Mem) : Res D :=
  match x with
  | .bl c => .ok (.bl (!c)) M
  | _ => .stuck
def int1E (x : D) (M : Mem) : Res D :=
  match x with
  | .int i => .ok (.int i) M
  | .bl c => .ok (.int (if c then 1 else 0)) M
  | .str a => if a.length ≤ 640 then (match PySem.intText? a with
    | some n => .ok (.int n) M
    | none => .stuck) else .stuck
  | _ => .stuck
def allE (x : D) (M : Mem) : Res D :=
  match (look M x).bind boolsOf with
  | some bs => .ok (.bl (bs.all id)) M
  | none => .stuck
def anyE (x : D) (M : Mem) : Res D :=
  match (look M x).bind boolsOf with
  | some bs => .ok (.bl (bs.any id)) M
  | none => .stuck
def sumE (x : D) (M : Mem) : Res D :=
  match (look M x).bind intsOf with
  | some bs => .ok (.int bs.sum) M
  | none => .stuck
def tuple1E (x : D) (M : Mem) : Res D :=
  match items M x with
  | some xs => .ok (.tup xs) M
  | none => .stuck
def list1O (m : Bool) (x : D) (M : Mem) : Res D :=
  match items M x with
  | some xs => mkL m xs M
  | none => .stuck
def list1E (m : Bool) (x : D) (M : Mem) : Res D :=
  match x with
  | .str z => mkL m (signs z) M
  | x => list1O m x M
/-! texts -/
def str1E (x : D) (M : Mem) : Res D :=
  match x with
  | .int i => if i.natAbs.log2 < 1920 then .ok (.str (Str.ofString (toString i))) M else .stuck
  | _ => .stuck
def joinE (a x : D) (M : Mem) : Res D :=
  match a, (items M x).bind strsOf with
  | .str a, some ys => if (ys.map fun y => y.length).sum + ys.length * a.length ≤ 16777216 then .ok (.str (Txt.join a ys)) M else .stuck
  | _, _ => .stuck
def rfindE (a b : D) (M : Mem) : Res D :=
  match a, b with
  | .str a, .str b => .ok (.int (Txt.rfind a b)) M
  | _, _ => .stuck
def part3E (a b : D) (M : Mem) : Res D :=
  match a, b with
  | .str a, .str b => if (b.length == 0) = false ∧ a.length ≤ lim then .ok (.tup [.str (Txt.partition a b).1, .str (Txt.partition a b).2.1, .str (Txt.partition a b).2.2]) M else .stuck
  | _, _ => .stuck
def index1E (a b : D) (M : Mem) : Res D :=
  match a, b with
  | .str a, .str b => match Txt.index0 a b with
    | some k => .ok (.int (k : Nat)) M
    | none => .stuck
  | _, _ => .stuck
def pickE (es : List (Str × D)) (x : D) (M : Mem) : Res D :=
  match x with
  | .str z => match es.lookup z with
    | some d => .ok d M
    | none => .stuck
  | _ => .stuck
def tupE (ds : List D) (M : Mem) : Res D := if ds.length ≤ lim then .ok (.tup ds) M else .stuck
def cellOf (M : Mem) : D → Option (Nat × List D)
  | .ref n => match M[n]? with
    | some (.lst xs) => some (n, xs)
    | _ => none
  | _ => none
def appendE (b : Nat) (o v : D) (M : Mem) : Res D :=
  match cellOf M o with
  | some (n, xs) => putC b n [v] (xs ++ [v]) M .non
  | none => .stuck
def extendE (b : Nat) (o v : D) (M : Mem) : Res D :=
  match cellOf M o, look M v with
  | some (n, xs), some vs => putC b n vs (xs ++ vs) M .non
  | _, _ => .stuck
def pop0E (b : Nat) (o : D) (M : Mem) : Res D :=
  match cellOf M o with
  | some (n, xs) => match xs[xs.length - 1]? with
    | some y => putC b n [] xs.dropLast M y
    | none => .stuck
  | none => .stuck
def pop1E (b : Nat) (o i : D) (M : Mem) : Res D :=
  match cellOf M o, i with
  | some (n, xs), .int i => match seqIndex? i xs.length with
    | some k => match xs[k]? with
      | some y => if small i = true then putC b n [] (xs.eraseIdx k) M y else .stuck
      | none => .stuck
    | none => .stuck
  | _, _ => .stuck
def reverseE (b : Nat) (o : D) (M : Mem) : Res D :=
  match cellOf M o with
  | some (n, xs) => putC b n [] xs.reverse M .non
  | none => .stuck
def insertE (b : Nat) (o i v : D) (M : Mem) : Res D :=
  match cellOf M o, i with
  | some (n, xs), .int k => if 0 ≤ k ∧ k < 2 ^ 62 then putC b n [v] (xs.take k.toNat ++ [v] ++ xs.drop k.toNat) M .non else .stuck
  | _, _ => .stuck
/-- o[::-1] -/
def revE (m : Bool) (o : D) (M : Mem) : Res D :=
  match o with
  | .tup xs => .ok (.tup xs.reverse) M
  | .str z => if z.length ≤ lim then .ok (.str ⟨z.cps.toList.reverse.toArray⟩) M else .stuck
  | o => match look M o with
    | some xs => mkL m xs.reverse M
    | none => .stuck
def maxL (n : Int) (r : List Int) : Int := r.foldl (fun a b => if b > a then b else a) n
def minL (n : Int) (r : List Int) : Int := r.foldl (fun a b => if b < a then b else a) n
def max1E (x : D) (M : Mem) : Res D :=
  match (look M x).bind intsOf with
  | some (n :: r) => .ok (.int (maxL n r)) M
  | _ => .stuck
def min1E (x : D) (M : Mem) : Res D :=
  match (look M x).bind intsOf with
  | some (n :: r) => .ok (.int (minL n r)) M
  | _ => .stuck
/-- unlike ones, each where it comes first -/
def distinct (ns : List Int) : List Int := ns.foldl (fun acc n => if acc.any (· == n) = true then acc else acc ++ [n]) []
def lensetE (x : D) (M : Mem) : Res D :=
  match (look M x).bind intsOf with
  | some ns => if ns.length ≤ 1000 then .ok (.int (distinct ns).length) M else .stuck
  | _ => .stuck
def part : D → Option Int
  | .int i => some i
  | _ => none
def ap1 (f : D → Mem → Res D) (ds : List D) (M : Mem) : Res D := match ds with
  | [x] => f x M
  | _ => .stuck
def ap2 (f : D → D → Mem → Res D) (ds : List D) (M : Mem) : Res D := match ds with
  | [x, y] => f x y M
  | _ => .stuck
def ap3 (f : D → D → D → Mem → Res D) (ds : List D) (M : Mem) : Res D := match ds with
  | [x, y, z] => f x y z M
  | _ => .stuck
noncomputable def primE (b : Nat) (p : Prim) (ds : List D) (M : Mem) : Res D :=
  match p with
  | .add => ap2 addE ds M
  | .sub => ap2 (intOp fun i j => .int (i - j)) ds M
  | .mul => ap2 mulE ds M
  | .fdiv => ap2 divE ds M
  | .mod => ap2 modE ds M
  | .pow => ap2 powE ds M
  | .neg => ap1 negE ds M
  | .notb => ap1 notE ds M
  | .eq => ap2 (fun x y M => okB (eqE M x y) M) ds M
  | .ne => ap2 (fun x y M => okB ((eqE M x y).map (!·)) M) ds M
  | .lt => ap2 (intOp fun i j => .bl (decide (i < j))) ds M
  | .le => ap2 (intOp fun i j => .bl (decide (i ≤ j))) ds M
  | .gt => ap2 (intOp fun i j => .bl (decide (j < i))) ds M
  | .ge => ap2 (intOp fun i j => .bl (decide (j ≤ i))) ds M
  | .isin => ap2 (fun x y M => okB (inE M x y) M) ds M
  | .notin => ap2 (fun x y M => okB ((inE M x y).map (!·)) M) ds M
  | .is => ap2 (isE false) ds M
  | .isnot => ap2 (isE true) ds M
  | .tup => tupE ds M
  | .lst m => mkL m ds M
  | .idx => ap2 idxE ds M
  | .slc false false m => ap1 (fun o M => slcE m o none none M) ds M
  | .slc true false m => ap2 (fun o i M => match part i with
    | some i => slcE m o (some i) none M
    | none => .stuck) ds M
  | .slc false true m => ap2 (fun o i M => match part i with
    | some i => slcE m o none (some i) M
    | none => .stuck) ds M
  | .slc true true m => match ds with
    | [o, i, j] => match part i, part j with
      | some i, some j => slcE m o (some i) (some j) M
      | _, _ => .stuck
    | _ => .stuck
  | .len => ap1 lenE ds M
  | .abs => ap1 absE ds M
  | .int1 => ap1 int1E ds M
  | .isi t => ap1 (fun x M => okB (isiE M t x) M) ds M
  | .all => ap1 allE ds M
  | .any => ap1 anyE ds M
  | .min2 => ap2 (intOp fun i j => .int (if j < i then j else i)) ds M
  | .max2 => ap2 (intOp fun i j => .int (if j > i then j else i)) ds M
  | .sum => ap1 sumE ds M
  | .tuple1 => ap1 tuple1E ds M
  | .list1 m => ap1 (list1E m) ds M
  | .append => ap2 (appendE b) ds M
  | .extend => ap2 (extendE b) ds M
  | .insert => ap3 (insertE b) ds M
  | .rev m => ap1 (revE m) ds M
  | .max1 => ap1 max1E ds M
  | .min1 => ap1 min1E ds M
  | .lenset => ap1 lensetE ds M
  | .newd => match ds with
    | [] => .ok (.ref M.length) (M ++ [.dct []])
    | _ => .stuck
  | .str1 => ap1 str1E ds M
  | .join => ap2 joinE ds M
  | .rfind => ap2 rfindE ds M
  | .part3 => ap2 part3E ds M
  | .index1 => ap2 index1E ds M
  | .pick es => ap1 (pickE es) ds M
  | .pop0 => ap1 (pop0E b) ds M
  | .pop1 => ap2 (pop1E b) ds M
  | .reverse => ap1 (reverseE b) ds M
/-- o[i] = v -/
def setE (b : Nat) (o i v : D) (M : Mem) : Res Unit :=
  match o, i with
  | .ref n, .int k => match M[n]? with
    | some (.lst xs) => match ixN xs.length k with
      | some j => putC b n [v] (xs.set j v) M ()
      | none => .stuck
    | _ => .stuck
  | o, i => match dctOf M o, keyOf i with
    | some p, some k => if v.pure = true ∧ p.2.length < lim then .ok () (M.set p.1 (.dct (putD p.2 k v))) else .stuck
    | _, _ => .stuck
/-- what a loop goes over: the items; the cell that has to stay as it is -/
abbrev Grd := Option (Nat × Cell)
def Grd.ok (g : Grd) (M : Mem) : Prop := match g with
  | none => True
  | some (n, c) => M[n]? = some c
def oneE (d : D) (M : Mem) : Option (List D × Grd) := match d with
    | .tup xs => some (xs, none)
    | .lst xs => some (xs, none)
    | .fix xs => some (xs, none)
    | .ref n => match M[n]? with
      | some (.lst xs) => some (xs, some (n, .lst xs))
      | _ => none
    | _ => none
/-- what is walked, texts too -/
def seqE (d : D) (M : Mem) : Option (List D × Grd) := match d with
  | .str z => some (signs z, none)
  | d => oneE d M
def enumL : Nat → List D → List D
  | _, [] => []
  | k, x :: r => .tup [.int (k : Int), x] :: enumL (k + 1) r
def zipL : List D → List D → List D
  | x :: xs, y :: ys => .tup [x, y] :: zipL xs ys
  | _, _ => []
def srcE (k : Src) (ds : List D) (M : Mem) : Option (List D × List Grd) :=
  match k, ds with
  | .seq, [d] => (seqE d M).map fun p => (p.1, [p.2])
  | .range1, [.int n] => if small n = true then some ((List.range n.toNat).map (fun (i : Nat) => D.int (i : Int)), []) else none
  | .range2, [.int a, .int n] => if small a = true ∧ small n = true then some ((List.range (n - a).toNat).map (fun (i : Nat) => D.int (a + (i : Int))), []) else none
  | .enum, [d] => (oneE d M).map fun p => (enumL 0 p.1, [p.2])
  | .zip2, [x, y] => match oneE x M, oneE y M with
    | some p, some q => some (zipL p.1 q.1, [p.2, q.2])
    | _, _ => none
  | _, _ => none
theorem src1 {ds its : List D} {g : List Grd} {M : Mem} (h : srcE .range1 ds M = some (its, g)) : ∃ n, ds = [.int n] ∧ small n = true ∧ its = (List.range n.toNat).map (fun (i : Nat) => D.int (i : Int)) ∧ g = [] := by
  match ds, h with
  | [.int n], h =>
    simp only [srcE] at h
    split at h
    · rename_i hs; cases h; exact ⟨n, rfl, hs, rfl, rfl⟩
    · cases h
theorem src2 {ds its : List D} {g : List Grd} {M : Mem} (h : srcE .range2 ds M = some (its, g)) : ∃ a n, ds = [.int a, .int n] ∧ small a = true ∧ small n = true ∧ its = (List.range (n - a).toNat).map (fun (i : Nat) => D.int (a + (i : Int))) ∧ g = [] := by
  match ds, h with
  | [.int a, .int n], h =>
    simp only [srcE] at h
    split at h
    · rename_i hs; cases h; exact ⟨a, n, rfl, hs.1, hs.2, rfl, rfl⟩
    · cases h
theorem srcEn {ds its : List D} {g : List Grd} {M : Mem} (h : srcE .enum ds M = some (its, g)) : ∃ d xs c, ds = [d] ∧ oneE d M = some (xs, c) ∧ its = enumL 0 xs ∧ g = [c] := by
  match ds, h with
  | [d], h =>
    simp only [srcE, Option.map_eq_some_iff] at h
    obtain ⟨p, hp, e⟩ := h
    cases e
    exact ⟨d, p.1, p.2, rfl, hp, rfl, rfl⟩
theorem srcZ {ds its : List D} {g : List Grd} {M : Mem} (h : srcE .zip2 ds M = some (its, g)) : ∃ d e xs ys c c2, ds = [d, e] ∧ oneE d M = some (xs, c) ∧ oneE e M = some (ys, c2) ∧ its = zipL xs ys ∧ g = [c, c2] := by
  match ds, h with
  | [d, e], h =>
    simp only [srcE] at h
    split at h
    · rename_i p q hp hq
      obtain ⟨xs, c⟩ := p
      obtain ⟨ys, c2⟩ := q
      cases h
      exact ⟨d, e, xs, ys, c, c2, rfl, hp, hq, rfl, rfl⟩
    · cases h
theorem enumL_get : ∀ (xs : List D) (k i : Nat), (enumL k xs)[i]? = (xs[i]?).map fun x => D.tup [.int ((k + i : Nat) : Int), x]
  | [], k, i => rfl
  | x :: r, k, 0 => rfl
  | x :: r, k, i + 1 => by
    simp only [enumL, List.getElem?_cons_succ, enumL_get r (k + 1) i]
    rw [show k + 1 + i = k + (i + 1) by omega]
theorem enumL_len : ∀ (xs : List D) (k : Nat), (enumL k xs).length = xs.length
  | [], _ => rfl
  | x :: r, k => by simp only [enumL, List.length_cons, enumL_len r]
theorem zipL_get : ∀ (xs ys : List D) (i : Nat) (x y : D), xs[i]? = some x → ys[i]? = some y → (zipL xs ys)[i]? = some (.tup [x, y])
  | a :: xs, b :: ys, 0, x, y, h, k => by cases h; cases k; rfl
  | a :: xs, b :: ys, i + 1, x, y, h, k => by
    simp only [zipL, List.getElem?_cons_succ] at h k ⊢
    exact zipL_get xs ys i x y h k
  | [], _, i, x, y, h, k => by simp at h
  | _ :: _, [], i, x, y, h, k => by simp at k
theorem zipL_len : ∀ (xs ys : List D), (zipL xs ys).length = min xs.length ys.length
  | a :: xs, b :: ys => by simp only [zipL, List.length_cons, zipL_len xs ys]; omega
  | [], _ => by simp [zipL]
  | _ :: _, [] => by simp [zipL]
mutual
def bindP : Pat → D → Env → Option Env
  | .name i, d, ρ => some (ρ.set i (some d))
  | .tup ps, .tup ds, ρ => bindPs ps ds ρ
  | .tup ps, .lst ds, ρ => bindPs ps ds ρ
  | .tup _, _, _ => none
def bindPs : List Pat → List D → Env → Option Env
  | [], [], ρ => some ρ
  | p :: ps, d :: ds, ρ => match bindP p d ρ with
    | some ρ' => bindPs ps ds ρ'
    | none => none
  | _, _, _ => none
end
def wipeE (ρ : Env) : List Nat → Env
  | [] => ρ
  | v :: vs => (wipeE ρ vs).set v none
open Classical in
noncomputable def compL (g : List Grd) (step : D → Mem → Res (Option D)) : List D → Mem → Res (List D)
  | [], M => if ∀ x ∈ g, Grd.ok x M then .ok [] M else .stuck
  | d :: ds, M => if ∀ x ∈ g, Grd.ok x M then (step d M).bind fun o M1 => (compL g step ds M1).bind fun r M2 => .ok (o.toList ++ r) M2 else .stuck
inductive Flow where
  | next (ρ : Env)
  | ret (d : D)
open Classical in
noncomputable def forL (g : List Grd) (step : D → Env → Mem → Res Flow) : List D → Env → Mem → Res Flow
  | [], ρ, M => if ∀ x ∈ g, Grd.ok x M then .ok (.next ρ) M else .stuck
  | d :: ds, ρ, M => if ∀ x ∈ g, Grd.ok x M then (step d ρ M).bind fun f M1 => match f with
      | .next ρ' => forL g step ds ρ' M1
      | .ret v => .ok (.ret v) M1
    else .stuck
def whileN (c : Env → Mem → Res D) (a : Env → Mem → Res Flow) : Nat → Env → Mem → Res Flow
  | 0, _, _ => .stuck
  | k + 1, ρ, M => (c ρ M).bind fun x M1 => match x with
    | .bl true => (a ρ M1).bind fun f M2 => match f with
      | .next ρ' => whileN c a k ρ' M2
      | .ret v => .ok (.ret v) M2
    | .bl false => .ok (.next ρ) M1
    | _ => .stuck
open Classical in
noncomputable def whileE (c : Env → Mem → Res D) (a : Env → Mem → Res Flow) (ρ : Env) (M : Mem) : Res Flow :=
  if h : ∃ k, whileN c a k ρ M ≠ .stuck then whileN c a (choose h) ρ M else .stuck

/-- the classes of refusals -/
def refNames : List Str := ["NoRoot", "NoNumber", "NoLaying", "NoTile", "NoFit", "NoKinds", "NoPlan", "NoSpot", "NoNet", "NoText", "NoSaying", "NoName", "TooMany"]
/-- the refusal, as a value -/
def refE (r : Res D) : Res D := match r with
  | .stuck => .stuck
  | .ok _ M => .ok .non M
  | .exc c M => if refNames.contains c = true then .ok (.str c) M else .stuck
section
variable (cf : Nat → List D → Mem → Res D) (b : Nat)
mutual
noncomputable def evE : Tm → Env → Mem → Res D
  | .var i, ρ, M => match ρ[i]? with
    | some (some d) => .ok d M
    | _ => .stuck
  | .con d, _, M => .ok d M
  | .prim p ts, ρ, M => (evEs ts ρ M).bind fun ds M1 => primE b p ds M1
  | .meth p o ts, ρ, M => (evE o ρ M).bind fun d M1 => if (look M1 d).isSome = true then (evEs ts ρ M1).bind fun ds M2 => primE b p (d :: ds) M2 else .stuck
  | .smeth p o ts, ρ, M => (evE o ρ M).bind fun d M1 => match d with
    | .str s => (evEs ts ρ M1).bind fun ds M2 => primE b p (.str s :: ds) M2
    | _ => .stuck
  | .call f ts, ρ, M => (evEs ts ρ M).bind fun ds M1 => cf f ds M1
  | .and s t, ρ, M => (evE s ρ M).bind fun x M1 => match x with
    | .bl true => evE t ρ M1
    | .bl false => .ok (.bl false) M1
    | _ => .stuck
  | .or s t, ρ, M => (evE s ρ M).bind fun x M1 => match x with
    | .bl true => .ok (.bl true) M1
    | .bl false => evE t ρ M1
    | _ => .stuck
  | .ite c s t, ρ, M => (evE c ρ M).bind fun x M1 => match x with
    | .bl true => evE s ρ M1
    | .bl false => evE t ρ M1
    | _ => .stuck
  | .chain p q s t u, ρ, M => (evE s ρ M).bind fun x M1 => (evE t ρ M1).bind fun y M2 => (primE b p [x, y] M2).bind fun z M3 => match z with
    | .bl true => (evE u ρ M3).bind fun v M4 => primE b q [y, v] M4
    | .bl false => .ok (.bl false) M3
    | _ => .stuck
  | .chain3 p q r s t u v, ρ, M => (evE s ρ M).bind fun x M1 => (evE t ρ M1).bind fun y M2 => (primE b p [x, y] M2).bind fun z M3 => match z with
    | .bl true => (evE u ρ M3).bind fun w M4 => (primE b q [y, w] M4).bind fun z2 M5 => match z2 with
      | .bl true => (evE v ρ M5).bind fun a M6 => primE b r [w, a] M6
      | .bl false => .ok (.bl false) M5
      | _ => .stuck
    | .bl false => .ok (.bl false) M3
    | _ => .stuck
  | .slc2 m s t u, ρ, M => (evE s ρ M).bind fun x M1 => (evE t ρ M1).bind fun y M2 => match part y with
    | some i => (evE u ρ M2).bind fun z M3 => match part z with
      | some j => slcE m x (some i) (some j) M3
      | none => .stuck
    | none => .stuck
  | .comp m own pt k ts cond elt, ρ, M => (evEs ts ρ M).bind fun ds M1 => match srcE k ds M1 with
    | some (its, g) => if its.length ≤ lim then (compL g (fun d M2 => match bindP pt d (wipeE ρ own) with
        | some ρ' => (evEs cond ρ' M2).bind fun cs M3 => match cs with
          | [.bl false] => .ok none M3
          | [.bl true] => (evE elt ρ' M3).bind fun v M4 => .ok (some v) M4
          | [] => (evE elt ρ' M3).bind fun v M4 => .ok (some v) M4
          | _ => .stuck
        | none => .stuck) its M1).nox.bind fun vs M5 => mkL m vs M5
      else .stuck
    | none => .stuck
  | .refus t, ρ, M => refE (evE t ρ M)
noncomputable def evEs : Tms → Env → Mem → Res (List D)
  | .nil, _, M => .ok [] M
  | .cons t r, ρ, M => (evE t ρ M).bind fun d M1 => (evEs r ρ M1).bind fun ds M2 => .ok (d :: ds) M2
end
mutual
noncomputable def evS : Sm → Env → Mem → Res Flow
  | .asg p t, ρ, M => (evE cf b t ρ M).bind fun d M1 => match bindP p d ρ with
    | some ρ' => .ok (.next ρ') M1
    | none => .stuck
  | .setI o i t, ρ, M => (evE cf b t ρ M).bind fun d M1 => (evE cf b o ρ M1).bind fun ov M2 => (evE cf b i ρ M2).bind fun iv M3 => (setE b ov iv d M3).bind fun _ M4 => .ok (.next ρ) M4
  | .expr t, ρ, M => (evE cf b t ρ M).bind fun _ M1 => .ok (.next ρ) M1
  | .ite c s t, ρ, M => (evE cf b c ρ M).bind fun x M1 => match x with
    | .bl true => evSs s ρ M1
    | .bl false => evSs t ρ M1
    | _ => .stuck
  | .whil c a, ρ, M => whileE (evE cf b c) (evSs a) ρ M
  | .for_ p k ts a, ρ, M => (evEs cf b ts ρ M).bind fun ds M1 => match srcE k ds M1 with
    | some (its, g) => forL g (fun d ρ M2 => match bindP p d ρ with
      | some ρ' => evSs a ρ' M2
      | none => .stuck) its ρ M1
    | none => .stuck
  | .ret t, ρ, M => (evE cf b t ρ M).bind fun d M1 => .ok (.ret d) M1
  | .retN, _, M => .ok (.ret .non) M
  | .raise c, _, M => .exc c M
  | .pass, ρ, M => .ok (.next ρ) M
  | .wipe i, ρ, M => .ok (.next (ρ.set i none)) M
noncomputable def evSs : Sms → Env → Mem → Res Flow
  | .nil, ρ, M => .ok (.next ρ) M
  | .cons s r, ρ, M => (evS s ρ M).bind fun f M1 => match f with
    | .next ρ' => evSs r ρ' M1
    | .ret v => .ok (.ret v) M1
end
end

/-! ## Calls -/
/-- a pair whose second is a list of the frame's own, kept as a cell -/
def leaveT (keep : Bool) (b : Nat) (ds : List D) (M : Mem) : Res D :=
  match ds with
  | [x, .ref n] => if (keep && x.bel b && decide (b ≤ n)) = true then match M[n]? with
      | some (.lst xs) => if pures xs = true then .ok (.tup [x, .ref b]) (M.take b ++ [.lst xs]) else .stuck
      | _ => .stuck
    else .stuck
  | _ => .stuck
/-- what a frame gives out: values that bear no cell of its own; a list of its own that bears no cell at all comes as data, or (keep) as a cell -/
def leave (keep : Bool) (b : Nat) (d : D) (M : Mem) : Res D :=
  if d.bel b = true then .ok d (M.take b) else match d with
  | .ref n => match M[n]? with
    | some (.lst xs) => if pures xs = true then (if keep = true then .ok (.ref b) (M.take b ++ [.lst xs]) else .ok (.lst xs) (M.take b)) else .stuck
    | _ => .stuck
  | .tup ds => leaveT keep b ds M
  | _ => .stuck
def entry (N : List Str) (ds : List D) : Env := ds.map some ++ List.replicate (N.length - ds.length) none
/-- a frame's end -/
def fin (keep : Bool) (b : Nat) : Res Flow → Res D
  | .stuck => .stuck
  | .exc c M' => .exc c (M'.take b)
  | .ok (.next _) M' => .ok .non (M'.take b)
  | .ok (.ret d) M' => leave keep b d M'
noncomputable def callFn (fns : List Fn) : Nat → Nat → List D → Mem → Res D
  | 0, _, _, _ => .stuck
  | n + 1, i, ds, M => match fns[i]? with
    | none => .stuck
    | some f => if ds.length = f.ps.length then fin f.keep M.length (evSs (callFn fns n) M.length f.body (entry f.N ds) M) else .stuck
theorem call_of {fns : List Fn} {i n : Nat} {f : Fn} {ds : List D} {M : Mem} (h : fns[i]? = some f) (hl : ds.length = f.ps.length) :
    callFn fns (n + 1) i ds M = fin f.keep M.length (evSs (callFn fns n) M.length f.body (entry f.N ds) M) := by
  simp only [callFn, h]
  rw [if_pos hl]
/-- a def that is not served: its run is stuck -/
def holeB : Sms := .cons (.asg (.tup []) (.con .non)) .nil
theorem hole_stuck (cf : Nat → List D → Mem → Res D) (b : Nat) (ρ : Env) (M : Mem) : evSs cf b holeB ρ M = .stuck := by
  simp only [holeB, evSs, evS, evE, Res.bind_ok, bindP, Res.bind_stuck]
theorem call_hole {fns : List Fn} {i n : Nat} {f : Fn} {ds : List D} {M : Mem} (h : fns[i]? = some f) (hb : f.body = holeB) : callFn fns n i ds M = .stuck := by
  cases n with
  | zero => rfl
  | succ n =>
    simp only [callFn, h, hb, hole_stuck]
    split <;> rfl

end CP1
section CPD
/-! ## A dict whose keys are tuples of whole numbers, constants among them -/
def khash (k : List Int) : Int := reduceHash (Builtin.Tuple.tupleHashOf (k.map hashInt))
abbrev DEnt := List Int × Addr × V
def DRl : List DEnt → List (List Int × Addr × Value) → Prop := Paired fun p q => p.1 = q.1 ∧ p.2.1 = q.2.1 ∧ RelV p.2.2 q.2.2
def DObj (a : Addr) (xs : List DEnt) (h : Heap) : Prop := xs.length ≤ sizeLine ∧ (a == sysModules) = false ∧ ∃ ys, DRl xs ys ∧ ∃ o es ep, h.get? a = some o ∧ o.ExactDict ∧ o.data = .dict es ep ∧
  es.toList = ys.map (fun y => (⟨khash y.1, .ref y.2.1, y.2.2⟩ : DictEntry)) ∧ (ys.map (·.1)).Nodup
def DctO (a : Addr) (xs : List DEnt) : HO := .ext (DObj a xs)
def valX (xs : List DEnt) (k : List Int) : Option V := (xs.find? fun x => decide (x.1 = k)).map (·.2.2)
def putX (xs : List DEnt) (k : List Int) (b : Addr) (v : V) : List DEnt := if (valX xs k).isSome = true then xs.map (fun x => if x.1 = k then (x.1, x.2.1, v) else x) else xs ++ [(k, b, v)]
theorem DRl.val {xs : List DEnt} {ys : List (List Int × Addr × Value)} (r : DRl xs ys) (k : List Int) : RelO (valX xs k) ((atKey ys k).map (·.2)) := by
  induction r with
  | nil => exact True.intro
  | @cons p q ps qs h t ih =>
    obtain ⟨h1, _, h2⟩ := h
    by_cases e : p.1 = k
    · have e' : q.1 = k := h1.symm.trans e
      have b : atKey (q :: qs) k = some q.2 := by simp [atKey, List.find?_cons, e']
      have b' : valX (p :: ps) k = some p.2.2 := by simp [valX, List.find?_cons, e]
      rw [b', b]; exact h2
    · have e' : ¬ q.1 = k := fun z => e (h1.trans z)
      have b : atKey (q :: qs) k = atKey qs k := by simp [atKey, List.find?_cons, e']
      have b' : valX (p :: ps) k = valX ps k := by simp [valX, List.find?_cons, e]
      rw [b', b]; exact ih
theorem DRl.repl {xs : List DEnt} {ys : List (List Int × Addr × Value)} (r : DRl xs ys) (k : List Int) {v : V} {u : Value} (rv : RelV v u) :
    DRl (xs.map fun x => if x.1 = k then (x.1, x.2.1, v) else x) (ys.map (putAt k u)) := by
  induction r with
  | nil => exact .nil
  | @cons p q ps qs h t ih =>
    rw [List.map_cons, List.map_cons]
    refine .cons ?_ ih
    obtain ⟨h1, h2, h3⟩ := h
    unfold putAt
    by_cases e : p.1 = k
    · rw [if_pos e, if_pos (h1.symm.trans e)]; exact ⟨h1, h2, rv⟩
    · rw [if_neg e, if_neg (fun z => e (h1.trans z))]; exact ⟨h1, h2, h3⟩
theorem DRl.put {xs : List DEnt} {ys : List (List Int × Addr × Value)} (r : DRl xs ys) (k : List Int) (b : Addr) {v : V} {u : Value} (rv : RelV v u) : DRl (putX xs k b v) (storedH ys k b u) := by
  have e : (valX xs k).isSome = (atKey ys k).isSome := by rw [(r.val k).isSome_eq, Option.isSome_map]
  unfold putX storedH
  rw [e]
  by_cases q : (atKey ys k).isSome = true
  · rw [if_pos q, if_pos q]; exact r.repl k rv
  · rw [if_neg q, if_neg q]; exact Paired.snoc r ⟨rfl, rfl, rv⟩
theorem length_putX (xs : List DEnt) (k : List Int) (b : Addr) (v : V) : (putX xs k b v).length ≤ xs.length + 1 := by
  unfold putX
  split
  · rw [List.length_map]; omega
  · rw [List.length_append]; exact Nat.le_refl _
/-- a dict, its keys' tuples there -/
def DAt (K : PySem.W.Frag) (H : Hp) (a : Addr) (xs : List DEnt) : Prop := H a = some (DctO a xs) ∧ ∀ x ∈ xs, SqT K H x.2.1 (x.1.map V.int)
theorem ints_are {P : Program} {w : World} : ∀ {ks : List Int} {us : List Value}, Vals (ks.map V.int) us → ItemsAre (intKind P w) ks us
  | [], _, r => by rw [List.map_nil] at r; cases r; exact .nil
  | k :: ks, _, r => by
    rw [List.map_cons] at r
    cases r with
    | cons h t =>
      obtain ⟨u, rfl⟩ := h
      exact .cons (by simp [intKind, Value.isInt]) (ints_are t)
section
variable {X : Cx} {pins : List (Addr × Obj)} {σ : L2.St} {H : Hp} {s : Shared} {a b : Addr} {k : List Int} {xs : List DEnt} {v : V} {u r : Value} {E : Value → Shared → Prop} {A : Around}
theorem keyx (I : Inv X pins σ H s) (e : SqT X.K H b (k.map V.int)) : (tupleKind (intKind X.prog X.w)).is s.heap k b := by
  obtain ⟨its, r, ⟨o, h1, h2, n, h3⟩, _⟩ := I.tuple e
  exact ⟨o, its.toArray, n, h1, h2, h3, by simpa using ints_are r⟩
theorem dx_of (I : Inv X pins σ H s) (d : DAt X.K H a xs) : xs.length ≤ sizeLine ∧ (a == sysModules) = false ∧ ∃ ys, DRl xs ys ∧ s.heap.DictOfH (tupleKind (intKind X.prog X.w)) a ys := by
  obtain ⟨e, hk⟩ := d
  obtain ⟨⟨z, y, ys, r, o, es, ep, h1, h2, h3, h4, h5⟩, _, _⟩ := (show ObjOk X.prog X.w H s.heap a (.ext (DObj a xs)) from I.hok a _ e)
  refine ⟨z, y, ys, r, o, es, ep, h1, h2, h3, h4, fun x hx => ?_, h5⟩
  have all : ∀ {l : List DEnt} {m : List (List Int × Addr × Value)}, DRl l m → (∀ x ∈ l, SqT X.K H x.2.1 (x.1.map V.int)) → ∀ x ∈ m, (tupleKind (intKind X.prog X.w)).is s.heap x.1 x.2.1 := by
    intro l m q
    induction q with
    | nil => intro _ x hx; exact nomatch hx
    | @cons p q ps qs hq t ih =>
      intro hk x hx
      rcases List.mem_cons.mp hx with e | hx
      · subst e
        have := keyx I (hk p List.mem_cons_self)
        rw [hq.1, hq.2.1] at this
        exact this
      · exact ih (fun x hx => hk x (List.mem_cons_of_mem _ hx)) x hx
  exact all r hk x hx
theorem dx_typeIs (I : Inv X pins σ H s) (d : DAt X.K H a xs) : s.TypeIs (.ref a) "dict" := by
  obtain ⟨_, _, ys, _, dd⟩ := dx_of I d
  exact dd.typeIs
theorem dx_getItem {Q : Value → Shared → Prop} (hu : A.units + 1 < cLine) (I : Inv X pins σ H s) (d : DAt X.K H a xs) (hb : SqT X.K H b (k.map V.int)) (hv : valX xs k = some v) (h : ∀ w' s', Inv X pins σ H s' → RelV v w' → Q w' s') :
    wpAny (model X.prog X.w) A (getItem (.ref a) (.ref b)) Q E s := by
  obtain ⟨z, hd, ys, rel, dd⟩ := dx_of I d
  obtain ⟨w', hw, rw'⟩ := RelO.some_of (v := v) (o := (atKey ys k).map (·.2)) (by rw [← hv]; exact rel.val k)
  obtain ⟨p, hp, hp2⟩ := Option.map_eq_some_iff.mp hw
  refine wpAny_getItem_heap (tupleKind_room_in1 hu) (keyx I hb) dd hp ?_
  rw [hp2]
  exact h w' _ (I.tok _) rw'
theorem dx_in {Q : Value → Shared → Prop} (hu : A.units + 1 < cLine) (I : Inv X pins σ H s) (d : DAt X.K H a xs) (hb : SqT X.K H b (k.map V.int)) (h : ∀ s', Inv X pins σ H s' → Q (.bool (valX xs k).isSome) s') :
    wpAny (model X.prog X.w) A (compareOp .In (.ref b) (.ref a)) Q E s := by
  obtain ⟨z, hd, ys, rel, dd⟩ := dx_of I d
  refine wpAny_in_heap (tupleKind_room_in1 hu) (keyx I hb) hd dd ?_
  have q := (rel.val k).isSome_eq
  rw [Option.isSome_map] at q
  rw [← q]
  exact h _ (I.tok _)
theorem dx_notIn {Q : Value → Shared → Prop} (hu : A.units + 1 < cLine) (I : Inv X pins σ H s) (d : DAt X.K H a xs) (hb : SqT X.K H b (k.map V.int)) (h : ∀ s', Inv X pins σ H s' → Q (.bool (!(valX xs k).isSome)) s') :
    wpAny (model X.prog X.w) A (compareOp .NotIn (.ref b) (.ref a)) Q E s := by
  obtain ⟨z, hd, ys, rel, dd⟩ := dx_of I d
  refine wpAny_notIn_heap (tupleKind_room_in1 hu) (keyx I hb) hd dd ?_
  have q := (rel.val k).isSome_eq
  rw [Option.isSome_map] at q
  rw [← q]
  exact h _ (I.tok _)
theorem dx_setItem {Q : Unit → Shared → Prop} (hu : A.units + 1 < cLine) (I : Inv X pins σ H s) (d : DAt X.K H a xs) (hb : SqT X.K H b (k.map V.int)) (hl : xs.length < sizeLine) (rv : RelV v r)
    (h : ∀ s', Inv X pins σ (upd H a (DctO a (putX xs k b v))) s' → Q () s') : wpAny (model X.prog X.w) A (setItem (.ref a) (.ref b) r) Q E s := by
  obtain ⟨z, hd, ys, rel, dd⟩ := dx_of I d
  have hz : ys.length ≤ sizeLine := by rw [← Paired.length rel]; exact z
  have hl2 : (putX xs k b v).length ≤ sizeLine := by have := length_putX xs k b v; omega
  refine wpAny_setItem_heap (hsz := hz) (tupleKind_room_in1 hu) (keyx I hb) dd fun h' dd' hs => h _ ?_
  obtain ⟨q, es, ep, hq, h2, h3, h4, _, h5⟩ := dd'
  have new : DObj a (putX xs k b v) h' := ⟨hl2, hd, _, rel.put k b rv, q, es, ep, hq, h2, h3, h4, h5⟩
  refine d_write I (by rw [d.1]; exact True.intro) hs ⟨q, hq⟩ ⟨new, ⟨q, hq⟩, fun h1 h2 p hk => ?_⟩
  obtain ⟨z1, z2, ys, r, o, es, ep, e1, e2⟩ := p
  exact ⟨z1, z2, ys, r, o, es, ep, hk _ e1, e2⟩
end
theorem dx_ok {P : Program} {w : World} {H : Hp} (h : Heap) (hb : sysModules < h.objs.size) : ObjOk P w H (h.push { cls := .type "dict", data := .dict #[] }) h.objs.size (DctO h.objs.size []) := by
  refine ⟨⟨Nat.zero_le _, beq_eq_false_iff_ne.mpr (Ne.symm (Nat.ne_of_lt hb)), [], .nil, _, #[], 0, Heap.get?_push_size _ rfl, ⟨rfl, rfl, rfl⟩, rfl, rfl, List.nodup_nil⟩, ⟨_, Heap.get?_push_size _ rfl⟩, fun h1 h2 p hk => ?_⟩
  obtain ⟨z1, z2, ys, r, o, es, ep, e1, e2⟩ := p
  exact ⟨z1, z2, ys, r, o, es, ep, hk _ e1, e2⟩
def tDNewX : TE := fun _ H Q => ∀ p, H p = none → Q (.ref p) (upd H p (DctO p []))
theorem pe_dnewX {X : Cx} {pos : Pos} : PE X (.Dict [] [] pos) tDNewX := ⟨fun pins s σ H Q I h =>
  wpAny_Dict_empty ⟨.ref s.heap.objs.size, _, I.laid (a := s.heap.objs.size) (o := DctO s.heap.objs.size []) (t' := s.toks) (fun _ _ q => Heap.get?_push_of_some _ q) (Nat.le_refl _) (dx_ok s.heap I.big), rfl, h _ (I.hok.fresh (Nat.le_refl _))⟩⟩
section
variable {X : Cx}
theorem tailD {prog : Program} {w : World} {A : Around} {E : Value → Shared → Prop} {s : Shared} {value slice : Expr} {T id : String} {o i : Value} {Q : Value → Shared → Prop} (hT : s.TypeIs o T)
    (hl : typeLookup (.type T) "__getitem__" = pure (some (.builtin id))) (hs : subscripted slice false o i = operate [o, i] (getItem o i))
    (h : wpAny (model prog w) A (getItem o i) Q E s) : wpAny (model prog w) A (subscriptTail value slice o i) Q E s := by
  unfold subscriptTail
  refine wpAny_bind ?_
  rw [getitemInPython_of_ne hT.not_modules]
  refine wpAny_bind (wpAny_specialOf hT hl ?_)
  have fin : wpAny (model prog w) A (subscripted slice false o i) (fun r s₃ => wpAny (model prog w) A (letTemporaryGo value o r >>= fun _ => pure r) Q E s₃) E s := by
    rw [hs]
    exact wpAny_operating (wpAny_mono h (fun r s₃ h₃ => wpAny_bind (wpAny_letTemporaryGo (wpAny_pure h₃))) fun _ _ x => x)
  first
    | exact wpAny_pure (wpAny_bind fin)
    | exact wpAny_bind (wpAny_pure (wpAny_bind fin))
    | exact wpAny_bind fin
def rIxD (K : PySem.W.Frag) : R2 := fun x y H Q => ∃ a b xs k v, x = .ref a ∧ y = .ref b ∧ DAt K H a xs ∧ SqT K H b (k.map V.int) ∧ valX xs k = some v ∧ Q v H
theorem ix_dct (hu : X.A.units + 1 < cLine) : IxR X (rIxD X.K) := by
  intro value slice pins s σ H x y v u Q I rx ry h hs
  obtain ⟨a, b, xs, k, z, rfl, rfl, hd, hb, hv, q⟩ := h
  cases rx
  cases ry
  exact tailD (dx_typeIs I hd) PySem.F.slot_dict_getitem.lookup hs (dx_getItem hu I hd hb hv fun w' s' I' rw' => ⟨z, H, I', rw', q⟩)
def rInD (K : PySem.W.Frag) (n : Bool) : R2 := fun x y H Q => ∃ a b xs k, y = .ref a ∧ x = .ref b ∧ DAt K H a xs ∧ SqT K H b (k.map V.int) ∧ Q (.bl (if n = true then !(valX xs k).isSome else (valX xs k).isSome)) H
theorem op_inD (hu : X.A.units + 1 < cLine) : OpR X (compareOp .In) (rInD X.K false) := by
  intro pins s σ H x y v u Q I rx ry h
  obtain ⟨a, b, xs, k, rfl, rfl, hd, hb, q⟩ := h
  cases rx
  cases ry
  exact dx_in hu I hd hb fun s' I' => ⟨.bl _, H, I', rfl, q⟩
theorem op_notInD (hu : X.A.units + 1 < cLine) : OpR X (compareOp .NotIn) (rInD X.K true) := by
  intro pins s σ H x y v u Q I rx ry h
  obtain ⟨a, b, xs, k, rfl, rfl, hd, hb, q⟩ := h
  cases rx
  cases ry
  exact dx_notIn hu I hd hb fun s' I' => ⟨.bl _, H, I', rfl, q⟩
def rSetD (K : PySem.W.Frag) : V → V → V → Hp → (Hp → Prop) → Prop := fun o i v H Q => ∃ a b xs k, o = .ref a ∧ i = .ref b ∧ DAt K H a xs ∧ SqT K H b (k.map V.int) ∧ xs.length < sizeLine ∧ Q (upd H a (DctO a (putX xs k b v)))
theorem set_dct (hu : X.A.units + 1 < cLine) : PSet X (rSetD X.K) := by
  intro pins s σ H o i v ov iv u Q I ro ri rv h
  obtain ⟨a, b, xs, k, rfl, rfl, hd, hb, hl, q⟩ := h
  cases ro
  cases ri
  exact dx_setItem hu I hd hb hl rv fun s' I' => ⟨_, I', q⟩
def rLenD (K : PySem.W.Frag) : List V → Hp → VK → Prop := fun vs H Q => ∃ a xs, vs = [.ref a] ∧ DAt K H a xs ∧ Q (.int ((xs.length : Nat) : Int)) H
theorem call_len_dct : CallR X (.builtin "len") (rLenD X.K) := by
  intro pins s σ H vs us Q I r h
  obtain ⟨a, xs, rfl, hd, q⟩ := h
  obtain ⟨u, rfl, rx⟩ := vals1 r
  obtain rfl : u = .ref a := rx
  obtain ⟨z, hm, ys, rel, dd⟩ := dx_of I hd
  have hl : xs.length = ys.length := Paired.length rel
  refine call_len_dictH hm dd (by rw [← hl]; rw [sizeLine_eq] at z; omega) ?_
  rw [← hl]
  exact ⟨.int ((xs.length : Nat) : Int), H, I.tok _, ⟨_, rfl⟩, q⟩
end
/-! a dict is no code object -/
def oneHeap (c : Addr) (o : Obj) : Heap := { objs := Array.replicate (c + 1) o }
theorem oneHeap_get {c : Addr} {cls : Value} {vs : Array Value} : (oneHeap c { cls := cls, data := .fields vs }).get? c = some { cls := cls, data := .fields vs } := by
  unfold Heap.get? oneHeap
  simp
theorem code_ne {c : Addr} {q : Str} {xs : List DEnt} : LamX.CodeO c q ≠ DctO c xs := fun h => by
  unfold LamX.CodeO DctO at h
  injection h with h
  have h2 := congrFun h (oneHeap c { cls := .none, data := .fields #[.none, .str q default] })
  have h3 : ∃ (oc : Obj) (vs : Array Value) (t : Tok), (oneHeap c { cls := .none, data := .fields #[.none, .str q default] }).get? c = some oc ∧ oc.data = .fields vs ∧ vs[1]? = some (.str q t) := ⟨_, _, default, oneHeap_get, rfl, rfl⟩
  rw [h2] at h3
  obtain ⟨_, _, _, _, o, es, ep, e1, _, e3, _⟩ := h3
  rw [oneHeap_get] at e1
  cases e1
  cases e3

end CPD
section CP2
/-- the tables of code objects that lambdas are kept in, each with the name of its def's lambdas -/
class Tbs where
  T : List (Addr × Str)
  cs : List (Addr × Addr)
/-! ## What stands for what -/
def KTup (K : PySem.W.Frag) (a : Addr) (xs : List V) : Prop := ∃ (o : Obj) (its : Array Value) (n : Nat), K.lookup a = some o ∧ o.cls = .type "tuple" ∧ o.data = .seq its n ∧ its.size ≤ sizeLine ∧ Vals xs its.toList
def KLst (K : PySem.W.Frag) (a : Addr) (xs : List V) : Prop := ∃ (o : Obj) (its : Array Value) (n : Nat), K.lookup a = some o ∧ o.cls = .type "list" ∧ o.dict = none ∧ o.data = .seq its n ∧ its.size ≤ sizeLine ∧ Vals xs its.toList
mutual
inductive RV (K : PySem.W.Frag) (ω α : List Addr) (H : Hp) : V → D → Prop where
  | non : RV K ω α H .non .non
  | bl (b : Bool) : RV K ω α H (.bl b) (.bl b)
  | int (i : Int) : RV K ω α H (.int i) (.int i)
  | str (s : Str) : RV K ω α H (.str s) (.str s)
  | tup {a : Addr} {xs : List V} {ds : List D} : (Rd H a (.tup xs) ∧ a ∉ α) ∨ KTup K a xs → RVs K ω α H xs ds → RV K ω α H (.ref a) (.tup ds)
  | lst {a : Addr} {xs : List V} {ds : List D} : H a = some (.lst xs) → a ∉ α → a ∉ ω → RVs K ω α H xs ds → RV K ω α H (.ref a) (.lst ds)
  | fix {a : Addr} {xs : List V} {ds : List D} : ((Rd H a (.lst xs) ∧ a ∉ α) ∧ a ∉ ω) ∨ KLst K a xs → RVs K ω α H xs ds → RV K ω α H (.ref a) (.fix ds)
  | ref {a : Addr} {n : Nat} : α[n]? = some a → RV K ω α H (.ref a) (.ref n)
inductive RVs (K : PySem.W.Frag) (ω α : List Addr) (H : Hp) : List V → List D → Prop where
  | nil : RVs K ω α H [] []
  | cons {v : V} {d : D} {vs : List V} {ds : List D} : RV K ω α H v d → RVs K ω α H vs ds → RVs K ω α H (v :: vs) (d :: ds)
end
/-- a dict's entries stand for values -/
def DRV (K : PySem.W.Frag) (ω α : List Addr) (H : Hp) : List DEnt → List (List Int × D) → Prop := Paired fun x e => x.1 = e.1 ∧ RV K ω α H (.ref x.2.1) (.tup (e.1.map D.int)) ∧ RV K ω α H x.2.2 e.2
def CV (K : PySem.W.Frag) (ω α : List Addr) (H : Hp) (a : Addr) : Cell → Prop
  | .lst ds => ∃ xs, H a = some (.lst xs) ∧ RVs K ω α H xs ds
  | .dct es => ∃ xs, H a = some (DctO a xs) ∧ DRV K ω α H xs es
/-- no table of code objects -/
def NT (o : HO) : Prop := ∀ ps, o ≠ .tbl ps
/-- a step of the heap -/
structure Stp (α : List Addr) (H : Hp) (α' : List Addr) (H' : Hp) : Prop where
  pre : α <+: α'
  kept : ∀ a o, H a = some o → a ∉ α → NT o → H' a = some o
  new : ∀ a, a ∈ α' → a ∉ α → ∀ o, NT o → H a ≠ some o
def BelowB (b : Nat) (M : Mem) : Prop := ∀ n, n < b → ∀ c, M[n]? = some c → c.bel b = true
structure Pres (b : Nat) (M M' : Mem) : Prop where
  len : M.length ≤ M'.length
  bel : ∀ b0, b0 ≤ b → BelowB b0 M → BelowB b0 M'
def RS (K : PySem.W.Frag) (ω α : List Addr) (H : Hp) (σ : L2.St) (ρ : Env) : Prop := ρ.length ≤ σ.length ∧ ∀ (i : Nat) (d : D), ρ[i]? = some (some d) → ∃ v, σ[i]? = some (some v) ∧ RV K ω α H v d

variable [TB : Tbs]
structure Sim (K : PySem.W.Frag) (ω α : List Addr) (H : Hp) (M : Mem) : Prop where
  len : α.length = M.length
  nd : α.Nodup
  hid : ∀ a, a ∈ ω → a ∉ α ∧ ∃ o, H a = some o ∧ NT o
  cell : ∀ (n : Nat) (a : Addr) (c : Cell), α[n]? = some a → M[n]? = some c → CV K ω α H a c
  tab : LamX.Tabs TB.T H
theorem tabs_upd {H : Hp} {a : Addr} {o u : HO} (h : LamX.Tabs TB.T H) (e : H a = some o) (h1 : ∀ ps, o ≠ .tbl ps) (h2 : ∀ q, o ≠ LamX.CodeO a q) : LamX.Tabs TB.T (upd H a u) := fun p hp => by
  obtain ⟨ps, e1, e2, e3⟩ := h p hp
  refine ⟨ps, by rw [upd_ne (fun z => h1 ps (by rw [z, e] at e1; exact Option.some.inj e1))]; exact e1, e2, fun pos cv hc => ?_⟩
  obtain ⟨c, e4, e5⟩ := e3 pos cv hc
  exact ⟨c, e4, by rw [upd_ne (fun z => by subst z; rw [e] at e5; exact h2 _ (Option.some.inj e5))]; exact e5⟩
theorem Stp.old {α α' : List Addr} {H H' : Hp} (s : Stp α H α' H') (a : Addr) (o : HO) (h : H a = some o) (n : a ∉ α) (t : NT o := by intro ps e; cases e) : H' a = some o := s.kept a o h n t
theorem Stp.no {α α' : List Addr} {H H' : Hp} (s : Stp α H α' H') {a : Addr} {o : HO} {p : Prop} (m : a ∈ α') (n : a ∉ α) (h : H a = some o) (t : NT o := by intro ps e; cases e) : p := absurd h (s.new a m n o t)
theorem Stp.refl (α : List Addr) (H : Hp) : Stp α H α H := ⟨List.prefix_refl _, fun _ _ h _ _ => h, fun _ h n => absurd h n⟩
theorem Stp.trans {α β γ : List Addr} {H1 H2 H3 : Hp} (s : Stp α H1 β H2) (t : Stp β H2 γ H3) : Stp α H1 γ H3 where
  pre := s.pre.trans t.pre
  kept := fun a o h n nt => by
    by_cases hb : a ∈ β
    · exact s.no hb n h nt
    · exact t.kept a o (s.kept a o h n nt) hb nt
  new := fun a h n o nt e => by
    by_cases hb : a ∈ β
    · exact s.no hb n e nt
    · exact t.no h hb (s.kept a o e n nt) nt
theorem Pres.refl (b : Nat) (M : Mem) : Pres b M M := ⟨Nat.le_refl _, fun _ _ h => h⟩
theorem Pres.trans {b : Nat} {M1 M2 M3 : Mem} (p : Pres b M1 M2) (q : Pres b M2 M3) : Pres b M1 M3 := ⟨Nat.le_trans p.len q.len, fun b0 h x => q.bel b0 h (p.bel b0 h x)⟩

theorem Rd.step {α α' : List Addr} {H H' : Hp} {a : Addr} {u : HO} (s : Stp α H α' H') (h : Rd H a u ∧ a ∉ α) (hu : NT u := by intro ps e; cases e) : Rd H' a u ∧ a ∉ α' := by
  obtain ⟨h, n⟩ := h
  rcases h with h | ⟨o, h⟩
  · exact ⟨.inl (s.old a _ h n hu), fun m => s.no m n h hu⟩
  · exact ⟨.inr ⟨o, s.old a _ h n⟩, fun m => s.no m n h⟩
mutual
theorem RV.step {K : PySem.W.Frag} {ω α α' : List Addr} {H H' : Hp} (s : Stp α H α' H') : ∀ (d : D) (v : V), RV K ω α H v d → RV K ω α' H' v d
  | .non, _, .non => .non
  | .bl _, _, .bl b => .bl b
  | .int _, _, .int b => .int b
  | .str _, _, .str b => .str b
  | .tup ds, _, .tup h r => .tup (h.imp (fun q => Rd.step s q) id) (RVs.step s ds _ r)
  | .lst ds, _, .lst h n w r => .lst (s.old _ _ h n) (fun m => s.no m n h) w (RVs.step s ds _ r)
  | .fix ds, _, .fix h r => .fix (h.imp (fun q => ⟨Rd.step s q.1, q.2⟩) id) (RVs.step s ds _ r)
  | .ref n, _, .ref h => .ref (by
      obtain ⟨t, rfl⟩ := s.pre
      obtain ⟨hl, he⟩ := List.getElem?_eq_some_iff.mp h
      rw [List.getElem?_append_left hl]; exact h)
theorem RVs.step {K : PySem.W.Frag} {ω α α' : List Addr} {H H' : Hp} (s : Stp α H α' H') : ∀ (ds : List D) (vs : List V), RVs K ω α H vs ds → RVs K ω α' H' vs ds
  | [], _, .nil => .nil
  | d :: ds, _, .cons h r => .cons (RV.step s d _ h) (RVs.step s ds _ r)
end
theorem DRV.step {K : PySem.W.Frag} {ω α α' : List Addr} {H H' : Hp} (s : Stp α H α' H') {xs : List DEnt} {es : List (List Int × D)} (r : DRV K ω α H xs es) : DRV K ω α' H' xs es := Paired.mapP r fun _ _ h => ⟨h.1, h.2.1.step s, h.2.2.step s⟩
theorem RS.step {K : PySem.W.Frag} {ω α α' : List Addr} {H H' : Hp} {σ : L2.St} {ρ : Env} (s : Stp α H α' H') (r : RS K ω α H σ ρ) : RS K ω α' H' σ ρ := ⟨r.1, fun i d h => by
  obtain ⟨v, e, q⟩ := r.2 i d h
  exact ⟨v, e, q.step s⟩⟩
theorem RVs.length {K : PySem.W.Frag} {ω α : List Addr} {H : Hp} : ∀ {vs : List V} {ds : List D}, RVs K ω α H vs ds → vs.length = ds.length
  | _, _, .nil => rfl
  | _, _, .cons _ r => by rw [List.length_cons, List.length_cons, r.length]
theorem RVs.get {K : PySem.W.Frag} {ω α : List Addr} {H : Hp} : ∀ {vs : List V} {ds : List D} {i : Nat} {d : D}, RVs K ω α H vs ds → ds[i]? = some d → ∃ v, vs[i]? = some v ∧ RV K ω α H v d
  | _, _, _, _, .nil, h => by simp at h
  | _, _, 0, _, .cons h r, e => by simp at e; subst e; exact ⟨_, rfl, h⟩
  | _, _, i + 1, _, .cons h r, e => by
    obtain ⟨v, e1, q⟩ := RVs.get (i := i) r (by simpa using e)
    exact ⟨v, by simpa using e1, q⟩
theorem RVs.getV {K : PySem.W.Frag} {ω α : List Addr} {H : Hp} : ∀ {vs : List V} {ds : List D} {i : Nat} {v : V}, RVs K ω α H vs ds → vs[i]? = some v → ∃ d, ds[i]? = some d ∧ RV K ω α H v d
  | _, _, _, _, .nil, h => by simp at h
  | _, _, 0, _, .cons h r, e => by simp at e; subst e; exact ⟨_, rfl, h⟩
  | _, _, i + 1, _, .cons h r, e => by
    obtain ⟨v, e1, q⟩ := RVs.getV (i := i) r (by simpa using e)
    exact ⟨v, by simpa using e1, q⟩
theorem RVs.append {K : PySem.W.Frag} {ω α : List Addr} {H : Hp} : ∀ {vs ws : List V} {ds es : List D}, RVs K ω α H vs ds → RVs K ω α H ws es → RVs K ω α H (vs ++ ws) (ds ++ es)
  | _, _, _, _, .nil, s => s
  | _, _, _, _, .cons h r, s => .cons h (r.append s)
theorem RVs.take {K : PySem.W.Frag} {ω α : List Addr} {H : Hp} : ∀ {vs : List V} {ds : List D} (n : Nat), RVs K ω α H vs ds → RVs K ω α H (vs.take n) (ds.take n)
  | _, _, 0, _ => .nil
  | _, _, _ + 1, .nil => .nil
  | _, _, n + 1, .cons h r => .cons h (RVs.take n r)
theorem RVs.drop {K : PySem.W.Frag} {ω α : List Addr} {H : Hp} : ∀ {vs : List V} {ds : List D} (n : Nat), RVs K ω α H vs ds → RVs K ω α H (vs.drop n) (ds.drop n)
  | _, _, 0, r => r
  | _, _, _ + 1, .nil => .nil
  | _, _, n + 1, .cons h r => RVs.drop n r
theorem RVs.set {K : PySem.W.Frag} {ω α : List Addr} {H : Hp} {v : V} {d : D} (q : RV K ω α H v d) : ∀ {vs : List V} {ds : List D} (n : Nat), RVs K ω α H vs ds → RVs K ω α H (vs.set n v) (ds.set n d)
  | _, _, _, .nil => .nil
  | _, _, 0, .cons h r => .cons q r
  | _, _, n + 1, .cons h r => .cons h (RVs.set q n r)
theorem RVs.erase {K : PySem.W.Frag} {ω α : List Addr} {H : Hp} : ∀ {vs : List V} {ds : List D} (n : Nat), RVs K ω α H vs ds → RVs K ω α H (vs.eraseIdx n) (ds.eraseIdx n)
  | _, _, _, .nil => .nil
  | _, _, 0, .cons h r => r
  | _, _, n + 1, .cons h r => .cons h (RVs.erase n r)
theorem RVs.reverse {K : PySem.W.Frag} {ω α : List Addr} {H : Hp} : ∀ {vs : List V} {ds : List D}, RVs K ω α H vs ds → RVs K ω α H vs.reverse ds.reverse
  | _, _, .nil => .nil
  | _, _, .cons h r => by rw [List.reverse_cons, List.reverse_cons]; exact r.reverse.append (.cons h .nil)
theorem RVs.dropLast {K : PySem.W.Frag} {ω α : List Addr} {H : Hp} {vs : List V} {ds : List D} (r : RVs K ω α H vs ds) : RVs K ω α H vs.dropLast ds.dropLast := by
  rw [List.dropLast_eq_take, List.dropLast_eq_take, r.length]; exact r.take _

/-! ## Outcomes -/
section
variable (K : PySem.W.Frag) (ω : List Addr) (mg : Str → Option Value) (E : XK) (b : Nat)
def Post {A : Type} (α : List Addr) (H : Hp) (M : Mem) (r : Res A) (R : A → Mem → List Addr → Hp → Prop) : Prop :=
  match r with
  | .stuck => False
  | .ok x M' => ∀ α' H', Stp α H α' H' → Sim K ω α' H' M' → Pres b M M' → R x M' α' H'
  | .exc c M' => ∀ α' H' C, Stp α H α' H' → Sim K ω α' H' M' → Pres b M M' → mg c = some (.ref C) → E (.ref C) none H'
end
section
variable {K : PySem.W.Frag} {ω : List Addr} {mg : Str → Option Value} {E : XK} {b : Nat}
theorem Post.mono {A : Type} {α : List Addr} {H : Hp} {M : Mem} {r : Res A} {R R' : A → Mem → List Addr → Hp → Prop} (p : Post K ω mg E b α H M r R)
    (h : ∀ x M' α' H', Stp α H α' H' → Sim K ω α' H' M' → Pres b M M' → R x M' α' H' → R' x M' α' H') : Post K ω mg E b α H M r R' := by
  cases r with
  | stuck => exact p
  | ok x M' => exact fun α' H' s t q => h _ _ _ _ s t q (p α' H' s t q)
  | exc c M' => exact p
theorem Post.bind {A B : Type} {α : List Addr} {H : Hp} {M : Mem} {r : Res A} {f : A → Mem → Res B} {R : B → Mem → List Addr → Hp → Prop} (p : Post K ω mg E b α H M (r.bind f) R) :
    Post K ω mg E b α H M r fun x M1 α1 H1 => Stp α H α1 H1 ∧ Sim K ω α1 H1 M1 ∧ Pres b M M1 ∧ Post K ω mg E b α1 H1 M1 (f x M1) R := by
  cases r with
  | stuck => exact p
  | exc c M' => exact p
  | ok x M1 =>
    intro α1 H1 s t q
    refine ⟨s, t, q, ?_⟩
    have p' : Post K ω mg E b α H M (f x M1) R := p
    cases e : f x M1 with
    | stuck => rw [e] at p'; exact p'
    | ok y M2 =>
      rw [e] at p'
      exact fun α2 H2 s2 t2 q2 => p' α2 H2 (s.trans s2) t2 (q.trans q2)
    | exc c M2 =>
      rw [e] at p'
      exact fun α2 H2 C s2 t2 q2 => p' α2 H2 C (s.trans s2) t2 (q.trans q2)
theorem Post.ok {A : Type} {α : List Addr} {H : Hp} {M : Mem} {x : A} {R : A → Mem → List Addr → Hp → Prop} (p : Post K ω mg E b α H M (.ok x M) R) (t : Sim K ω α H M) : R x M α H :=
  p α H (Stp.refl _ _) t (Pres.refl _ _)
end

/-- a new object that is no cell -/
theorem Stp.fresh {α : List Addr} {H : Hp} {p : Addr} {o : HO} (h : H p = none) : Stp α H α (upd H p o) :=
  ⟨List.prefix_refl _, fun a u e _ _ => by rw [upd_ne (ne_of_none e h)]; exact e, fun _ h n => absurd h n⟩
theorem CV.addr {K : PySem.W.Frag} {ω α : List Addr} {H : Hp} {a : Addr} {c : Cell} (h : CV K ω α H a c) : ∃ o, H a = some o := by
  cases c with
  | lst ds => obtain ⟨xs, e, _⟩ := h; exact ⟨_, e⟩
  | dct es => obtain ⟨xs, e, _⟩ := h; exact ⟨_, e⟩
theorem Sim.there {K : PySem.W.Frag} {ω α : List Addr} {H : Hp} {M : Mem} (s : Sim K ω α H M) {a : Addr} (h : a ∈ α) : ∃ o, H a = some o := by
  obtain ⟨n, hn, e⟩ := List.getElem_of_mem h
  have e1 : α[n]? = some a := by rw [List.getElem?_eq_getElem hn, e]
  have e2 : M[n]? = some (M[n]'(by rw [← s.len]; exact hn)) := List.getElem?_eq_getElem _
  exact (s.cell n a _ e1 e2).addr
theorem Sim.notin {K : PySem.W.Frag} {ω α : List Addr} {H : Hp} {M : Mem} (s : Sim K ω α H M) {p : Addr} (h : H p = none) : p ∉ α := fun m => by
  obtain ⟨o, e⟩ := s.there m
  rw [h] at e; cases e
theorem Sim.fresh {K : PySem.W.Frag} {ω α : List Addr} {H : Hp} {M : Mem} (s : Sim K ω α H M) {p : Addr} {o : HO} (h0 : H p = none) : Sim K ω α (upd H p o) M where
  len := s.len
  nd := s.nd
  hid := fun a h => ⟨(s.hid a h).1, by
    obtain ⟨_, u, e, nt⟩ := s.hid a h
    exact ⟨u, by rw [upd_ne (fun z => by subst z; rw [h0] at e; cases e)]; exact e, nt⟩⟩
  cell := fun n a c e1 e2 => by
    have q := s.cell n a c e1 e2
    have na : a ≠ p := fun z => by subst z; exact s.notin h0 (List.mem_of_getElem? e1)
    cases c with
    | lst ds =>
      obtain ⟨xs, e, r⟩ := q
      exact ⟨xs, by rw [upd_ne na]; exact e, r.step (Stp.fresh h0)⟩
    | dct es =>
      obtain ⟨xs, e, r⟩ := q
      exact ⟨xs, by rw [upd_ne na]; exact e, r.step (Stp.fresh h0)⟩
  tab := s.tab.ext fun b u e => by rw [upd_ne (ne_of_none e h0)]; exact e
/-- a new cell -/
theorem Stp.cell {α : List Addr} {H : Hp} {p : Addr} {o : HO} (h : H p = none) : Stp α H (α ++ [p]) (upd H p o) :=
  ⟨List.prefix_append _ _, fun a u e _ _ => by rw [upd_ne (ne_of_none e h)]; exact e, fun a m n o _ e => by
    rcases List.mem_append.mp m with m | m
    · exact absurd m n
    · rw [List.mem_singleton.mp m, h] at e; cases e⟩
theorem Sim.newc {K : PySem.W.Frag} {ω α : List Addr} {H : Hp} {M : Mem} (s : Sim K ω α H M) {p : Addr} {ob : HO} {cl : Cell} (h : H p = none) (hc : CV K ω (α ++ [p]) (upd H p ob) p cl) :
    Sim K ω (α ++ [p]) (upd H p ob) (M ++ [cl]) where
  len := by rw [List.length_append, List.length_append, s.len]; rfl
  nd := by
    rw [List.nodup_append]
    exact ⟨s.nd, by simp, fun a ha c hc e => by rw [List.mem_singleton.mp hc] at e; exact s.notin h (e ▸ ha)⟩
  hid := fun a m => by
    obtain ⟨n, u, e, nt⟩ := s.hid a m
    have na : a ≠ p := fun z => by subst z; rw [h] at e; cases e
    exact ⟨fun z => by
      rcases List.mem_append.mp z with z | z
      · exact n z
      · exact na (List.mem_singleton.mp z), u, by rw [upd_ne na]; exact e, nt⟩
  cell := fun n a c e1 e2 => by
    have st : Stp α H (α ++ [p]) (upd H p ob) := Stp.cell h
    by_cases hn : n < α.length
    · rw [List.getElem?_append_left hn] at e1
      rw [List.getElem?_append_left (by rw [← s.len]; exact hn)] at e2
      have q := s.cell n a c e1 e2
      have na : a ≠ p := fun z => by subst z; exact s.notin h (List.mem_of_getElem? e1)
      cases c with
      | lst es =>
        obtain ⟨ys, e, q⟩ := q
        exact ⟨ys, by rw [upd_ne na]; exact e, q.step st⟩
      | dct es =>
        obtain ⟨ys, e, q⟩ := q
        exact ⟨ys, by rw [upd_ne na]; exact e, q.step st⟩
    · rw [List.getElem?_append_right (by omega)] at e1
      rw [List.getElem?_append_right (by rw [← s.len]; omega)] at e2
      rw [s.len] at e1
      cases hk : n - M.length with
      | zero =>
        rw [hk] at e1 e2
        simp at e1 e2
        subst e1 e2
        exact hc
      | succ k => rw [hk] at e1; simp at e1
  tab := s.tab.ext fun b u e => by rw [upd_ne (ne_of_none e h)]; exact e
theorem Sim.newcell {K : PySem.W.Frag} {ω α : List Addr} {H : Hp} {M : Mem} (s : Sim K ω α H M) {p : Addr} {xs : List V} {ds : List D} (h : H p = none) (r : RVs K ω α H xs ds) :
    Sim K ω (α ++ [p]) (upd H p (.lst xs)) (M ++ [.lst ds]) := s.newc h ⟨xs, upd_same, r.step (Stp.cell h)⟩
theorem Sim.newdct {K : PySem.W.Frag} {ω α : List Addr} {H : Hp} {M : Mem} (s : Sim K ω α H M) {p : Addr} (h : H p = none) : Sim K ω (α ++ [p]) (upd H p (DctO p [])) (M ++ [.dct []]) := s.newc h ⟨[], upd_same, .nil⟩
mutual
theorem bel_of_pure (n : Nat) : ∀ d : D, d.pure = true → d.bel n = true
  | .non, _ => rfl
  | .bl _, _ => rfl
  | .int _, _ => rfl
  | .str _, _ => rfl
  | .tup xs, h => by simp only [D.bel]; exact bels_of_pure n xs (by simpa [D.pure] using h)
  | .lst xs, h => by simp only [D.bel]; exact bels_of_pure n xs (by simpa [D.pure] using h)
  | .fix xs, h => by simp only [D.bel]; exact bels_of_pure n xs (by simpa [D.pure] using h)
  | .ref _, h => by simp [D.pure] at h
theorem bels_of_pure (n : Nat) : ∀ ds : List D, pures ds = true → belows n ds = true
  | [], _ => rfl
  | d :: r, h => by
    simp only [pures, Bool.and_eq_true] at h
    simp only [belows, Bool.and_eq_true]
    exact ⟨bel_of_pure n d h.1, bels_of_pure n r h.2⟩
end
mutual
theorem RV.bel {K : PySem.W.Frag} {ω α : List Addr} {H : Hp} : ∀ (d : D) (v : V), RV K ω α H v d → d.bel α.length = true
  | .non, _, _ => rfl
  | .bl _, _, _ => rfl
  | .int _, _, _ => rfl
  | .str _, _, _ => rfl
  | .tup ds, _, .tup _ r => by simp only [D.bel]; exact RVs.bel ds _ r
  | .lst ds, _, .lst _ _ _ r => by simp only [D.bel]; exact RVs.bel ds _ r
  | .fix ds, _, .fix _ r => by simp only [D.bel]; exact RVs.bel ds _ r
  | .ref n, _, .ref h => by simp only [D.bel]; exact decide_eq_true (List.getElem?_eq_some_iff.mp h).1
theorem RVs.bel {K : PySem.W.Frag} {ω α : List Addr} {H : Hp} : ∀ (ds : List D) (vs : List V), RVs K ω α H vs ds → belows α.length ds = true
  | [], _, _ => rfl
  | d :: ds, _, .cons h r => by simp only [belows, Bool.and_eq_true]; exact ⟨RV.bel d _ h, RVs.bel ds _ r⟩
end
theorem DRV.bel {K : PySem.W.Frag} {ω α : List Addr} {H : Hp} {xs : List DEnt} {es : List (List Int × D)} (r : DRV K ω α H xs es) : belows α.length (es.map (·.2)) = true := by
  induction r with
  | nil => rfl
  | cons h _ ih => simp only [List.map_cons, belows, Bool.and_eq_true]; exact ⟨RV.bel _ _ h.2.2, ih⟩
theorem Sim.below {K : PySem.W.Frag} {ω α : List Addr} {H : Hp} {M : Mem} (s : Sim K ω α H M) : BelowB M.length M := fun n hn c e => by
  have hn' : n < α.length := by rw [s.len]; exact hn
  have q := s.cell n _ c (List.getElem?_eq_getElem hn') e
  cases c with
  | lst ds => obtain ⟨xs, _, r⟩ := q; show belows M.length ds = true; rw [← s.len]; exact r.bel
  | dct es => obtain ⟨xs, _, r⟩ := q; show belows M.length (es.map (·.2)) = true; rw [← s.len]; exact r.bel
theorem belows_append (n : Nat) : ∀ xs ys : List D, belows n (xs ++ ys) = (belows n xs && belows n ys)
  | [], ys => by simp [belows]
  | x :: r, ys => by simp only [List.cons_append, belows, belows_append n r ys, Bool.and_assoc]
theorem Pres.grow (b : Nat) (M N : Mem) (hb : b ≤ M.length) : Pres b M (M ++ N) := ⟨by rw [List.length_append]; omega, fun b0 h x n hn c e => by
  rw [List.getElem?_append_left (by omega)] at e
  exact x n hn c e⟩
theorem Sim.there' {K : PySem.W.Frag} {ω α : List Addr} {H : Hp} {M : Mem} (s : Sim K ω α H M) {n : Nat} {a : Addr} (h : α[n]? = some a) : (∃ ys, H a = some (.lst ys)) ∨ ∃ xs, H a = some (DctO a xs) := by
  have hn : n < M.length := by rw [← s.len]; exact (List.getElem?_eq_some_iff.mp h).1
  have q := s.cell n a _ h (List.getElem?_eq_getElem hn)
  cases hc : M[n] with
  | lst es => rw [hc] at q; obtain ⟨ys, e, _⟩ := q; exact .inl ⟨ys, e⟩
  | dct es => rw [hc] at q; obtain ⟨ys, e, _⟩ := q; exact .inr ⟨ys, e⟩
theorem no_code_lst {a : Addr} {xs : List V} (q : Str) : HO.lst xs ≠ LamX.CodeO a q := fun z => by unfold LamX.CodeO at z; cases z
theorem no_code_dct {a : Addr} {xs : List DEnt} (q : Str) : DctO a xs ≠ LamX.CodeO a q := fun z => code_ne z.symm
theorem Sim.tabUpd {K : PySem.W.Frag} {ω α : List Addr} {H : Hp} {M : Mem} (s : Sim K ω α H M) {n : Nat} {a : Addr} {ob : HO} (h : α[n]? = some a) : LamX.Tabs TB.T (upd H a ob) := by
  rcases s.there' h with ⟨ys, e⟩ | ⟨xs, e⟩
  · exact tabs_upd s.tab e (fun ps z => by cases z) no_code_lst
  · exact tabs_upd s.tab e (fun ps z => by unfold DctO at z; cases z) no_code_dct
/-- a cell is changed -/
theorem Sim.writec {K : PySem.W.Frag} {ω α : List Addr} {H : Hp} {M : Mem} (s : Sim K ω α H M) {n : Nat} {a : Addr} {ob : HO} {cl : Cell} (h : α[n]? = some a) (hc : CV K ω α (upd H a ob) a cl) :
    Sim K ω α (upd H a ob) (M.set n cl) ∧ Stp α H α (upd H a ob) := by
  have ma : a ∈ α := List.mem_of_getElem? h
  have st : Stp α H α (upd H a ob) := ⟨List.prefix_refl _, fun c u e nm _ => by rw [upd_ne (fun z => nm (by rw [z]; exact ma))]; exact e, fun _ h n => absurd h n⟩
  refine ⟨⟨by rw [List.length_set]; exact s.len, s.nd, fun c m => ⟨(s.hid c m).1, by
    obtain ⟨n, u, e, nt⟩ := s.hid c m
    exact ⟨u, by rw [upd_ne (fun z => n (by rw [z]; exact ma))]; exact e, nt⟩⟩, fun k c u e1 e2 => ?_, s.tabUpd h⟩, st⟩
  by_cases hk : k = n
  · subst hk
    rw [h] at e1; cases e1
    rw [List.getElem?_set_self (by rw [← s.len]; exact (List.getElem?_eq_some_iff.mp h).1)] at e2
    cases e2
    exact hc
  · rw [List.getElem?_set_ne (Ne.symm hk)] at e2
    have q := s.cell k c u e1 e2
    have na : c ≠ a := fun z => by
      subst z
      obtain ⟨h1, g1⟩ := List.getElem?_eq_some_iff.mp e1
      obtain ⟨h2, g2⟩ := List.getElem?_eq_some_iff.mp h
      exact hk ((List.getElem_inj s.nd).mp (g1.trans g2.symm))
    cases u with
    | lst es =>
      obtain ⟨ys, e, q⟩ := q
      exact ⟨ys, by rw [upd_ne na]; exact e, q.step st⟩
    | dct es =>
      obtain ⟨ys, e, q⟩ := q
      exact ⟨ys, by rw [upd_ne na]; exact e, q.step st⟩
theorem Stp.cellw {α : List Addr} {H : Hp} {a : Addr} {ob : HO} (ma : a ∈ α) : Stp α H α (upd H a ob) := ⟨List.prefix_refl _, fun c u e nm _ => by rw [upd_ne (fun z => nm (by rw [z]; exact ma))]; exact e, fun _ h n => absurd h n⟩
theorem Sim.write {K : PySem.W.Frag} {ω α : List Addr} {H : Hp} {M : Mem} (s : Sim K ω α H M) {n : Nat} {a : Addr} {xs : List V} {ds : List D} (h : α[n]? = some a) (r : RVs K ω α H xs ds) :
    Sim K ω α (upd H a (.lst xs)) (M.set n (.lst ds)) ∧ Stp α H α (upd H a (.lst xs)) := s.writec h ⟨xs, upd_same, r.step (Stp.cellw (List.mem_of_getElem? h))⟩
theorem Sim.writed {K : PySem.W.Frag} {ω α : List Addr} {H : Hp} {M : Mem} (s : Sim K ω α H M) {n : Nat} {a : Addr} {xs : List DEnt} {es : List (List Int × D)} (h : α[n]? = some a) (r : DRV K ω α H xs es) :
    Sim K ω α (upd H a (DctO a xs)) (M.set n (.dct es)) ∧ Stp α H α (upd H a (DctO a xs)) := s.writec h ⟨xs, upd_same, r.step (Stp.cellw (List.mem_of_getElem? h))⟩
theorem belows_mem {n : Nat} {xs : List D} : belows n xs = true ↔ ∀ x ∈ xs, x.bel n = true := by
  induction xs with
  | nil => simp [belows]
  | cons x r ih => simp only [belows, Bool.and_eq_true, ih, List.forall_mem_cons]
theorem Pres.writed {b n : Nat} {M : Mem} {es : List (List Int × D)} {k : List Int} {v : D} (e : M[n]? = some (.dct es)) (hp : v.pure = true) : Pres b M (M.set n (.dct (putD es k v))) := ⟨by rw [List.length_set]; exact Nat.le_refl _, fun b0 hb x j hj c ec => by
  by_cases hjn : j = n
  · subst hjn
    rw [List.getElem?_set_self (List.getElem?_eq_some_iff.mp e).1] at ec
    cases ec
    have h1 : belows b0 (es.map (·.2)) = true := x j hj _ e
    have h2 := bel_of_pure b0 v hp
    show belows b0 ((putD es k v).map (·.2)) = true
    rw [belows_mem] at h1 ⊢
    intro y hy
    obtain ⟨z, hz, rfl⟩ := List.mem_map.mp hy
    unfold putD at hz
    split at hz
    · obtain ⟨u, hu, rfl⟩ := List.mem_map.mp hz
      split
      · exact h2
      · exact h1 _ (List.mem_map.mpr ⟨u, hu, rfl⟩)
    · rcases List.mem_append.mp hz with hz | hz
      · exact h1 _ (List.mem_map.mpr ⟨z, hz, rfl⟩)
      · rw [List.mem_singleton.mp hz]; exact h2
  · rw [List.getElem?_set_ne (Ne.symm hjn)] at ec
    exact x j hj c ec⟩
theorem Pres.write {b n : Nat} {M : Mem} {xs zs vs : List D} (e : M[n]? = some (.lst xs)) (hp : ¬ (decide (n < b) && !pures vs) = true)
    (hz : ∀ k, belows k xs = true → belows k vs = true → belows k zs = true) : Pres b M (M.set n (.lst zs)) := ⟨by rw [List.length_set]; exact Nat.le_refl _, fun b0 hb x k hk c ec => by
  by_cases hkn : k = n
  · subst hkn
    rw [List.getElem?_set_self (List.getElem?_eq_some_iff.mp e).1] at ec
    cases ec
    have h1 : belows b0 xs = true := x k hk _ e
    have h2 : pures vs = true := by
      have : k < b := by omega
      simpa [this] using hp
    exact hz b0 h1 (bels_of_pure b0 vs h2)
  · rw [List.getElem?_set_ne (Ne.symm hkn)] at ec
    exact x k hk c ec⟩
/-- hidden addresses may be let go -/
theorem RV.weak {K : PySem.W.Frag} {ω ω' α : List Addr} {H : Hp} (hs : ∀ a, a ∈ ω' → a ∈ ω) {d : D} {v : V} (h : RV K ω α H v d) : RV K ω' α H v d := by
  refine RV.rec (motive_1 := fun v d _ => RV K ω' α H v d) (motive_2 := fun vs ds _ => RVs K ω' α H vs ds) ?_ ?_ ?_ ?_ ?_ ?_ ?_ ?_ ?_ ?_ h
  · exact .non
  · exact fun b => .bl b
  · exact fun b => .int b
  · exact fun b => .str b
  · exact fun h _ r => .tup h r
  · exact fun h n w _ r => .lst h n (fun m => w (hs _ m)) r
  · exact fun h _ r => .fix (h.imp (fun q => ⟨q.1, fun m => q.2 (hs _ m)⟩) id) r
  · exact fun h => .ref h
  · exact .nil
  · exact fun _ _ h r => .cons h r
theorem RVs.weak {K : PySem.W.Frag} {ω ω' α : List Addr} {H : Hp} (hs : ∀ a, a ∈ ω' → a ∈ ω) : ∀ {ds : List D} {vs : List V}, RVs K ω α H vs ds → RVs K ω' α H vs ds
  | _, _, .nil => .nil
  | _, _, .cons h r => .cons (h.weak hs) (r.weak hs)
theorem DRV.weak {K : PySem.W.Frag} {ω ω' α : List Addr} {H : Hp} (hs : ∀ a, a ∈ ω' → a ∈ ω) {xs : List DEnt} {es : List (List Int × D)} (r : DRV K ω α H xs es) : DRV K ω' α H xs es := Paired.mapP r fun _ _ h => ⟨h.1, h.2.1.weak hs, h.2.2.weak hs⟩
theorem Sim.weak {K : PySem.W.Frag} {ω ω' α : List Addr} {H : Hp} {M : Mem} (hs : ∀ a, a ∈ ω' → a ∈ ω) (s : Sim K ω α H M) : Sim K ω' α H M := ⟨s.len, s.nd, fun a h => s.hid a (hs a h), fun n a c e1 e2 => by
  have q := s.cell n a c e1 e2
  cases c with
  | lst ds => obtain ⟨xs, e, r⟩ := q; exact ⟨xs, e, r.weak hs⟩
  | dct ds => obtain ⟨xs, e, r⟩ := q; exact ⟨xs, e, r.weak hs⟩, s.tab⟩
/-- an address that bears nothing may be hidden -/
theorem RV.hide {K : PySem.W.Frag} {ω α : List Addr} {H : Hp} {p : Addr} (hp : H p = none) {d : D} {v : V} (h : RV K ω α H v d) : RV K (p :: ω) α H v d := by
  refine RV.rec (motive_1 := fun v d _ => RV K (p :: ω) α H v d) (motive_2 := fun vs ds _ => RVs K (p :: ω) α H vs ds) ?_ ?_ ?_ ?_ ?_ ?_ ?_ ?_ ?_ ?_ h
  · exact .non
  · exact fun b => .bl b
  · exact fun b => .int b
  · exact fun b => .str b
  · exact fun h _ r => .tup h r
  · exact fun h n w _ r => .lst h n (fun m => by
      rcases List.mem_cons.mp m with rfl | m
      · rw [hp] at h; cases h
      · exact w m) r
  · exact fun h _ r => .fix (h.imp (fun q => ⟨q.1, fun m => by
      rcases List.mem_cons.mp m with rfl | m
      · rcases q.1.1 with z | ⟨o, z⟩ <;> (rw [hp] at z; cases z)
      · exact q.2 m⟩) id) r
  · exact fun h => .ref h
  · exact .nil
  · exact fun _ _ h r => .cons h r
theorem RVs.hide {K : PySem.W.Frag} {ω α : List Addr} {H : Hp} {p : Addr} (hp : H p = none) : ∀ {ds : List D} {vs : List V}, RVs K ω α H vs ds → RVs K (p :: ω) α H vs ds
  | _, _, .nil => .nil
  | _, _, .cons h r => .cons (h.hide hp) (r.hide hp)
theorem DRV.hide {K : PySem.W.Frag} {ω α : List Addr} {H : Hp} {p : Addr} (hp : H p = none) {xs : List DEnt} {es : List (List Int × D)} (r : DRV K ω α H xs es) : DRV K (p :: ω) α H xs es := Paired.mapP r fun _ _ h => ⟨h.1, h.2.1.hide hp, h.2.2.hide hp⟩
theorem Sim.hide {K : PySem.W.Frag} {ω α : List Addr} {H : Hp} {M : Mem} {p : Addr} {o : HO} (hp : H p = none) (s : Sim K ω α H M) (nt : NT o := by intro ps e; cases e) : Sim K (p :: ω) α (upd H p o) M := ⟨s.len, s.nd, fun a m => by
  rcases List.mem_cons.mp m with rfl | m
  · exact ⟨s.notin hp, o, upd_same, nt⟩
  · exact (s.fresh (o := o) hp).hid a m, fun n a c e1 e2 => by
  have q := s.cell n a c e1 e2
  have na : a ≠ p := fun z => by subst z; exact s.notin hp (List.mem_of_getElem? e1)
  cases c with
  | lst ds => obtain ⟨xs, e, r⟩ := q; exact ⟨xs, by rw [upd_ne na]; exact e, (r.hide hp).step (Stp.fresh hp)⟩
  | dct ds => obtain ⟨xs, e, r⟩ := q; exact ⟨xs, by rw [upd_ne na]; exact e, (r.hide hp).step (Stp.fresh hp)⟩, s.tab.ext fun b u e => by rw [upd_ne (ne_of_none e hp)]; exact e⟩
theorem RS.hide {K : PySem.W.Frag} {ω α : List Addr} {H : Hp} {σ : L2.St} {ρ : Env} {p : Addr} {o : HO} (hp : H p = none) (r : RS K ω α H σ ρ) : RS K (p :: ω) α (upd H p o) σ ρ := ⟨r.1, fun i d h => by
  obtain ⟨v, e, q⟩ := r.2 i d h
  exact ⟨v, e, (q.hide hp).step (Stp.fresh hp)⟩⟩
theorem Sim.hidN {K : PySem.W.Frag} {ω α : List Addr} {H : Hp} {M : Mem} {p : Addr} (s : Sim K ω α H M) (hp : H p = none) : p ∉ ω := fun m => by
  obtain ⟨_, o, e, _⟩ := s.hid p m
  rw [hp] at e; cases e

end CP2
section CPH

/-! ## Walks while an exception is handled -/
section
variable {prog : Program} {w : World} {A : Around} {E : Value → Shared → Prop} {s : Shared}
/-- the StopIteration that ends a walk, raised while the exception at x1 is handled -/
theorem stopped {α : Type} {x1 : Addr} {Q : α → Shared → Prop} (hot : HotX.HotAt A x1 s.heap)
    (hE : ∀ e h', (∀ b o, s.heap.get? b = some o → h'.get? b = some o) → (∃ o, h'.get? e = some o ∧ o.cls = .type "StopIteration") → E (.ref e) { s with heap := h' }) :
    wpAny (model prog w) A (newExc (.type "StopIteration") [] >>= fun e => (raiseNew e : Sem α)) Q E s := by
  obtain ⟨hh, o1, vs1, h1, d1, c1⟩ := hot
  refine wpAny_bind ?_
  simp only [newExc, newTuple]
  refine wpAny_bind (wpAny_newObj_type (wpAny_bind (m := firstArgMember _ _) (wpAny_of_eq (a := Value.none) (by first | rfl | (simp only [firstArgMember]; rfl)) (wpAny_newObj_type (HotX.raiseNew_hot ⟨hh, o1, vs1, Heap.get?_push_of_some _ (Heap.get?_push_of_some _ h1), d1, c1⟩
    (Nat.ne_of_lt (Heap.lt_size (Heap.get?_push_of_some _ h1))) (Heap.get?_push_size _ rfl) rfl (by first | (simp; done) | (simp; omega) | (simp only [Array.size_append]; simp; omega)) (hE _ _ (fun b o e => ?_) ⟨_, Heap.get?_update_self _ (Heap.get?_push_size _ rfl) rfl, rfl⟩)) (by size_fits)))) (by size_fits))
  exact (Heap.get?_update_other _ _ (Nat.ne_of_gt (Heap.lt_size (Heap.get?_push_of_some _ e)))).trans (Heap.get?_push_of_some _ (Heap.get?_push_of_some _ e))
theorem hot_keep {x1 a : Addr} {f : Obj → Obj} (hot : HotX.HotAt A x1 s.heap) (n : a ≠ x1) : HotX.HotAt A x1 (s.heap.update a f) := by
  obtain ⟨hh, o1, vs1, h1, d1, c1⟩ := hot
  exact ⟨hh, o1, vs1, (Heap.get?_update_other _ _ n).trans h1, d1, c1⟩
theorem list_end_hot {it l x1 : Addr} {i : Nat} {items : Array Value} {Q : Option Value → Shared → Prop} (hot : HotX.HotAt A x1 s.heap) (nx : it ≠ x1)
    (hit : s.heap.IsListIter it l i) (hl : s.heap.IsList l items) (hx : items[i]? = none)
    (hQ : ∀ h', Heap.ExtBut it s.heap h' → Q none { s with heap := h' }) : wpAny (model prog w) A (pyNext (.ref it)) Q E s := by
  obtain ⟨o, ho, hc, hd⟩ := id hit
  obtain ⟨ol, hol, _, nl, hdl⟩ := hl
  unfold pyNext
  refine wpAny_bind (wpAny_attempt (wpAny_callSpecial?_slot (name := Str.ofString "__next__") hit.typeIs slot_listiter_next (wpAny_call_entry slot_listiter_next hit.typeIs entry_listiter_next ?_ (args_listiter_next _))))
  refine (show wpAny _ _ (field (.ref it) 0 >>= _) _ _ s from wpAny_bind (wpAny_field ho hd (x := .ref l) rfl ?_))
  refine (show wpAny _ _ (if (Value.ref l == Value.none) = true then _ else _) _ _ s from ?_)
  rw [if_neg (show ¬ ((Value.ref l == Value.none) = true) from fun z => Bool.false_ne_true z)]
  refine (show wpAny _ _ (field (.ref it) 1 >>= _) _ _ s from wpAny_bind (wpAny_field ho hd (x := .int i 0) rfl ?_))
  refine (show wpAny _ _ (seqItems? (.ref l) >>= _) _ _ s from wpAny_bind (wpAny_seqItems hol hdl ?_))
  simp only [Int.toNat_natCast, hx]
  refine wpAny_bind (wpAny_rule (wpAny_bind (wpAny_setField ho hd (by simp) (stopped (hot_keep hot nx) fun e h' k he => wpAny_bind (wpAny_isInstance (T := "StopIteration") (b := true) he isSubtype_stop (wpAny_pure (hQ _ fun b o hb e' => k b o ((Heap.get?_update_other _ _ (Ne.symm hb)).trans e'))))))))
theorem tuple_end_hot {it t x1 : Addr} {i : Nat} {items : Array Value} {Q : Option Value → Shared → Prop} (hot : HotX.HotAt A x1 s.heap) (nx : it ≠ x1)
    (hit : IsTupIter s.heap it t i) (ht : IsTup s.heap t items) (hx : items[i]? = none)
    (hQ : ∀ h', Heap.ExtBut it s.heap h' → Q none { s with heap := h' }) : wpAny (model prog w) A (pyNext (.ref it)) Q E s := by
  obtain ⟨o, ho, hc, hd⟩ := id hit
  obtain ⟨ol, hol, _, nl, hdl⟩ := ht
  unfold pyNext
  refine wpAny_bind (wpAny_attempt (wpAny_callSpecial?_slot (name := Str.ofString "__next__") hit.typeIs slot_tupleiter_next (wpAny_call_entry slot_tupleiter_next hit.typeIs entry_tupleiter_next ?_ (args_tupleiter_next _))))
  refine (show wpAny _ _ (field (.ref it) 0 >>= _) _ _ s from wpAny_bind (wpAny_field ho hd (x := .ref t) rfl ?_))
  refine (show wpAny _ _ (if (Value.ref t == Value.none) = true then _ else _) _ _ s from ?_)
  rw [if_neg (show ¬ ((Value.ref t == Value.none) = true) from fun z => Bool.false_ne_true z)]
  refine (show wpAny _ _ (field (.ref it) 1 >>= _) _ _ s from wpAny_bind (wpAny_field ho hd (x := .int i 0) rfl ?_))
  refine (show wpAny _ _ (seqItems? (.ref t) >>= _) _ _ s from wpAny_bind (wpAny_seqItems hol hdl ?_))
  simp only [Int.toNat_natCast, hx]
  refine wpAny_bind (wpAny_rule (wpAny_bind (wpAny_setField ho hd (by simp) (stopped (hot_keep hot nx) fun e h' k he => wpAny_bind (wpAny_isInstance (T := "StopIteration") (b := true) he isSubtype_stop (wpAny_pure (hQ _ fun b o hb e' => k b o ((Heap.get?_update_other _ _ (Ne.symm hb)).trans e'))))))))
theorem unpack_hot {t x1 : Addr} {items : Array Value} {Q : List Value → Shared → Prop} (hot : HotX.HotAt A x1 s.heap) (ht : IsTup s.heap t items)
    (hQ : ∀ h', Heap.ExtBut s.heap.objs.size s.heap h' → Q items.toList { s with heap := h' }) : wpAny (model prog w) A (unpackItems (.ref t) items.size none) Q E s := by
  have nt : t ≠ s.heap.objs.size := by obtain ⟨o, ho, _⟩ := ht; exact Nat.ne_of_lt (Heap.lt_size ho)
  obtain ⟨hh, o1, vs1, h1, d1, c1⟩ := hot
  have nx : x1 ≠ s.heap.objs.size := Nat.ne_of_lt (Heap.lt_size h1)
  unfold unpackItems notIterableAtAll
  refine wpAny_bind (wpAny_bind (wpAny_specialOf ht.typeIs slot_tuple_iter.lookup (wpAny_pure ?_)))
  simp only [Bool.false_eq_true, if_false]
  refine wpAny_bind (wpAny_holding (iter_tuple ht (wpAny_bind (wpAny_holding (draw_tuple nt items.size 0 _ _ ⟨_, Heap.get?_push_size _ rfl, rfl, rfl⟩ (ht.push _) (by omega) fun h2 it2 sb2 => ?_)))))
  rw [show List.take items.size (List.drop 0 items.toList) = items.toList by rw [List.drop_zero]; exact List.take_of_length_le (by simp), if_neg (by simp)]
  have k2 : ∀ b o, b ≠ s.heap.objs.size → s.heap.get? b = some o → h2.get? b = some o := fun b o hb e => sb2.extBut b o hb (Heap.get?_push_of_some _ e)
  refine wpAny_bind (wpAny_holding (tuple_end_hot (s := { s with heap := h2 }) ⟨hh, o1, vs1, k2 _ _ nx h1, d1, c1⟩ (Ne.symm nx) it2 ((ht.push _).extBut sb2.extBut nt) (by simp) fun h3 e3 => ?_))
  simp only [Option.isSome_none, Bool.false_eq_true, if_false]
  exact wpAny_pure (hQ h3 fun b o hb e => e3 b o hb (k2 b o hb e))
/-- (a, b, ..) = a tuple, while the exception at x1 is handled -/
theorem assign_tuple_hot {env : PySem.Env} {elts : List Expr} {k} {pos : Pos} {t x1 : Addr} {items : Array Value} {Q : Unit → Shared → Prop} (hot : HotX.HotAt A x1 s.heap) (ht : IsTup s.heap t items)
    (hn : (assignEach elts env).length = items.size) (hstar : (assignEach elts env).findIdx? (·.1) = none)
    (h : ∀ h', Heap.ExtBut s.heap.objs.size s.heap h' → wpAny (model prog w) A (assignInOrder ((assignEach elts env).map (·.2)) items.toList) Q E { s with heap := h' }) :
    wpAny (model prog w) A (assign (.Tuple elts k pos) env (.ref t)) Q E s := by
  rw [assign_Tuple]
  refine wpAny_bind (wpAny_standAt ?_)
  unfold unpack
  rw [hn, hstar]
  exact wpAny_bind (wpAny_holding (unpack_hot hot ht h))
end

end CPH
section CPI

/-! ## A list comprehension while an exception is handled -/
section
variable {X : Cx} {pins : List (Addr × Obj)} {σ : L2.St} {H : Hp} {s : Shared}
theorem hot_of {p : Addr × Obj} (h1 : L2H.Hot1 X.A p) (hm : p ∈ X.pn ++ pins) (I : Inv X pins σ H s) : HotX.HotAt X.A p.1 s.heap := by
  obtain ⟨hh, vs, hd, h2⟩ := h1
  exact ⟨hh, p.2, vs, (I.pin p hm).1, hd, h2⟩
theorem blk_pin {scope : Scope} {cenv : PySem.Env} {fp : List Addr} {s2 s3 : Shared} {H3 : Hp} {σ' : L2.St} {p : Addr × Obj} (I0 : Inv X pins σ H3 s2) (hm : p ∈ X.pn ++ pins) (J : Inv (X.blk s2 H3 scope cenv fp) [] σ' H3 s3) (hL : s2.heap.objs.size ≤ cenv.locals) (kp : ∀ b o, s2.heap.get? b = some o → s3.heap.get? b = some o) :
    Inv (X.blk s2 H3 scope cenv fp) [p] σ' H3 s3 := by
  obtain ⟨e, n, nl, nf, nd⟩ := I0.pin p hm
  refine J.pins_of fun q hq => ?_
  have hq' : q ∈ ([] : List (Addr × Obj)) ++ [p] := hq
  rw [List.nil_append, List.mem_singleton] at hq'
  subst hq'
  refine ⟨kp _ _ e, n, Nat.ne_of_lt (Nat.lt_of_lt_of_le (Heap.lt_size e) hL), fun z => ?_, nd⟩
  rcases List.mem_cons.mp (I0.stkSub _ z) with z | z
  · exact nl z
  · exact nf z
theorem lc_hot {pins : List (Addr × Obj)} {s : Shared} {σ : L2.St} {H : Hp} {Q : VK} {use : Option (Value → Sem Unit)} {Qf : Value → Shared → Prop} {elt l : Expr} {es : List Expr} {ifs : List Expr} {scope : Scope} {own : List (Str × Nat)} {k n : Nat} {tpos pos pos2 : Pos} {tl te : TE} {g : TGs} {tt : TT}
    (hc : L2H.HotC X) (hN : X.N.Nodup) (I : Inv X pins σ H s) (hl : PE X l tl) (ok : BlkOk X.N X.env.scope scope own)
    (hg : ∀ (s : Shared) (H : Hp) (C : Addr) (cl : List (Str × Addr)) (fp : List Addr), PGs (X.blk s H scope (compEnvC scope cl C X.env) fp) es g)
    (ht : ∀ (s : Shared) (H : Hp) (C : Addr) (cl : List (Str × Addr)) (fp : List Addr), PTs (X.blk s H scope (compEnvC scope cl C X.env) fp) ifs tt)
    (he : ∀ (s : Shared) (H : Hp) (C : Addr) (cl : List (Str × Addr)) (fp : List Addr), PE (X.blk s H scope (compEnvC scope cl C X.env) fp) elt te)
    (hn : ∀ env : PySem.Env, (assignEach es env).length = n) (hst : ∀ env : PySem.Env, (assignEach es env).findIdx? (·.1) = none) (hs : ∀ x, foldedSetIterable l X.env x = pure x)
    (h : tLc (iList X.K tl) (gTup X.K n g) tt te (own.map (·.2)) σ H Q)
    (hRR : ∀ D C s' m H', Inv X pins σ H' s' → Q (.ref D) H' → s'.heap.Ns C m → FpOk X pins H' C → compPost (model X.prog X.w) X.A X.xe use Qf (.ref D) C (.ok .next) s') :
    wpAny (model X.prog X.w) X.A (comprehension (.ListComp elt [⟨.Tuple es k tpos, l, ifs, 0⟩] scope pos) scope X.env pos2 (newList []) false (eval l X.env) use) Qf X.xe s := by
  obtain ⟨p, hp1, hp2⟩ := hc
  have hpm : p ∈ X.pn ++ pins := List.mem_append_left _ hp2
  have hfree : ∀ y ∈ scope.names, y.2 = .free → ∃ c, X.env.cells.lookup y.1 = some c := fun y hy e => (ok.free y hy e).elim (fun z => I.ok.has _ (.inl z)) (fun z => I.ok.has _ (.inr z))
  refine wpAny_comprehension_free (use := use) rfl hs (closure_ok hfree) ok.kind (fun y hy e => by rw [ok.uniq y hy, e]) (thn (hl.run pins s σ H _ I h) fun xv s1 ⟨x, H2, I1, r1, a, ea, ⟨xs, hq⟩, q⟩ => ?_)
  subst ea
  cases r1
  obtain ⟨its, rv, pl, hz⟩ := I1.list hq
  refine wpAny_pyIter_list pl.isList ?_
  generalize hit : s1.heap.objs.size = it
  have I2 := I1.kept (t' := s1.toks) (h' := s1.heap.push { cls := .type "list_iterator", data := .fields #[.ref a, .int 0 0] }) fun b o e => Heap.get?_push_of_some _ e
  have st2 : (s1.heap.push { cls := .type "list_iterator", data := .fields #[.ref a, .int 0 0] }).IsListIter it a 0 := ⟨_, by rw [← hit]; exact Heap.get?_push_size _ rfl, rfl, rfl⟩
  have f2 : FpOk X pins H2 it := I1.fpOk (Nat.le_of_eq hit) (I1.hok.fresh (Nat.le_of_eq hit))
  have hsz : it < (s1.heap.push { cls := .type "list_iterator", data := .fields #[.ref a, .int 0 0] }).objs.size := by rw [Heap.size_push, hit]; exact Nat.lt_succ_self _
  generalize hs2 : ({ s1 with heap := s1.heap.push { cls := .type "list_iterator", data := .fields #[.ref a, .int 0 0] } } : Shared) = s2 at I2 ⊢
  have h2 : s2.heap = s1.heap.push { cls := .type "list_iterator", data := .fields #[.ref a, .int 0 0] } := by rw [← hs2]
  rw [← h2] at st2 hsz
  clear h2 hs2
  -- the new list
  refine wpAny_newObj_type (newEnv_comp ?_) (by show 0 ≤ sizeLine; decide)
  have hDn : H2 s2.heap.objs.size = none := I2.hok.fresh (Nat.le_refl _)
  obtain ⟨W, ⟨m0, w0⟩, turn⟩ := q s2.heap.objs.size hDn
  have I3 : Inv X pins σ (upd H2 s2.heap.objs.size (.lst [])) { s2 with heap := s2.heap.push { cls := .type "list", data := .seq ([] : List Value).toArray } } :=
    I2.laid (t' := s2.toks) (fun b o e => Heap.get?_push_of_some _ e) (Nat.le_refl _) ⟨Nat.zero_le _, [], 0, .nil, Heap.get?_push_size _ rfl⟩
  have itn : (upd H2 s2.heap.objs.size (.lst [])) it = none := by rw [upd_ne (Nat.ne_of_lt hsz)]; exact f2.1
  have st3 : ({ s2 with heap := s2.heap.push { cls := .type "list", data := .seq ([] : List Value).toArray } } : Shared).heap.IsListIter it a 0 := st2.at fun o e => Heap.get?_push_of_some _ e
  have hsz3 : it < ({ s2 with heap := s2.heap.push { cls := .type "list", data := .seq ([] : List Value).toArray } } : Shared).heap.objs.size := by show it < (s2.heap.push _).objs.size; rw [Heap.size_push]; exact Nat.lt_succ_of_lt hsz
  generalize s2.heap.objs.size = D at w0 turn I3 itn ⊢
  generalize ({ s2 with heap := s2.heap.push { cls := .type "list", data := .seq ([] : List Value).toArray } } : Shared) = s3 at I3 st3 hsz3 ⊢
  have f3 : ∀ b ∈ [it], FpOk X pins (upd H2 D (.lst [])) b ∧ b < s3.heap.objs.size := fun b hb => by
    rw [List.mem_singleton.mp hb]
    exact ⟨⟨itn, f2.2⟩, hsz3⟩
  have I4 := block_start I3 ok hN f3
  have pg := hg s3 (upd H2 D (.lst [])) s3.heap.objs.size (cellsFrom (s3.heap.objs.size + 1) scope.names (cloFrom X.env.cells scope.names [])) [it]
  have pt := ht s3 (upd H2 D (.lst [])) s3.heap.objs.size (cellsFrom (s3.heap.objs.size + 1) scope.names (cloFrom X.env.cells scope.names [])) [it]
  have pe := he s3 (upd H2 D (.lst [])) s3.heap.objs.size (cellsFrom (s3.heap.objs.size + 1) scope.names (cloFrom X.env.cells scope.names [])) [it]
  refine (show codeAny _ _ (.compStart (.ListComp elt [⟨.Tuple es k tpos, l, ifs, 0⟩] scope pos) 0 (.ref it) (.ref D) (compEnvC scope (cellsFrom (s3.heap.objs.size + 1) scope.names (cloFrom X.env.cells scope.names [])) s3.heap.objs.size X.env)) (compPost (model X.prog X.w) X.A X.xe use Qf (.ref D) s3.heap.objs.size) { s3 with heap := pushCells (s3.heap.push { cls := .type "dict", data := .dict #[] }) scope.names } from ?_)
  generalize hce : compEnvC scope (cellsFrom (s3.heap.objs.size + 1) scope.names (cloFrom X.env.cells scope.names [])) s3.heap.objs.size X.env = ce at I4 pg pt pe ⊢
  have cL : ce.locals = s3.heap.objs.size := by rw [← hce]; rfl
  generalize upd H2 D (.lst []) = H3 at I3 I4 pg pt pe w0 itn f3
  have kp4 : ∀ b o, s3.heap.get? b = some o → (pushCells (s3.heap.push { cls := .type "dict", data := .dict #[] }) scope.names).get? b = some o := fun b o e => pushCells_keeps _ _ _ _ (Heap.get?_push_of_some _ e)
  have J4 := blk_pin I3 hpm I4 (Nat.le_of_eq cL.symm) kp4
  have st4 : ({ s3 with heap := pushCells (s3.heap.push { cls := .type "dict", data := .dict #[] }) scope.names } : Shared).heap.IsListIter it a 0 := st3.at fun o e => kp4 it o e
  generalize ({ s3 with heap := pushCells (s3.heap.push { cls := .type "dict", data := .dict #[] }) scope.names } : Shared) = s4 at J4 st4 ⊢
  clear I4 kp4
  have hm' : p ∈ (X.blk s3 H3 scope ce [it]).pn ++ [p] := by simp
  have stat : ∀ {pins' : List (Addr × Obj)} {σ' : L2.St} {H' : Hp} {s' : Shared}, Inv (X.blk s3 H3 scope ce [it]) ([p] ++ pins') σ' H' s' → H' it = none → (∀ q ∈ pins', q.1 ≠ it) → FpOk (X.blk s3 H3 scope ce [it]) ([p] ++ pins') H' it := fun {pins' σ' H' s'} I' hn hp' =>
    ⟨hn, (I'.ok.exf it (List.mem_singleton.mpr rfl)).1, I'.ok.exfs it (List.mem_singleton.mpr rfl), .inl (List.mem_singleton.mpr rfl), fun x c e => (I'.ok.exf it (List.mem_singleton.mpr rfl)).2 x c e, fun r hr => by
      have hr' : r ∈ ([] : List (Addr × Obj)) ++ ([p] ++ pins') := hr
      rw [List.nil_append] at hr'
      rcases List.mem_append.mp hr' with z | z
      · rw [List.mem_singleton.mp z]
        exact (f3 it (List.mem_singleton.mpr rfl)).1.2.2.2.2.2 p hpm
      · exact hp' r z⟩
  have loop : codeAny (model X.prog X.w) X.A (.compLoop (.ListComp elt [⟨.Tuple es k tpos, l, ifs, 0⟩] scope pos) 0 (.ref it) (.ref D) ce) (compPost (model X.prog X.w) X.A X.xe use Qf (.ref D) s3.heap.objs.size) s4 := by
    refine compLoop_any (fun n s' => ∃ i H', Inv (X.blk s3 H3 scope ce [it]) [p] (wipe σ (own.map (·.2))) H' s' ∧ s'.heap.IsListIter it a i ∧ H' it = none ∧ W i n H') ?_ m0 ⟨0, H3, J4, st4, itn, w0⟩
    rintro n s5 ⟨i, H5, I5, st5, n5, w5⟩
    have S5 := stat (pins' := []) I5 n5 (fun q hq => absurd hq (by simp))
    obtain ⟨g0, g1, g2, g3, g4, g5⟩ := S5
    rcases turn i n H5 w5 with ⟨⟨ys, hys, hle⟩, qq⟩ | ⟨⟨ys, y, hys, hget⟩, Nx, hNx, step⟩
    · obtain ⟨its5, rv5, pl5, _⟩ := I5.list hys
      have hl5 := rv5.length
      refine list_end_hot (hot_of (X := X.blk s3 H3 scope ce [it]) hp1 hm' I5) (fun z => g5 p hm' z.symm) st5 pl5.isList (by simp; omega) fun h6 e6 => ?_
      have I6 : Inv (X.blk s3 H3 scope ce [it]) [p] _ H5 { s5 with heap := h6 } := I5.turned (t' := s5.toks) (fun b o hb e => e6 b o hb e) g0 g1 g3 g4 g5
      have I7 : Inv X pins σ H5 { s5 with heap := h6 } := I3.call' (ch := [it]) I6.os I6.base I6.hok I6.bare fun b hb => ⟨(f3 b hb).1.2.2.2.1, (f3 b hb).1.2.1, (f3 b hb).1.2.2.2.2.1, (f3 b hb).1.2.2.2.2.2⟩
      obtain ⟨m, hm6, _⟩ := I6.loc
      have hm6 : Heap.Ns h6 ce.locals m := hm6
      have nC : H5 ce.locals = none := I6.free
      rw [cL] at hm6 nC
      exact hRR D s3.heap.objs.size { s5 with heap := h6 } m H5 I7 qq hm6 (I3.fpOk (H' := H5) (Nat.le_refl _) nC)
    · obtain ⟨its5, rv5, pl5, _⟩ := I5.list hys
      obtain ⟨u, hu, ru⟩ := rv5.get hget
      refine wpAny_pyNext_list_item st5 pl5.isList (x := u) (by simpa using hu) fun h6 st6 sb6 => ?_
      have I6 : Inv (X.blk s3 H3 scope ce [it]) [p] _ H5 { s5 with heap := h6 } := I5.turned (t' := s5.toks) (fun b o hb e => (sb6.2 b hb).trans e) g0 g1 g3 g4 g5
      obtain ⟨oi, ei, ci, di⟩ := id st6
      refine go_of (s := { s5 with heap := h6 }) ei ci di (by decide) ?_
      have I7 := I6.pinned (fp := [it]) (fun b hb => by rw [List.mem_singleton.mp hb]; exact stat (pins' := []) I6 n5 (fun q hq => absurd hq (by simp))) (fun b hb => by rw [List.mem_singleton.mp hb]; exact ⟨oi, ei, fun v z => by rw [di] at z; cases z⟩)
      obtain ⟨a', ys', e1, hq', hl', hw'⟩ := step y H5 ⟨rfl, fun zs hz => by rw [I6.list_inj hz hys]; exact hget⟩
      subst e1
      obtain rfl : u = Value.ref a' := ru
      obtain ⟨its7, rv7, ht7, _⟩ := I7.tuple hq'
      have hl7 := rv7.length
      have ht7' : IsTup h6 a' its7.toArray := ht7
      refine assign_tuple_hot (s := { s5 with heap := h6 }) (hot_of (X := X.blk s3 H3 scope ce [it]) hp1 (by simp) I7) ht7' (by rw [hn]; simp; omega) (hst _) fun h7 x7 => ?_
      have I8 := I7.kept (t' := s5.toks) (h' := h7) fun b o e => x7 b o (Nat.ne_of_lt (Heap.lt_size e)) e
      refine thnF (pg.run _ { s5 with heap := h7 } _ H5 ys' _ _ I8 (by simpa using rv7) hw') fun _ s8 ⟨σ8, H8, J8, hw8, q8⟩ => ?_
      refine thnF (pt.run _ s8 σ8 H8 _ J8 q8) fun b s9 ⟨H9, I9, q9⟩ => ?_
      have fin : ∀ {s' : Shared} {H' : Hp}, Inv (X.blk s3 H3 scope ce [it]) ([p] ++ pinsAt [it] h6) σ8 H' s' → Nx H' → ∃ m, m < n ∧ ∃ i H', Inv (X.blk s3 H3 scope ce [it]) [p] (wipe σ (own.map (·.2))) H' s' ∧ s'.heap.IsListIter it a i ∧ H' it = none ∧ W i m H' := fun {s' H'} I' nx => by
        obtain ⟨m', hm2, w'⟩ := hNx H' nx
        have zz := I'.pin (it, oi) (List.mem_append_right _ (List.mem_append_right _ (mem_pinsAt (List.mem_singleton.mpr rfl) ei)))
        have hl2 : (wipe σ (own.map (·.2))).length = σ8.length := by rw [← hw8, wipe_length]
        refine ⟨m', hm2, i + 1, H', I'.unpinned.weak hl2 (fun j v e => ?_), ⟨oi, zz.1, ci, di⟩, zz.2.1, w'⟩
        rw [← hw8] at e
        exact (wipe_some e).1
      cases b with
      | false =>
        simp only [Bool.false_eq_true, if_false] at q9 ⊢
        exact fin I9 q9
      | true =>
        simp only [if_true] at q9 ⊢
        refine thnF (pe.run _ s9 σ8 H9 _ I9 q9) fun z s10 ⟨yv, H10, I10, r10, acc, hD10, hz10, nx⟩ => ?_
        exact app_ok (X := X.blk s3 H3 scope ce [it]) I10 hD10 hz10 r10 fun s11 I11 => fin I11 nx
  exact codeAny_compStart_list loop (wpAny_pyIter_listiter st4 loop)
/-- y = [.. for a, b in l if ..] on one line, y a local -/
theorem ps_setLcH {i : Nat} {y : Str} {py : Pos} {elt l : Expr} {es : List Expr} {ifs : List Expr} {scope : Scope} {own : List (Str × Nat)} {k n : Nat} {tpos pos spos : Pos} {tl te : TE} {g : TGs} {tt : TT} (hc : L2H.HotC X) (hN : X.N.Nodup) (hy : X.N[i]? = some y) (hyl : X.env.scope.names.lookup y = some .local)
    (hsw : swapsWith (.ListComp elt [⟨.Tuple es k tpos, l, ifs, 0⟩] scope pos) (some (.Name y py)) spos.line X.env = pure true) (hl : PE X l tl) (ok : BlkOk X.N X.env.scope scope own)
    (hg : ∀ (s : Shared) (H : Hp) (C : Addr) (cl : List (Str × Addr)) (fp : List Addr), PGs (X.blk s H scope (compEnvC scope cl C X.env) fp) es g)
    (ht : ∀ (s : Shared) (H : Hp) (C : Addr) (cl : List (Str × Addr)) (fp : List Addr), PTs (X.blk s H scope (compEnvC scope cl C X.env) fp) ifs tt)
    (he : ∀ (s : Shared) (H : Hp) (C : Addr) (cl : List (Str × Addr)) (fp : List Addr), PE (X.blk s H scope (compEnvC scope cl C X.env) fp) elt te)
    (hn : ∀ env : PySem.Env, (assignEach es env).length = n) (hst : ∀ env : PySem.Env, (assignEach es env).findIdx? (·.1) = none) (hs : ∀ x, foldedSetIterable l X.env x = pure x := by intro _; rfl) :
    PS X (.Assign [.Name y py] (.ListComp elt [⟨.Tuple es k tpos, l, ifs, 0⟩] scope pos) spos) (tAsg (tLc (iList X.K tl) (gTup X.K n g) tt te (own.map (·.2))) (gName i)) := by
  refine ⟨fun pins s σ H D I h => ?_⟩
  rw [exec_Assign_Name_used _ _ _ _ hsw]
  refine wpAny_bind (wpAny_standAt (wpAny_bind (show wpAny _ X.A (do let _ ← comprehension (.ListComp elt [⟨.Tuple es k tpos, l, ifs, 0⟩] scope pos) scope X.env (firstIterPos [⟨.Tuple es k tpos, l, ifs, 0⟩] pos) (newList []) false (eval l X.env) (some (assign (.Name y py) X.env))) _ _ s from wpAny_bind (thn (lc_hot (Q := fun x H1 => gName i x σ H1 D.nx) (Qf := fun _ s' => SP X pins D .next s') hc hN I hl ok hg ht he hn hst hs h fun L C s' m H' I' q hm f => ?_) fun _ s' hq => wpAny_pure (wpAny_pure hq)))))
  obtain ⟨f0, f1, f2, f3, f4, f5⟩ := f
  refine (show wpAny _ _ (assign (.Name y py) X.env (.ref L)) _ _ _ from wpAny_assign_Name (store_ok2 (v := V.ref L) I' hN hy (.inl hyl) rfl (fun s2 I2 ⟨a, sb, ha⟩ => ?_) (.inr hyl)))
  exact ⟨m, hm.sameBut sb (ha.elim (fun z => by rw [z]; exact f1) (fun z e => f4 y a z e.symm)), fun h3 sb3 => ⟨_, H', I2.turned (t' := s2.toks) (fun b o hb e => (sb3.2 b hb).trans e) f0 f1 f3 f4 f5, q⟩⟩
end

end CPI
section CPR

/-! ## A lambda handed to a def that calls it and tells what was refused -/
/-- the context of a lambda's body; exceptions with no context leave it -/
def lamC (X : Cx) (A : Around) (outer : List PySem.Env) (s : Shared) (H : Hp) (E : XK) (scope : Scope) (f c' : Addr) : Cx :=
  (LamX.lamCx X A outer s H E scope f c').wish fun e s' => wpAny (model X.prog X.w) (A.deeper (LamX.lamEnv X scope s.heap.objs.size f c')) (leaving (LamX.lamEnv X scope s.heap.objs.size f c') e) (fun _ s2 => L2N.CX X.prog X.w outer H s E e s2) (fun e2 s2 => L2N.CX X.prog X.w outer H s E e2 s2) s'
theorem inv_wish {X : Cx} {pins : List (Addr × Obj)} {σ : L2.St} {H : Hp} {s : Shared} {E : Value → Shared → Prop} (I : Inv X pins σ H s) : Inv (X.wish E) pins σ H s :=
  ⟨⟨I.ok.mod, I.ok.kind, I.ok.glob, I.ok.blt, I.ok.above, I.ok.inj, I.ok.has, I.ok.cab, I.ok.hd, I.ok.frames, I.ok.stk, I.ok.exf, I.ok.bs, I.ok.bsz, I.ok.noex, I.ok.exfs, I.ok.funs, I.ok.frf⟩, I.os, I.bare, I.base, I.loc, I.cell, I.free, I.freeC, I.pin, I.hok, I.len⟩
section
variable {X : Cx} {pins : List (Addr × Obj)} {σ : L2.St} {H : Hp} {s : Shared}
/-- the lambda f, called by the name a in the def that got it; the heap is the one at the call -/
theorem pe_actE {CXg : CXT} {Eg : XK} {Ng : List Str} {qg : Str} {sg : Scope} {g f c' : Addr} {cdg : Value} {params : Arguments} {body : Expr} {scope : Scope} {k i : Nat} {a : Str} {pn : List (Addr × Obj)} {xe : Value → Shared → Prop} {W : WX} {E : XK} {tb : TE} {p1 p2 : Pos}
    (I : Inv X pins σ H s) (L : LamX.LamS X.env.scope scope) (hf : ∀ h' : Heap, HOk X.prog X.w H h' → Un (frs X.stack) [] H H s.heap h' → ∃ pm ctv, h'.get? f = some (PySem.W.kla_obj "<lambda>" (X.env.qual ++ "<lambda>") params body scope (cloFrom X.env.cells scope.names []) pm c' ctv)) (hco : H c' = some (LamX.CodeO c' (X.env.qual ++ "<lambda>")))
    (hbind : ∀ pm ctv, bindArgs (PySem.W.kla_fn "<lambda>" (X.env.qual ++ "<lambda>") params body scope (cloFrom X.env.cells scope.names []) pm (.ref c') ctv) ⟨[], []⟩ = pure [])
    (tk : L2N.Takes ((cxOf CXg X.prog X.w X.K X.mg X.base Ng qg sg g cdg X.A X.stack s H Eg).tr pn xe) W) (hW : ∀ cls d σ' H', E cls d H' → W cls d σ' H') (hr : Room (k + 1) (X.A.deeper (envOfC qg sg s.heap.objs.size g cdg)))
    (hbody : ∀ (A : Around) (outer : List PySem.Env) (s : Shared) (H : Hp), Room k (A.deeper (LamX.lamEnv X scope s.heap.objs.size f c')) → PE (lamC X A outer s H E scope f c') body tb)
    (hN : Ng[i]? = some a) (hv : Vis sg a) (hd : (a == ("__debug__" : Str)) = false) (hcd : (a == ("__classdict__" : Str)) = false) :
    PE ((cxOf CXg X.prog X.w X.K X.mg X.base Ng qg sg g cdg X.A X.stack s H Eg).tr pn xe) (.Call (.Name a p1) [] [] p2)
      (fun σZ HZ Q => σZ[i]? = some (some (.ref f)) ∧ HZ = H ∧ tb σ HZ Q) := by
  refine ⟨fun pz sz σz Hz Q Iz ⟨hs, hc, ht⟩ => ?_⟩
  subst hc
  refine wpAny_Call_Name_kw (thn ((pe_var (pos := p1) (i := i) hN hv hd hcd).run pz sz σz Hz (fun v H1 => v = .ref f ∧ H1 = Hz) Iz ⟨.ref f, hs, rfl, rfl⟩) fun u s1 ⟨v, H1, I1, r1, ev, eH⟩ => ?_)
  subst ev
  rw [eH] at I1
  obtain rfl : u = Value.ref f := r1
  obtain ⟨pm, ctv, fAt⟩ := hf s1.heap I1.hok I1.base
  obtain ⟨⟨oc, vs, t, hoc, hdc, hvc⟩, _, _⟩ := I1.hok c' _ hco
  refine PySem.W.callWith_F0 ⟨_, _, _, _, fAt⟩ (wpAny_call ?_)
  have rc : codeAny (model X.prog X.w) (X.A.deeper (envOfC qg sg s.heap.objs.size g cdg)) (.call (.ref f) ⟨[], []⟩) (CR (L2N.CX X.prog X.w) (envOfC qg sg s.heap.objs.size g cdg :: X.stack) X.prog X.w Hz s1 Q E) s1 := by
    refine PySem.W.kla_callFunE hr.depth fAt rfl L.co L.gen rfl ⟨c', oc, vs, t, rfl, hoc, hdc, hvc⟩ ?_
    rw [hbind]
    refine wpAny_pure (wpAny_newFunctionEnv (fun y hy => (L.own y hy).2) (fun y hy => absurd hy (by simp)) (fun h2 hns hsb => ⟨I1.nolimit.fresh _ hsb, ?_⟩) L.kind)
    have kp : ∀ b o, s1.heap.get? b = some o → h2.get? b = some o := fun b o e => hsb.extBut b o (Nat.ne_of_lt (Heap.lt_size e)) (Heap.get?_push_of_some _ e)
    have J := LamX.lam_start2 (E := E) (c' := c') (f := f) (tk := s1.toks + ([] : List (Str × Value)).length) I L I1.env0 hr.hd I1.base hns kp
    exact (show codeAny _ _ (.expr body (LamX.lamEnv X scope s1.heap.objs.size f c')) _ _ from PySem.W.kla_codeExpr (wpAny_mono ((hbody _ _ s1 Hz (hr.deeper _)).run [] _ _ Hz Q (inv_wish J) ht) (fun v s2 ⟨x, H2, J2, rv, q⟩ => ⟨x, H2, J2.os, J2.bare, J2.base, J2.hok, rv, q⟩) fun e s2 z => z))
  refine codeAny_mono rc fun r s2 hq => ?_
  match r, hq with
  | .error e, hq => exact L2N.passes_call tk hW pz σz Hz s1 e s2 I1 hq
  | .ok (.ret u), hq => exact I1.after hq
  | .ok .next, hq => exact False.elim hq
  | .ok .brk, hq => exact False.elim hq
  | .ok .cont, hq => exact False.elim hq
/-- what the def that calls a makes of it: TT, of the call's reading -/
def GivesN (X : Cx) (Ng : List Str) (x : Str) (sg : Scope) (g : Addr) (cdg : Value) (bg : List Stmt) (a : Str) (TT : (XK → Hp → VK → Prop) → Hp → VK → Prop) : Prop :=
  ∀ (f : Addr) (s : Shared) (H : Hp) (Q : VK) (tl : XK → Hp → VK → Prop),
    (∀ (W : WX) (pn : List (Addr × Obj)) (xe : Value → Shared → Prop) (E : XK) (p1 p2 : Pos), L2N.Takes ((cxOf C8.CX0 X.prog X.w X.K X.mg X.base Ng x sg g cdg X.A X.stack s H C8.E0).nox.tr pn xe) W → (∀ cls d σ' H', E cls d H' → W cls d σ' H') →
      PE ((cxOf C8.CX0 X.prog X.w X.K X.mg X.base Ng x sg g cdg X.A X.stack s H C8.E0).nox.tr pn xe) (.Call (.Name a p1) [] [] p2) (fun σZ HZ Q => σZ[0]? = some (some (.ref f)) ∧ HZ = H ∧ tl E HZ Q)) →
    TT tl H Q →
    ∃ t, PSs (cxOf C8.CX0 X.prog X.w X.K X.mg X.base Ng x sg g cdg X.A X.stack s H C8.E0).nox bg t ∧ t { nx := fun _ H' => Q .non H', rt := Q } (L2.start Ng [.ref f]) H
/-- x(lambda: body) -/
theorem pe_lamcallN {T : List (Addr × Str)} {TT : (XK → Hp → VK → Prop) → Hp → VK → Prop} {x a : Str} {g c P : Addr} {k : Nat} {pg : Arguments} {bg : List Stmt} {sg : Scope} {dV kV doc pm cdv ct oc : Value} {an od : Option Addr} {osl : Array (Option Value)} {Ng : List Str}
    {params : Arguments} {body : Expr} {scope : Scope} {t : XK → TE} {p lpos pos : Pos} (hg : Gl X x) (hm : X.mg x = some (.ref g)) (hk : PySem.W.keepIn X.K (.ref g) = true)
    (lk : X.K.lookup g = some ⟨oc, od, .func (PySem.W.fnOf x x pg bg sg dV kV doc pm an cdv ct), osl⟩) (hcg : PySem.W.codeIn X.K cdv x = true) (hb : L2.Binds X.K (PySem.W.fnOf x x pg bg sg dV kV doc pm an cdv ct) [a] []) (Sg : FnScope Ng [a] sg) (hNg : Ng[0]? = some a) (hva : Vis sg a)
    (hG : GivesN X Ng x sg g cdv bg a TT)
    (TB : LamX.TabB X.base X.mg c P) (hcode : X.env.code = .ref c) (hmT : (P, X.env.qual ++ "<lambda>") ∈ T) (hu : ∀ p ∈ T, p.1 = P → p.2 = X.env.qual ++ "<lambda>") (hr : Room (k + 2) X.A) (L : LamX.LamS X.env.scope scope) (hdef : defaultsOf params X.env = ([], []))
    (hbind : ∀ (q : Str) (cl : List (Str × Addr)) (pm cv ctv : Value), bindArgs (PySem.W.kla_fn "<lambda>" q params body scope cl pm cv ctv) ⟨[], []⟩ = pure [])
    (hbody : ∀ (A : Around) (outer : List PySem.Env) (s : Shared) (H : Hp) (E : XK) (f c' : Addr), Room k (A.deeper (LamX.lamEnv X scope s.heap.objs.size f c')) → PE (lamC X A outer s H E scope f c') body (t E))
    (hdb : (x == ("__debug__" : Str)) = false) (hd : (a == ("__debug__" : Str)) = false) (hcd : (a == ("__classdict__" : Str)) = false) :
    PE X (.Call (.Name x p) [.Lambda params body scope lpos] [] pos) (LamX.tLam T TT t) := by
  refine ⟨fun pins s σ H Q I ⟨hT, h⟩ => wpAny_Call_Name_kw (ld_glob I hg hm (PySem.W.callWith_K (h₀ := X.base) I.ok.mod.kin hk ?_ (by rfl) (by rfl)) hdb)⟩
  refine (show wpAny _ _ (spliced ((false, eval (.Lambda params body scope lpos) X.env) :: backTo pos (starEach [] X.env))) _ _ s from Calls.spliced_cons (LamX.lam_make2 I TB hcode hmT hu hT hdef (L.has I.ok) fun f c' pm' ctv H1 s1 I1 eN T1 hf hfn hfr hco => Calls.spliced_nil ⟨I1.kIn, wpAny_call ?_⟩))
  have rc : codeAny (model X.prog X.w) X.A (.call (.ref g) ⟨[.ref f], []⟩) (CR C8.CX0 X.stack X.prog X.w H1 s1 Q C8.E0) s1 :=
    LamX.run_ofS (N := Ng) (ps := [a]) (us := [.ref f]) (vs := [.ref f]) lk hcg Sg hr I1.env0 (hb s1 [.ref f] I1.kIn rfl) (.cons rfl .nil) rfl fun hr2 => by
      obtain ⟨t2, ht2, hq2⟩ := hG f s1 H1 Q (fun E H2 Q2 => t E σ H2 Q2) (fun W pn xe E p1 p2 tk hW => pe_actE (CXg := C8.CX0) (Eg := C8.E0) (i := 0) I1 L (fun h' ho un => ⟨pm', ctv, un.keep f _ hf hfn hfr (fun z => nomatch (show f ∈ ([] : List Addr) from z))⟩) hco (fun _ _ => hbind _ _ _ _ _) tk hW hr2 (fun A outer s H hr3 => hbody A outer s H E f c' hr3) hNg hva hd hcd) (h H1 eN T1)
      exact ⟨t2, ht2.nox, hq2⟩
  refine codeAny_mono rc fun r s2 hq => ?_
  match r, hq with
  | .error e, hq => exact (show False from hq).elim
  | .ok (.ret u), hq => exact I1.after hq
  | .ok .next, hq => exact False.elim hq
  | .ok .brk, hq => exact False.elim hq
  | .ok .cont, hq => exact False.elim hq
end

end CPR
section CP3
variable [TB : Tbs]

/-! ## Operations by values -/
section
variable (K : PySem.W.Frag) (mg : Str → Option Value) (E : XK)
def Ap (p : Prim) (vs : List V) (H : Hp) (Q : VK) : Prop := ∃ ω α b M ds, Sim K ω α H M ∧ b ≤ M.length ∧ RVs K ω α H vs ds ∧ Post K ω mg E b α H M (primE b p ds M) (fun d _ α' H' => ∀ v, RV K ω α' H' v d → Q v H')
end
theorem opR_imp {X : Cx} {f : Value → Value → Sem Value} {r r' : R2} (h : OpR X f r) (i : ∀ x y H Q, r' x y H Q → r x y H Q) : OpR X f r' :=
  fun pins s σ H x y v u Q I rx ry q => h pins s σ H x y v u Q I rx ry (i _ _ _ _ q)
theorem unR_imp {X : Cx} {f : Value → Sem Value} {r r' : V → Hp → VK → Prop} (h : UnR X f r) (i : ∀ x H Q, r' x H Q → r x H Q) : UnR X f r' :=
  fun pins s σ H x v Q I rx q => h pins s σ H x v Q I rx (i _ _ _ q)
theorem callR_imp {X : Cx} {f : Value} {r r' : List V → Hp → VK → Prop} (h : CallR X f r) (i : ∀ x H Q, r' x H Q → r x H Q) : CallR X f r' :=
  fun pins s σ H x v Q I rx q => h pins s σ H x v Q I rx (i _ _ _ q)
theorem ixR_imp {X : Cx} {r r' : R2} (h : IxR X r) (i : ∀ x y H Q, r' x y H Q → r x y H Q) : IxR X r' :=
  fun va sl pins s σ H x y v u Q I rx ry q => h va sl pins s σ H x y v u Q I rx ry (i _ _ _ _ q)
theorem mtR_imp {X : Cx} {id : String} {r r' : V → List V → Hp → VK → Prop} (h : MtR X id r) (i : ∀ x y H Q, r' x y H Q → r x y H Q) : MtR X id r' :=
  fun pins s σ H x xs v us Q I rx ry q => h pins s σ H x xs v us Q I rx ry (i _ _ _ _ q)
theorem slR_imp {X : Cx} {r r' : V → Option Int → Option Int → Hp → VK → Prop} (h : SlR X r) (i : ∀ x lo hi H Q, r' x lo hi H Q → r x lo hi H Q) : SlR X r' :=
  fun pins s σ H x v vl vu lo hi sl Q I rx a b c q => h pins s σ H x v vl vu lo hi sl Q I rx a b c (i _ _ _ _ _ q)
section
variable {K : PySem.W.Frag} {mg : Str → Option Value} {E : XK} {ω α : List Addr} {H : Hp} {b : Nat} {M : Mem}
theorem RVs.one {x : V} {ds : List D} (r : RVs K ω α H [x] ds) : ∃ d, ds = [d] ∧ RV K ω α H x d := by
  cases r with
  | cons h t => cases t; exact ⟨_, rfl, h⟩
theorem RVs.two {x y : V} {ds : List D} (r : RVs K ω α H [x, y] ds) : ∃ d e, ds = [d, e] ∧ RV K ω α H x d ∧ RV K ω α H y e := by
  cases r with
  | cons h t =>
    obtain ⟨e, rfl, q⟩ := t.one
    exact ⟨_, e, rfl, h, q⟩
theorem RVs.three {x y z : V} {ds : List D} (r : RVs K ω α H [x, y, z] ds) : ∃ d e f, ds = [d, e, f] ∧ RV K ω α H x d ∧ RV K ω α H y e ∧ RV K ω α H z f := by
  cases r with
  | cons h t =>
    obtain ⟨e, f, rfl, q⟩ := t.two
    exact ⟨_, e, f, rfl, h, q⟩
theorem rv_int {v : V} {i : Int} (h : RV K ω α H v (.int i)) : v = .int i := by cases h; rfl
theorem rv_bl {v : V} {i : Bool} (h : RV K ω α H v (.bl i)) : v = .bl i := by cases h; rfl
theorem rv_str {v : V} {i : Str} (h : RV K ω α H v (.str i)) : v = .str i := by cases h; rfl
theorem rv_non {v : V} (h : RV K ω α H v .non) : v = .non := by cases h; rfl
theorem rv_tup {v : V} {ds : List D} (h : RV K ω α H v (.tup ds)) : ∃ a xs, v = .ref a ∧ SqT K H a xs ∧ RVs K ω α H xs ds := by
  cases h with
  | tup h r => exact ⟨_, _, rfl, h.imp (·.1) id, r⟩
theorem rv_items {v : V} {d : D} {ds : List D} (s : Sim K ω α H M) (h : RV K ω α H v d) (e : items M d = some ds) : ∃ a xs, v = .ref a ∧ (SqL K H a xs ∨ SqT K H a xs) ∧ RVs K ω α H xs ds := by
  cases d with
  | tup es => cases e; obtain ⟨a, xs, rfl, q, r⟩ := rv_tup h; exact ⟨a, xs, rfl, .inr q, r⟩
  | lst es => cases e; cases h with | lst h n w r => exact ⟨_, _, rfl, .inl (.of h), r⟩
  | fix es => cases e; cases h with | fix h r => exact ⟨_, _, rfl, .inl (h.imp (·.1.1) id), r⟩
  | ref n =>
    cases h with
    | ref ha =>
      simp only [items, look] at e
      cases hm : M[n]? with
      | none => rw [hm] at e; cases e
      | some c =>
        cases c with
        | lst es =>
          rw [hm] at e; cases e
          obtain ⟨xs, e1, r⟩ := s.cell n _ _ ha hm
          exact ⟨_, xs, rfl, .inl (.of e1), r⟩
        | dct es => rw [hm] at e; cases e
  | _ => cases e
theorem rv_look {v : V} {d : D} {ds : List D} (s : Sim K ω α H M) (h : RV K ω α H v d) (e : look M d = some ds) : ∃ a xs, v = .ref a ∧ H a = some (.lst xs) ∧ RVs K ω α H xs ds := by
  cases d with
  | lst es => cases e; cases h with | lst h n w r => exact ⟨_, _, rfl, h, r⟩
  | ref n =>
    cases h with
    | ref ha =>
      simp only [look] at e
      cases hm : M[n]? with
      | none => rw [hm] at e; cases e
      | some c =>
        cases c with
        | lst es =>
          rw [hm] at e; cases e
          obtain ⟨xs, e1, r⟩ := s.cell n _ _ ha hm
          exact ⟨_, xs, rfl, e1, r⟩
        | dct es => rw [hm] at e; cases e
  | _ => cases e
theorem rv_cell {v : V} {d : D} {n : Nat} {ds : List D} (s : Sim K ω α H M) (h : RV K ω α H v d) (e : cellOf M d = some (n, ds)) : ∃ a xs, v = .ref a ∧ d = .ref n ∧ α[n]? = some a ∧ M[n]? = some (.lst ds) ∧ H a = some (.lst xs) ∧ RVs K ω α H xs ds := by
  cases d with
  | ref k =>
    simp only [cellOf] at e
    cases hm : M[k]? with
    | none => rw [hm] at e; cases e
    | some c =>
      cases c with
      | lst es =>
        rw [hm] at e; cases e
        cases h with
        | ref ha =>
          obtain ⟨xs, e1, r⟩ := s.cell _ _ _ ha hm
          exact ⟨_, xs, rfl, rfl, ha, hm, e1, r⟩
      | dct es => rw [hm] at e; cases e
  | _ => cases e
/-! a dict's place and entries -/
theorem rvs_numsX {ks : List Int} : ∀ {vs : List V}, RVs K ω α H vs (ks.map D.int) → vs = ks.map V.int := by
  induction ks with
  | nil => intro vs r; cases r; rfl
  | cons k ks ih =>
    intro vs r
    cases r with
    | cons h r => rw [rv_int h, ih r]; rfl
theorem numsOf_eq : ∀ {xs : List D} {ks : List Int}, numsOf xs = some ks → xs = ks.map D.int
  | [], ks, h => by cases h; rfl
  | x :: r, ks, h => by
    cases x with
    | int i =>
      simp only [numsOf, Option.map_eq_some_iff] at h
      obtain ⟨l, hl, rfl⟩ := h
      rw [numsOf_eq hl]; rfl
    | _ => simp [numsOf] at h
theorem rv_key {v : V} {d : D} {k : List Int} (h : RV K ω α H v d) (e : keyOf d = some k) : ∃ b, v = .ref b ∧ d = .tup (k.map D.int) ∧ SqT K H b (k.map V.int) := by
  cases d with
  | tup xs =>
    have := numsOf_eq (show numsOf xs = some k from e)
    subst this
    obtain ⟨a, vs, rfl, q, r⟩ := rv_tup h
    rw [rvs_numsX r] at q
    exact ⟨a, rfl, rfl, q⟩
  | _ => cases e
theorem DRV.at {xs : List DEnt} {es : List (List Int × D)} (e : H a = some (DctO a xs)) (r : DRV K ω α H xs es) : DAt K H a xs := by
  refine ⟨e, ?_⟩
  clear e
  induction r with
  | nil => intro x hx; cases hx
  | @cons p q ps qs h _ ih =>
    intro x hx
    rcases List.mem_cons.mp hx with rfl | hx
    · obtain ⟨a, vs, e1, q, r⟩ := rv_tup h.2.1
      cases e1
      rw [rvs_numsX r] at q
      rw [h.1]; exact q
    · exact ih x hx
theorem DRV.val {xs : List DEnt} {es : List (List Int × D)} (r : DRV K ω α H xs es) (k : List Int) : (valX xs k).isSome = (valD es k).isSome ∧ ∀ d, valD es k = some d → ∃ v, valX xs k = some v ∧ RV K ω α H v d := by
  induction r with
  | nil => exact ⟨rfl, fun d h => by cases h⟩
  | @cons p q ps qs h _ ih =>
    by_cases e : p.1 = k
    · have e' : q.1 = k := h.1.symm.trans e
      have b : valD (q :: qs) k = some q.2 := by simp [valD, List.find?_cons, e']
      have b' : valX (p :: ps) k = some p.2.2 := by simp [valX, List.find?_cons, e]
      rw [b, b']
      exact ⟨rfl, fun d z => by cases z; exact ⟨_, rfl, h.2.2⟩⟩
    · have e' : ¬ q.1 = k := fun z => e (h.1.trans z)
      have b : valD (q :: qs) k = valD qs k := by simp [valD, List.find?_cons, e']
      have b' : valX (p :: ps) k = valX ps k := by simp [valX, List.find?_cons, e]
      rw [b, b']
      exact ih
theorem DRV.put {xs : List DEnt} {es : List (List Int × D)} {b : Addr} {k : List Int} {v : V} {d : D} (r : DRV K ω α H xs es) (rk : RV K ω α H (.ref b) (.tup (k.map D.int))) (rv : RV K ω α H v d) : DRV K ω α H (putX xs k b v) (putD es k d) := by
  have e := (r.val k).1
  unfold putX putD
  rw [e]
  by_cases q : (valD es k).isSome = true
  · rw [if_pos q, if_pos q]
    clear q e
    induction r with
    | nil => exact .nil
    | @cons p q ps qs h _ ih =>
      rw [List.map_cons, List.map_cons]
      refine .cons ?_ ih
      by_cases e : p.1 = k
      · rw [if_pos e, if_pos (h.1.symm.trans e)]; exact ⟨h.1, h.2.1, rv⟩
      · rw [if_neg e, if_neg (fun z => e (h.1.trans z))]; exact h
  · rw [if_neg q, if_neg q]; exact Paired.snoc r ⟨rfl, rk, rv⟩
theorem DRV.len {xs : List DEnt} {es : List (List Int × D)} (r : DRV K ω α H xs es) : xs.length = es.length := Paired.length r
theorem rv_dct {v : V} {d : D} {p : Nat × List (List Int × D)} (s : Sim K ω α H M) (h : RV K ω α H v d) (e : dctOf M d = some p) : ∃ a xs, v = .ref a ∧ d = .ref p.1 ∧ α[p.1]? = some a ∧ M[p.1]? = some (.dct p.2) ∧ H a = some (DctO a xs) ∧ DRV K ω α H xs p.2 := by
  cases d with
  | ref k =>
    simp only [dctOf] at e
    cases hm : M[k]? with
    | none => rw [hm] at e; cases e
    | some c =>
      cases c with
      | lst es => rw [hm] at e; cases e
      | dct es =>
        rw [hm] at e; cases e
        cases h with
        | ref ha =>
          obtain ⟨xs, e1, r⟩ := s.cell _ _ _ ha hm
          exact ⟨_, xs, rfl, rfl, ha, hm, e1, r⟩
  | _ => cases e
theorem post_if {A : Type} {c : Prop} [Decidable c] {r : Res A} {R : A → Mem → List Addr → Hp → Prop} (p : Post K ω mg E b α H M (if c then r else .stuck) R) : c ∧ Post K ω mg E b α H M r R := by
  by_cases h : c
  · rw [if_pos h] at p; exact ⟨h, p⟩
  · rw [if_neg h] at p; exact p.elim
theorem post_ifn {A : Type} {c : Prop} [Decidable c] {r : Res A} {R : A → Mem → List Addr → Hp → Prop} (p : Post K ω mg E b α H M (if c then .stuck else r) R) : ¬ c ∧ Post K ω mg E b α H M r R := by
  by_cases h : c
  · rw [if_pos h] at p; exact p.elim
  · rw [if_neg h] at p; exact ⟨h, p⟩
/-- a new list that is no cell -/
theorem new_lst {xs : List V} {ds : List D} {Q : VK} {p : Addr} {M' : Mem} (s : Sim K ω α H M) (r : RVs K ω α H xs ds) (h : H p = none)
    (q : Post K ω mg E b α H M' (.ok (.lst ds) M) (fun d _ α' H' => ∀ v, RV K ω α' H' v d → Q v H')) (hp : Pres b M' M) : Q (.ref p) (upd H p (.lst xs)) :=
  q α _ (Stp.fresh h) (s.fresh h) hp _ (.lst upd_same (s.notin h) (s.hidN h) (r.step (Stp.fresh h)))
theorem new_tup {xs : List V} {ds : List D} {Q : VK} {p : Addr} (s : Sim K ω α H M) (r : RVs K ω α H xs ds) (h : H p = none)
    (q : Post K ω mg E b α H M (.ok (.tup ds) M) (fun d _ α' H' => ∀ v, RV K ω α' H' v d → Q v H')) : Q (.ref p) (upd H p (.tup xs)) :=
  q α _ (Stp.fresh h) (s.fresh h) (Pres.refl _ _) _ (.tup (.inl ⟨.inl upd_same, s.notin h⟩) (r.step (Stp.fresh h)))
/-- a new list, as mkL has it -/
theorem new_mk {m : Bool} {xs : List V} {ds : List D} {Q : VK} (s : Sim K ω α H M) (hb : b ≤ M.length) (r : RVs K ω α H xs ds)
    (q : Post K ω mg E b α H M (mkL m ds M) (fun d _ α' H' => ∀ v, RV K ω α' H' v d → Q v H')) : xs.length ≤ sizeLine ∧ ∀ p, H p = none → Q (.ref p) (upd H p (.lst xs)) := by
  obtain ⟨hl, q⟩ := post_if q
  refine ⟨by rw [r.length]; exact hl, fun p hp => ?_⟩
  cases m with
  | false => exact new_lst s r hp q (Pres.refl _ _)
  | true =>
    exact q _ _ (Stp.cell hp) (s.newcell hp r) (Pres.grow _ _ _ hb) _ (.ref (by rw [← s.len, List.getElem?_append_right (Nat.le_refl _), Nat.sub_self]; rfl))
end

section
variable {X : Cx} {mg : Str → Option Value} {E : XK}

/-! ### ints -/
theorem ap_sub : OpR X (binaryOp .Sub) (fun x y => Ap X.K mg E .sub [x, y]) := opR_imp op_sub fun x y H Q h => by
  obtain ⟨ω, α, b, M, ds, s, hb, r, p⟩ := h
  obtain ⟨d, e, rfl, rx, ry⟩ := r.two
  cases d <;> cases e <;> first | exact p.elim | skip
  exact ⟨_, _, rv_int rx, rv_int ry, p.ok s _ (.int _)⟩
theorem mulOk_iff {i j : Int} (h : mulOk i j = true) : IntMulOk i j := @of_decide_eq_true _ (Classical.propDecidable _) h
theorem op_mulX : OpR X (binaryOp .Mult) (rI IntMulOk fun i j => .int (i * j)) := opI fun _ _ _ _ _ _ _ hc q => mul_int q hc
theorem op_fdivX : OpR X (binaryOp .FloorDiv) (rI (fun i j => j ≠ 0 ∧ Builtin.divisionGoesByPylong i j = false) fun i j => .int (i.fdiv j)) := opI fun _ _ _ _ _ _ _ hc q => floordiv_int hc.1 q (.inl hc.2)
theorem foldl_cps (z : Array Nat) : ∀ (n : Nat) (acc : Array Nat), (List.replicate n z).foldl (· ++ ·) acc = acc ++ (List.replicate n z.toList).flatten.toArray
  | 0, acc => by simp
  | n + 1, acc => by
    rw [List.replicate_succ, List.foldl_cons, foldl_cps z n, List.replicate_succ, List.flatten_cons]
    apply Array.toList_inj.mp
    simp
/-- so many times a text -/
theorem op_mulS : OpR X (binaryOp .Mult) (fun x y H Q => ∃ z k, x = .str z ∧ y = .int k ∧ 0 ≤ k ∧ k ≤ 1000 ∧ z.length ≤ 1000 ∧ Q (.str ⟨(List.replicate k.toNat z.cps.toList).flatten.toArray⟩) H) := by
  intro pins s σ H x y v u Q I rx ry h
  obtain ⟨z, k, rfl, rfl, k0, k1, hz, q⟩ := h
  obtain ⟨t, rfl⟩ := rx
  obtain ⟨t2, rfl⟩ := ry
  have hn : k.toNat ≤ 1000 := by omega
  have hm : z.length * k.toNat ≤ 1000 * 1000 := Nat.mul_le_mul hz hn
  refine P.mul_str ?_ (fun h1 _ => ?_) (fun _ _ => ?_) ?_
  · rw [Bool.or_eq_false_iff]
    exact ⟨decide_eq_false (by omega), decide_eq_false (by omega)⟩
  · have h2 : (1 : Int) ≤ k := by omega
    intro hg
    have h3 : (2 ^ 63 - 1) / 1000 ≤ ((2 : Int) ^ 63 - 1) / k := by
      rw [Int.le_ediv_iff_mul_le (by omega)]
      have : ((2 : Int) ^ 63 - 1) / 1000 * k ≤ (2 ^ 63 - 1) / 1000 * 1000 := Int.mul_le_mul_of_nonneg_left k1 (by decide)
      exact Int.le_trans this (by decide)
    have h4 : (1000 : Int) < (2 ^ 63 - 1) / 1000 := by decide
    omega
  · unfold Builtin.Str.tooLong
    rw [sizeLine_eq]
    exact decide_eq_false (by omega)
  · by_cases h1 : k < 1
    · rw [if_pos h1]
      have e : (List.replicate k.toNat z.cps.toList).flatten.toArray = #[] := by
        rw [show k.toNat = 0 by omega]; rfl
      rw [e] at q
      exact ⟨Nat.zero_le _, .str _, H, I.tok _, ⟨_, rfl⟩, q⟩
    · rw [if_neg h1]
      by_cases h2 : (k == 1 || z.length == 0) = true
      · rw [if_pos h2]
        have e : (List.replicate k.toNat z.cps.toList).flatten.toArray = z.cps := by
          rcases Bool.or_eq_true _ _ |>.mp h2 with h | h
          · rw [eq_of_beq h]; apply Array.toList_inj.mp; simp
          · have : z.cps.toList = [] := List.length_eq_zero_iff.mp (by rw [Array.length_toList]; exact eq_of_beq h)
            apply Array.toList_inj.mp
            rw [this]
            simp
        rw [e] at q
        exact ⟨.str z, H, I, ⟨_, rfl⟩, q⟩
      · rw [if_neg h2]
        have e := foldl_cps z.cps k.toNat #[]
        rw [Array.empty_append] at e
        rw [e]
        refine ⟨?_, .str _, H, I.tok _, ⟨_, rfl⟩, q⟩
        have hlen : ∀ (n : Nat) (l : List Nat), (List.replicate n l).flatten.length = n * l.length := fun n l => by simp
        show (List.replicate k.toNat z.cps.toList).flatten.toArray.size ≤ sizeLine
        rw [List.size_toArray, hlen, Array.length_toList, sizeLine_eq, Nat.mul_comm]
        exact Nat.le_trans hm (by decide)
theorem ap_mul : OpR X (binaryOp .Mult) (fun x y => Ap X.K mg E .mul [x, y]) := opR_imp (OpR.or op_mulX (OpR.or op_rep (OpR.or op_repT op_mulS))) fun x y H Q h => by
  obtain ⟨ω, α, b, M, ds, s, hb, r, p⟩ := h
  obtain ⟨d, e, rfl, rx, ry⟩ := r.two
  replace p : Post X.K ω mg E b α H M (mulE d e M) _ := p
  unfold mulE at p
  split at p
  · obtain ⟨h, p⟩ := post_if p
    exact .inl ⟨_, _, rv_int rx, rv_int ry, mulOk_iff h, p.ok s _ (.int _)⟩
  · obtain ⟨⟨h1, h2, h3⟩, p⟩ := post_if p
    exact .inr (.inr (.inr ⟨_, _, rv_str rx, rv_int ry, h1, h2, h3, p.ok s _ (.str _)⟩))
  · rename_i xs k
    obtain ⟨⟨h1, h2, h3, h4⟩, p⟩ := post_if p
    obtain ⟨a, vs, rfl, ha, rv⟩ := rv_tup rx
    refine .inr (.inr (.inl ⟨a, k, vs, rfl, rv_int ry, ha, fun e => ?_, h2, h3, by rw [rv.length]; exact h4, fun p' hp' => ?_⟩))
    · subst e; cases rv; exact h1 rfl
    · refine new_tup s ?_ hp' p
      have : ∀ n : Nat, RVs X.K ω α H (List.replicate n vs).flatten (List.replicate n xs).flatten := fun n => by
        induction n with
        | zero => exact .nil
        | succ n ih => rw [List.replicate_succ, List.replicate_succ, List.flatten_cons, List.flatten_cons]; exact rv.append ih
      exact this _
  · rename_i k _ _ _
    split at p
    · rename_i xs hx
      obtain ⟨⟨h1, h2⟩, p⟩ := post_if p
      obtain ⟨a, vs, rfl, ha, rv⟩ := rv_look s rx hx
      have hs := of_decide_eq_true h1
      refine .inr (.inl ⟨a, k, vs, rfl, rv_int ry, ha, by omega, by omega, by rw [rv.length]; exact h2, ?_⟩)
      intro p' hp'
      refine new_lst s ?_ hp' p (Pres.refl _ _)
      have : ∀ n : Nat, RVs X.K ω α H (List.replicate n vs).flatten (List.replicate n xs).flatten := fun n => by
        induction n with
        | zero => exact .nil
        | succ n ih => rw [List.replicate_succ, List.replicate_succ, List.flatten_cons, List.flatten_cons]; exact rv.append ih
      exact this _
    · exact p.elim
  · exact p.elim
theorem ap_fdiv : OpR X (binaryOp .FloorDiv) (fun x y => Ap X.K mg E .fdiv [x, y]) := opR_imp op_fdivX fun x y H Q h => by
  obtain ⟨ω, α, b, M, ds, s, hb, r, p⟩ := h
  obtain ⟨d, e, rfl, rx, ry⟩ := r.two
  replace p : Post X.K ω mg E b α H M (divE d e M) _ := p
  unfold divE at p
  split at p
  · obtain ⟨h, p⟩ := post_if p
    exact ⟨_, _, rv_int rx, rv_int ry, h, p.ok s _ (.int _)⟩
  · exact p.elim
theorem ap_mod : OpR X (binaryOp .Mod) (fun x y => Ap X.K mg E .mod [x, y]) := opR_imp op_modN fun x y H Q h => by
  obtain ⟨ω, α, b, M, ds, s, hb, r, p⟩ := h
  obtain ⟨d, e, rfl, rx, ry⟩ := r.two
  replace p : Post X.K ω mg E b α H M (modE d e M) _ := p
  unfold modE at p
  split at p
  · obtain ⟨h, p⟩ := post_if p
    exact ⟨_, _, rv_int rx, rv_int ry, h, p.ok s _ (.int _)⟩
  · exact p.elim
theorem ap_pow : OpR X (binaryOp .Pow) (fun x y => Ap X.K mg E .pow [x, y]) := opR_imp op_pow fun x y H Q h => by
  obtain ⟨ω, α, b, M, ds, s, hb, r, p⟩ := h
  obtain ⟨d, e, rfl, rx, ry⟩ := r.two
  replace p : Post X.K ω mg E b α H M (powE d e M) _ := p
  unfold powE at p
  split at p
  · obtain ⟨h, p⟩ := post_if p
    exact ⟨_, _, rv_int rx, rv_int ry, h, p.ok s _ (.int _)⟩
  · exact p.elim
theorem ap_cmpI {op : CmpOp} {pr : Prim} {f : Int → Int → Bool} (h : OpR X (compareOp op) (rI0 fun i j => .bl (f i j))) (e : ∀ b ds M, primE b pr ds M = ap2 (intOp fun i j => .bl (f i j)) ds M) : OpR X (compareOp op) (fun x y => Ap X.K mg E pr [x, y]) :=
  opR_imp h fun x y H Q h => by
    obtain ⟨ω, α, b, M, ds, s, hb, r, p⟩ := h
    obtain ⟨d, e', rfl, rx, ry⟩ := r.two
    rw [e] at p
    replace p : Post X.K ω mg E b α H M (intOp (fun i j => .bl (f i j)) d e' M) _ := p
    unfold intOp at p
    split at p
    · exact ⟨_, _, rv_int rx, rv_int ry, p.ok s _ (.bl _)⟩
    · exact p.elim
theorem ap_lt : OpR X (compareOp .Lt) (fun x y => Ap X.K mg E .lt [x, y]) := ap_cmpI op_lt fun _ _ _ => rfl
theorem ap_le : OpR X (compareOp .LtE) (fun x y => Ap X.K mg E .le [x, y]) := ap_cmpI op_le fun _ _ _ => rfl
theorem ap_gt : OpR X (compareOp .Gt) (fun x y => Ap X.K mg E .gt [x, y]) := ap_cmpI op_gt fun _ _ _ => rfl
theorem ap_ge : OpR X (compareOp .GtE) (fun x y => Ap X.K mg E .ge [x, y]) := ap_cmpI op_ge fun _ _ _ => rfl
theorem ap_neg : UnR X (unaryOp .USub) (fun x => Ap X.K mg E .neg [x]) := unR_imp un_neg fun x H Q h => by
  obtain ⟨ω, α, b, M, ds, s, hb, r, p⟩ := h
  obtain ⟨d, rfl, rx⟩ := r.one
  replace p : Post X.K ω mg E b α H M (negE d M) _ := p
  unfold negE at p
  split at p
  · exact ⟨_, rv_int rx, p.ok s _ (.int _)⟩
  · exact p.elim
/-! ### equality -/
mutual
theorem dp_of {K : PySem.W.Frag} {ω α : List Addr} {H : Hp} : ∀ (d : D) (v : V) (q : PyData), RV K ω α H v d → d.toPD = some q → Dp K H v q
  | .non, _, _, .non, e => by cases e; exact .non
  | .bl _, _, _, .bl _, e => by cases e; exact .bl _
  | .int _, _, _, .int _, e => by cases e; exact .int _
  | .str _, _, _, .str _, e => by cases e; exact .str _
  | .tup ds, _, q, .tup h r, e => by
    simp only [D.toPD, Option.map_eq_some_iff] at e
    obtain ⟨qs, e, rfl⟩ := e
    exact .tup (h.imp (·.1) id) (dps_of ds _ qs r e)
  | .lst ds, _, q, .lst h n w r, e => by
    simp only [D.toPD, Option.map_eq_some_iff] at e
    obtain ⟨qs, e, rfl⟩ := e
    exact .lst (.of h) (dps_of ds _ qs r e)
  | .fix ds, _, q, .fix h r, e => by
    simp only [D.toPD, Option.map_eq_some_iff] at e
    obtain ⟨qs, e, rfl⟩ := e
    exact .lst (h.imp (·.1.1) id) (dps_of ds _ qs r e)
  | .ref _, _, _, .ref _, e => by simp [D.toPD] at e
theorem dps_of {K : PySem.W.Frag} {ω α : List Addr} {H : Hp} : ∀ (ds : List D) (vs : List V) (qs : List PyData), RVs K ω α H vs ds → toPDs ds = some qs → DpAll K H vs qs
  | [], _, _, .nil, e => by cases e; exact .nil
  | d :: ds, _, _, .cons h r, e => by
    simp only [toPDs] at e
    split at e
    · rename_i a b ha hb
      cases e
      exact .cons (dp_of d _ _ h ha) (dps_of ds _ _ r hb)
    · cases e
end
theorem dp_ofM {K : PySem.W.Frag} {ω α : List Addr} {H : Hp} {M : Mem} {d : D} {v : V} {q : PyData} (s : Sim K ω α H M) (r : RV K ω α H v d) (e : toPDM M d = some q) : Dp K H v q := by
  unfold toPDM at e
  split at e
  · rename_i n
    cases hl : look M (.ref n) with
    | none => rw [hl] at e; cases e
    | some xs =>
      rw [hl] at e
      simp only [Option.bind_some, Option.map_eq_some_iff] at e
      obtain ⟨qs, e, rfl⟩ := e
      obtain ⟨a, vs, rfl, ha, rv⟩ := rv_look s r hl
      exact .lst (.of ha) (dps_of _ _ _ rv e)
  · rename_i ds
    unfold toPDT at e
    cases r with
    | tup h rs =>
      split at e
      · rename_i qs hq
        cases e
        exact .tup (h.imp (·.1) id) (dps_of _ _ _ rs hq)
      · split at e
        · rename_i x n
          split at e
          · rename_i qa xs ha hx
            obtain ⟨q, hq, rfl⟩ := Option.map_eq_some_iff.mp e
            cases rs with
            | cons r1 rs =>
              cases rs with
              | cons r2 rs =>
                cases rs with
                | nil =>
                  obtain ⟨a, vs, rfl, hH, rv⟩ := rv_look s r2 hx
                  exact .tup (h.imp (·.1) id) (.cons (dp_of _ _ _ r1 ha) (.cons (.lst (.of hH) (dps_of _ _ _ rv hq)) .nil))
          · cases e
        · cases e
  · exact dp_of _ _ _ r e
theorem ap_eq (hu : X.A.units + 64 < cLine) : OpR X (compareOp .Eq) (fun x y => Ap X.K mg E .eq [x, y]) := opR_imp (op_eqD hu) fun x y H Q h => by
  obtain ⟨ω, α, b, M, ds, s, hb, r, p⟩ := h
  obtain ⟨d, e, rfl, rx, ry⟩ := r.two
  replace p : Post X.K ω mg E b α H M (okB (eqE M d e) M) _ := p
  unfold eqE at p
  split at p
  · rename_i a c ha hc
    by_cases hs : SeqAt.shaped a = true ∧ SeqAt.shaped c = true
    · rw [if_pos hs] at p
      exact ⟨a, c, dp_ofM s rx ha, dp_ofM s ry hc, hs.1, hs.2, p.ok s _ (.bl _)⟩
    · rw [if_neg hs] at p; exact p.elim
  · exact p.elim
theorem ap_ne (hu : X.A.units + 64 < cLine) : OpR X (compareOp .NotEq) (fun x y => Ap X.K mg E .ne [x, y]) := opR_imp (op_neD hu) fun x y H Q h => by
  obtain ⟨ω, α, b, M, ds, s, hb, r, p⟩ := h
  obtain ⟨d, e, rfl, rx, ry⟩ := r.two
  replace p : Post X.K ω mg E b α H M (okB ((eqE M d e).map (!·)) M) _ := p
  unfold eqE at p
  split at p
  · rename_i a c ha hc
    by_cases hs : SeqAt.shaped a = true ∧ SeqAt.shaped c = true
    · rw [if_pos hs] at p
      exact ⟨a, c, dp_ofM s rx ha, dp_ofM s ry hc, hs.1, hs.2, p.ok s _ (.bl _)⟩
    · rw [if_neg hs] at p; exact p.elim
  · exact p.elim
/-! ### is -/
theorem ap_is : OpR X (compareOp .Is) (fun x y => Ap X.K mg E .is [x, y]) := opR_imp (OpR.or op_isN op_isBl) fun x y H Q h => by
  obtain ⟨ω, α, b, M, ds, s, hb, r, p⟩ := h
  obtain ⟨d, e, rfl, rx, ry⟩ := r.two
  replace p : Post X.K ω mg E b α H M (isE false d e M) _ := p
  unfold isE at p
  split at p
  · refine .inr ⟨_, _, rv_bl rx, rv_bl ry, ?_⟩
    have := p.ok s _ (.bl _)
    rw [if_neg Bool.false_ne_true] at this
    rw [show ∀ i j : Bool, decide (i = j) = (i == j) by decide]
    exact this
  · refine .inl ⟨rv_non ry, ?_⟩
    rw [rv_non rx, decide_eq_true rfl]
    exact p.ok s _ (.bl true)
  · rename_i h1 h2
    refine .inl ⟨rv_non ry, ?_⟩
    have : x ≠ .non := fun z => by
      subst z; cases rx; exact h2 rfl
    rw [decide_eq_false this]
    exact p.ok s _ (.bl false)
  · exact p.elim
theorem ap_isnot : OpR X (compareOp .IsNot) (fun x y => Ap X.K mg E .isnot [x, y]) := opR_imp (OpR.or op_notN op_notBl) fun x y H Q h => by
  obtain ⟨ω, α, b, M, ds, s, hb, r, p⟩ := h
  obtain ⟨d, e, rfl, rx, ry⟩ := r.two
  replace p : Post X.K ω mg E b α H M (isE true d e M) _ := p
  unfold isE at p
  split at p
  · refine .inr ⟨_, _, rv_bl rx, rv_bl ry, ?_⟩
    have := p.ok s _ (.bl _)
    rw [if_pos rfl] at this
    rw [show ∀ i j : Bool, (!decide (i = j)) = (!(i == j)) by decide]
    exact this
  · refine .inl ⟨rv_non ry, ?_⟩
    rw [rv_non rx, decide_eq_true rfl]
    exact p.ok s _ (.bl false)
  · rename_i h1 h2
    refine .inl ⟨rv_non ry, ?_⟩
    have : x ≠ .non := fun z => by
      subst z; cases rx; exact h2 rfl
    rw [decide_eq_false this]
    exact p.ok s _ (.bl true)
  · exact p.elim
/-! ### in -/
theorem dp_items {K : PySem.W.Frag} {ω α : List Addr} {H : Hp} {M : Mem} {d : D} {v : V} {qs : List PyData} (s : Sim K ω α H M) (r : RV K ω α H v d) (e : (items M d).bind toPDs = some qs) :
    Dp K H v (.list qs) ∨ Dp K H v (.tuple qs) := by
  cases hi : items M d with
  | none => rw [hi] at e; cases e
  | some ds =>
    rw [hi] at e
    obtain ⟨a, xs, rfl, h, rv⟩ := rv_items s r hi
    rcases h with h | h
    · exact .inl (.lst h (dps_of _ _ _ rv e))
    · exact .inr (.tup h (dps_of _ _ _ rv e))
theorem ap_isin (hu : X.A.units + 65 < cLine) : OpR X (compareOp .In) (fun x y => Ap X.K mg E .isin [x, y]) := by
  intro pins s σ H x y v u Q I rv ru h
  obtain ⟨ω, α, b, M, ds, sm, hb, r, p⟩ := h
  obtain ⟨d, e, rfl, rx, ry⟩ := r.two
  replace p : Post X.K ω mg E b α H M (okB (inE M d e) M) _ := p
  unfold inE at p
  split at p
  · rename_i a c ha hc
    by_cases hs : SeqAt.shaped a = true ∧ SeqAt.shaped (.list c) = true
    · rw [if_pos hs] at p
      have hq := p.ok sm _ (.bl _)
      obtain ⟨as, r1⟩ := Dp.reads I a x v (dp_ofM sm rx ha) rv
      rcases dp_items sm ry hc with dy | dy
      · obtain ⟨bs, r2⟩ := Dp.reads I _ y u dy ru
        exact SeqAt.in_list_reads r2 r1 (SeqAt.canLay_of_shaped hs.2) (SeqAt.canLay_of_shaped hs.1) (room_in_shaped hs.1 hu) ⟨.bl _, H, I, rfl, hq⟩
      · obtain ⟨bs, r2⟩ := Dp.reads I _ y u dy ru
        exact SeqAt.in_tuple_reads r2 r1 (SeqAt.canLay_of_shaped hs.2) (SeqAt.canLay_of_shaped hs.1) (room_in_shaped hs.1 hu) ⟨.bl _, H, I, rfl, hq⟩
    · rw [if_neg hs] at p; exact p.elim
  · have txt : inS d e = none ∨ ∃ a z c, d = .str a ∧ e = .str z ∧ oneSign a = some c := by
      cases d with
      | str a =>
        cases e with
        | str z =>
          cases ho : oneSign a with
          | none => exact .inl (by simp only [inS, ho, Option.map_none])
          | some c => exact .inr ⟨a, z, c, rfl, rfl, ho⟩
        | _ => exact .inl rfl
      | _ => exact .inl rfl
    cases hd : dctOf M e with
    | none =>
      rcases txt with ht | ⟨a, z, c, rfl, rfl, ho⟩
      · rw [hd, ht] at p; exact p.elim
      · have ea : a = sgn1 c := by
          unfold oneSign at ho
          split at ho
          · rename_i c' hc
            cases ho
            cases a
            congr 1
            apply Array.toList_inj.mp
            exact hc
          · cases ho
        subst ea
        rw [hd] at p
        have hq := p.ok sm _ (.bl _)
        rw [rv_str rx] at rv
        rw [rv_str ry] at ru
        exact op_in_sign pins s σ H _ _ v u Q I rv ru ⟨c, z, rfl, rfl, hq⟩
    | some q =>
      cases hk : keyOf d with
      | none =>
        rcases txt with ht | ⟨a, z, c, rfl, rfl, ho⟩
        · rw [hd, hk, ht] at p; exact p.elim
        · cases hd
      | some k =>
        rw [hd, hk] at p
        obtain ⟨a, xs, rfl, _, _, _, hH, rx'⟩ := rv_dct sm ry hd
        obtain ⟨b', rfl, _, hb'⟩ := rv_key rx hk
        refine op_inD (by omega) pins s σ H _ _ v u Q I rv ru ⟨a, b', xs, k, rfl, rfl, rx'.at hH, hb', ?_⟩
        have hq := p.ok sm _ (.bl _)
        rw [(rx'.val k).1]
        exact hq
theorem ap_notin (hu : X.A.units + 65 < cLine) : OpR X (compareOp .NotIn) (fun x y => Ap X.K mg E .notin [x, y]) := by
  intro pins s σ H x y v u Q I rv ru h
  obtain ⟨ω, α, b, M, ds, sm, hb, r, p⟩ := h
  obtain ⟨d, e, rfl, rx, ry⟩ := r.two
  replace p : Post X.K ω mg E b α H M (okB ((inE M d e).map (!·)) M) _ := p
  unfold inE at p
  split at p
  · rename_i a c ha hc
    by_cases hs : SeqAt.shaped a = true ∧ SeqAt.shaped (.list c) = true
    · rw [if_pos hs] at p
      have hq := p.ok sm _ (.bl _)
      obtain ⟨as, r1⟩ := Dp.reads I a x v (dp_ofM sm rx ha) rv
      rcases dp_items sm ry hc with dy | dy
      · obtain ⟨bs, r2⟩ := Dp.reads I _ y u dy ru
        exact SeqAt.notIn_list_reads r2 r1 (SeqAt.canLay_of_shaped hs.2) (SeqAt.canLay_of_shaped hs.1) (room_in_shaped hs.1 hu) ⟨.bl _, H, I, rfl, hq⟩
      · obtain ⟨bs, r2⟩ := Dp.reads I _ y u dy ru
        exact SeqAt.notIn_tuple_reads r2 r1 (SeqAt.canLay_of_shaped hs.2) (SeqAt.canLay_of_shaped hs.1) (room_in_shaped hs.1 hu) ⟨.bl _, H, I, rfl, hq⟩
    · rw [if_neg hs] at p; exact p.elim
  · have txt : inS d e = none ∨ ∃ a z c, d = .str a ∧ e = .str z ∧ oneSign a = some c := by
      cases d with
      | str a =>
        cases e with
        | str z =>
          cases ho : oneSign a with
          | none => exact .inl (by simp only [inS, ho, Option.map_none])
          | some c => exact .inr ⟨a, z, c, rfl, rfl, ho⟩
        | _ => exact .inl rfl
      | _ => exact .inl rfl
    cases hd : dctOf M e with
    | none =>
      rcases txt with ht | ⟨a, z, c, rfl, rfl, ho⟩
      · rw [hd, ht] at p; exact p.elim
      · have ea : a = sgn1 c := by
          unfold oneSign at ho
          split at ho
          · rename_i c' hc
            cases ho
            cases a
            congr 1
            apply Array.toList_inj.mp
            exact hc
          · cases ho
        subst ea
        rw [hd] at p
        have hq := p.ok sm _ (.bl _)
        rw [rv_str rx] at rv
        rw [rv_str ry] at ru
        exact op_notIn_sign pins s σ H _ _ v u Q I rv ru ⟨c, z, rfl, rfl, hq⟩
    | some q =>
      cases hk : keyOf d with
      | none =>
        rcases txt with ht | ⟨a, z, c, rfl, rfl, ho⟩
        · rw [hd, hk, ht] at p; exact p.elim
        · cases hd
      | some k =>
        rw [hd, hk] at p
        obtain ⟨a, xs, rfl, _, _, _, hH, rx'⟩ := rv_dct sm ry hd
        obtain ⟨b', rfl, _, hb'⟩ := rv_key rx hk
        refine op_notInD (by omega) pins s σ H _ _ v u Q I rv ru ⟨a, b', xs, k, rfl, rfl, rx'.at hH, hb', ?_⟩
        have hq := p.ok sm _ (.bl _)
        rw [(rx'.val k).1]
        exact hq
/-! ### + -/
theorem ap_add : OpR X (binaryOp .Add) (fun x y => Ap X.K mg E .add [x, y]) :=
  opR_imp (OpR.or op_add (OpR.or op_catA (OpR.or op_add_str op_cat))) fun x y H Q h => by
  obtain ⟨ω, α, b, M, ds, s, hb, r, p⟩ := h
  obtain ⟨d, e, rfl, rx, ry⟩ := r.two
  replace p : Post X.K ω mg E b α H M (addE d e M) _ := p
  unfold addE at p
  split at p
  · exact .inl ⟨_, _, rv_int rx, rv_int ry, p.ok s _ (.int _)⟩
  · rename_i xs ys
    replace ⟨hl, p⟩ := post_if p
    cases rx with
    | tup hx qx =>
      cases ry with
      | tup hy qy =>
        refine .inr (.inl ⟨_, _, _, _, rfl, rfl, hx.imp (·.1) id, hy.imp (·.1) id, by rw [qx.length, qy.length]; exact hl, fun z => ?_, fun _ z => ?_, fun _ _ p' hp' => ?_⟩)
        · have : xs = [] := by cases qx with
            | nil => rfl
            | cons _ _ => cases z
          subst this
          exact p.ok s _ (.tup hy qy)
        · have : ys = [] := by cases qy with
            | nil => rfl
            | cons _ _ => cases z
          subst this
          rw [List.append_nil] at p
          exact p.ok s _ (.tup hx qx)
        · exact new_tup s (qx.append qy) hp' p
  · obtain ⟨hl, p⟩ := post_if p
    exact .inr (.inr (.inl ⟨_, _, rv_str rx, rv_str ry, hl, p.ok s _ (.str _)⟩))
  · split at p
    · rename_i xs ys hx hy
      obtain ⟨hl, p⟩ := post_if p
      obtain ⟨a1, v1, rfl, h1, q1⟩ := rv_look s rx hx
      obtain ⟨a2, v2, rfl, h2, q2⟩ := rv_look s ry hy
      exact .inr (.inr (.inr ⟨_, _, _, _, rfl, rfl, h1, h2, by rw [q1.length, q2.length]; exact hl, fun p' hp' => new_lst s (q1.append q2) hp' p (Pres.refl _ _)⟩))
    · exact p.elim
/-! ### places -/
theorem atI_rel {K : PySem.W.Frag} {ω α : List Addr} {H : Hp} {vs : List V} {ds : List D} {i : Int} {d : D} (r : RVs K ω α H vs ds) (h : atI ds i = some d) : ∃ v, atI vs i = some v ∧ RV K ω α H v d := by
  unfold atI at h ⊢
  rw [r.length]
  cases e : ixN ds.length i with
  | none => rw [e] at h; cases h
  | some j => rw [e] at h; exact r.get h
theorem ap_idx (hu : X.A.units + 1 < cLine) : IxR X (fun x y H Q => Ap X.K mg E .idx [x, y] H Q) := ixR_imp (IxR.or ix_list (IxR.or ix_tup (IxR.or (ix_dct hu) ix_str))) fun x y H Q h => by
  obtain ⟨ω, α, b, M, ds, s, hb, r, p⟩ := h
  obtain ⟨d, e, rfl, rx, ry⟩ := r.two
  replace p : Post X.K ω mg E b α H M (idxE d e M) _ := p
  unfold idxE at p
  split at p
  · unfold idxS at p
    split at p
    · obtain ⟨hl, p⟩ := post_if p
      split at p
      · rename_i c hc
        exact .inr (.inr (.inr ⟨_, _, c, rv_str rx, rv_int ry, hl, hc, p.ok s _ (.str _)⟩))
      · exact p.elim
    · exact p.elim
  unfold idxO at p
  split at p
  · split at p
    · rename_i xs hx
      split at p
      · rename_i w hw
        obtain ⟨a, vs, rfl, hv, q⟩ := rv_items s rx hx
        obtain ⟨v, ev, rv⟩ := atI_rel q hw
        rcases hv with hv | hv
        · exact .inl ⟨a, vs, _, v, rfl, rv_int ry, hv, ev, p.ok s _ rv⟩
        · exact .inr (.inl ⟨a, vs, _, v, rfl, rv_int ry, hv, ev, p.ok s _ rv⟩)
      · exact p.elim
    · exact p.elim
  · split at p
    · rename_i q k hq hk
      split at p
      · rename_i w hw
        obtain ⟨a, xs, rfl, _, _, _, hH, rx'⟩ := rv_dct s rx hq
        obtain ⟨b', rfl, _, hb'⟩ := rv_key ry hk
        obtain ⟨v, ev, rv⟩ := (rx'.val k).2 w hw
        exact .inr (.inr (.inl ⟨a, b', xs, k, v, rfl, rfl, rx'.at hH, hb', ev, p.ok s _ rv⟩))
      · exact p.elim
    · exact p.elim
theorem cut_rel {K : PySem.W.Frag} {ω α : List Addr} {H : Hp} {vs : List V} {ds : List D} (r : RVs K ω α H vs ds) (lo hi : Option Int) : RVs K ω α H (cutV vs lo hi) (cutD ds lo hi) := by
  unfold cutV cutD
  rw [r.length]
  exact (r.drop _).take _
/-- a slice, by values -/
def ApSl (K : PySem.W.Frag) (mg : Str → Option Value) (E : XK) (m : Bool) (x : V) (lo hi : Option Int) (H : Hp) (Q : VK) : Prop := ∃ ω α b M d, Sim K ω α H M ∧ b ≤ M.length ∧ RV K ω α H x d ∧ Post K ω mg E b α H M (slcE m d lo hi M) (fun d _ α' H' => ∀ v, RV K ω α' H' v d → Q v H')
theorem ap_slc {m : Bool} : SlR X (ApSl X.K mg E m) := slR_imp (SlR.or sl_tupA (SlR.or sl_list sl_str)) fun x lo hi H Q h => by
  obtain ⟨ω, α, b, M, d, s, hb, rx, p⟩ := h
  unfold slcE at p
  split at p
  · rename_i xs
    cases rx with
    | tup hx qx =>
      refine .inl ⟨_, _, rfl, hx.imp (·.1) id, fun z => ?_, fun _ p' hp' => new_tup s (cut_rel qx lo hi) hp' p⟩
      have : cutD xs lo hi = xs := by
        unfold cutD
        rw [← qx.length, z.1, z.2, List.drop_zero, Nat.sub_zero, qx.length, List.take_length]
      rw [this] at p
      exact p.ok s _ (.tup hx qx)
  · obtain ⟨hl, p⟩ := post_if p
    exact .inr (.inr ⟨_, rv_str rx, hl, p.ok s _ (.str _)⟩)
  · split at p
    · rename_i xs hx
      obtain ⟨a, vs, rfl, ha, q⟩ := rv_look s rx hx
      exact .inr (.inl ⟨a, vs, rfl, .of ha, (new_mk s hb (cut_rel q lo hi) p).2⟩)
    · exact p.elim
/-! ### built-in functions -/
theorem ap_len : CallR X (.builtin "len") (Ap X.K mg E .len) := callR_imp (CallR.or call_len call_len_dct) fun vs H Q h => by
  obtain ⟨ω, α, b, M, ds, s, hb, r, p⟩ := h
  cases r with
  | nil => exact p.elim
  | cons rx t =>
    cases t with
    | cons _ _ => exact p.elim
    | nil =>
      replace p : Post X.K ω mg E b α H M (lenE _ M) _ := p
      unfold lenE at p
      split at p
      · rename_i z
        obtain ⟨hl, p⟩ := post_if p
        exact .inl ⟨.str z, z.length, by rw [rv_str rx], ⟨hl, rfl⟩, p.ok s _ (.int _)⟩
      unfold lenO at p
      split at p
      · rename_i xs hx
        obtain ⟨a, ws, rfl, hv, q⟩ := rv_items s rx hx
        refine .inl ⟨.ref a, ws.length, rfl, ?_, by rw [q.length]; exact p.ok s _ (.int _)⟩
        rcases hv with hv | hv
        · exact .inl ⟨ws, hv, rfl⟩
        · exact .inr ⟨ws, hv, rfl⟩
      · split at p
        · rename_i q hq
          obtain ⟨a, xs, rfl, _, _, _, hH, rx'⟩ := rv_dct s rx hq
          exact .inr ⟨a, xs, rfl, rx'.at hH, by rw [rx'.len]; exact p.ok s _ (.int _)⟩
        · exact p.elim
theorem ap_abs : CallR X (.builtin "abs") (Ap X.K mg E .abs) := callR_imp call_abs fun vs H Q h => by
  obtain ⟨ω, α, b, M, ds, s, hb, r, p⟩ := h
  cases r with
  | nil => exact p.elim
  | cons rx t =>
    cases t with
    | cons _ _ => exact p.elim
    | nil =>
      replace p : Post X.K ω mg E b α H M (absE _ M) _ := p
      unfold absE at p
      split at p
      · exact ⟨_, by rw [rv_int rx], p.ok s _ (.int _)⟩
      · exact p.elim
theorem ap_int1 : CallR X (.type "int") (Ap X.K mg E .int1) := callR_imp (CallR.or call_int1 call_int_str) fun vs H Q h => by
  obtain ⟨ω, α, b, M, ds, s, hb, r, p⟩ := h
  cases r with
  | nil => exact p.elim
  | cons rx t =>
    cases t with
    | cons _ _ => exact p.elim
    | nil =>
      replace p : Post X.K ω mg E b α H M (int1E _ M) _ := p
      unfold int1E at p
      split at p
      · exact .inl (.inl ⟨_, by rw [rv_int rx], p.ok s _ (.int _)⟩)
      · exact .inl (.inr ⟨_, by rw [rv_bl rx], p.ok s _ (.int _)⟩)
      · obtain ⟨hl, p⟩ := post_if p
        split at p
        · rename_i n hn
          exact .inr ⟨_, n, by rw [rv_str rx], hn, hl, p.ok s _ (.int _)⟩
        · exact p.elim
      · exact p.elim
theorem bls_of {K : PySem.W.Frag} {ω α : List Addr} {H : Hp} : ∀ {vs : List V} {ds : List D} {bs : List Bool}, RVs K ω α H vs ds → boolsOf ds = some bs → vs = bs.map V.bl
  | _, _, _, .nil, e => by cases e; rfl
  | _, _, _, .cons h r, e => by
    cases h with
    | bl c =>
      simp only [boolsOf, Option.map_eq_some_iff] at e
      obtain ⟨bs, e, rfl⟩ := e
      rw [bls_of r e]; rfl
    | _ => cases e
theorem ints_of {K : PySem.W.Frag} {ω α : List Addr} {H : Hp} : ∀ {vs : List V} {ds : List D} {bs : List Int}, RVs K ω α H vs ds → intsOf ds = some bs → vs = bs.map V.int
  | _, _, _, .nil, e => by cases e; rfl
  | _, _, _, .cons h r, e => by
    cases h with
    | int c =>
      simp only [intsOf, Option.map_eq_some_iff] at e
      obtain ⟨bs, e, rfl⟩ := e
      rw [ints_of r e]; rfl
    | _ => cases e
theorem ap_all (hc : X.calm = true) : CallR X (.builtin "all") (Ap X.K mg E .all) := callR_imp (cr_all hc) fun vs H Q h => by
  obtain ⟨ω, α, b, M, ds, s, hb, r, p⟩ := h
  cases r with
  | nil => exact p.elim
  | cons rx t =>
    cases t with
    | cons _ _ => exact p.elim
    | nil =>
      replace p : Post X.K ω mg E b α H M (allE _ M) _ := p
      unfold allE at p
      split at p
      · rename_i bs hx
        rw [Option.bind_eq_some_iff] at hx
        obtain ⟨xs, h1, h2⟩ := hx
        obtain ⟨a, ws, rfl, hv, q⟩ := rv_look s rx h1
        exact ⟨a, bs, rfl, by rw [← bls_of q h2]; exact .of hv, p.ok s _ (.bl _)⟩
      · exact p.elim
theorem ap_any (hc : X.calm = true) : CallR X (.builtin "any") (Ap X.K mg E .any) := callR_imp (cr_any hc) fun vs H Q h => by
  obtain ⟨ω, α, b, M, ds, s, hb, r, p⟩ := h
  cases r with
  | nil => exact p.elim
  | cons rx t =>
    cases t with
    | cons _ _ => exact p.elim
    | nil =>
      replace p : Post X.K ω mg E b α H M (anyE _ M) _ := p
      unfold anyE at p
      split at p
      · rename_i bs hx
        rw [Option.bind_eq_some_iff] at hx
        obtain ⟨xs, h1, h2⟩ := hx
        obtain ⟨a, ws, rfl, hv, q⟩ := rv_look s rx h1
        exact ⟨a, bs, rfl, by rw [← bls_of q h2]; exact .of hv, p.ok s _ (.bl _)⟩
      · exact p.elim
theorem ap_sum (hc : X.calm = true) : CallR X (.builtin "sum") (Ap X.K mg E .sum) := callR_imp (cr_sum hc) fun vs H Q h => by
  obtain ⟨ω, α, b, M, ds, s, hb, r, p⟩ := h
  cases r with
  | nil => exact p.elim
  | cons rx t =>
    cases t with
    | cons _ _ => exact p.elim
    | nil =>
      replace p : Post X.K ω mg E b α H M (sumE _ M) _ := p
      unfold sumE at p
      split at p
      · rename_i bs hx
        rw [Option.bind_eq_some_iff] at hx
        obtain ⟨xs, h1, h2⟩ := hx
        obtain ⟨a, ws, rfl, hv, q⟩ := rv_look s rx h1
        exact ⟨a, bs, rfl, by rw [← ints_of q h2]; exact .of hv, p.ok s _ (.int _)⟩
      · exact p.elim
theorem ap_min2 (hc : X.calm = true) : CallR X (.builtin "min") (Ap X.K mg E .min2) := callR_imp (call_min2 hc) fun vs H Q h => by
  obtain ⟨ω, α, b, M, ds, s, hb, r, p⟩ := h
  cases r with
  | nil => exact p.elim
  | cons rx t =>
    cases t with
    | nil => exact p.elim
    | cons ry t =>
      cases t with
      | cons _ _ => exact p.elim
      | nil =>
        replace p : Post X.K ω mg E b α H M (intOp (fun i j => .int (if j < i then j else i)) _ _ M) _ := p
        unfold intOp at p
        split at p
        · exact ⟨_, _, by rw [rv_int rx, rv_int ry], p.ok s _ (.int _)⟩
        · exact p.elim
theorem ap_max2 (hc : X.calm = true) : CallR X (.builtin "max") (Ap X.K mg E .max2) := callR_imp (call_max2 hc) fun vs H Q h => by
  obtain ⟨ω, α, b, M, ds, s, hb, r, p⟩ := h
  cases r with
  | nil => exact p.elim
  | cons rx t =>
    cases t with
    | nil => exact p.elim
    | cons ry t =>
      cases t with
      | cons _ _ => exact p.elim
      | nil =>
        replace p : Post X.K ω mg E b α H M (intOp (fun i j => .int (if j > i then j else i)) _ _ M) _ := p
        unfold intOp at p
        split at p
        · exact ⟨_, _, by rw [rv_int rx, rv_int ry], p.ok s _ (.int _)⟩
        · exact p.elim
theorem rvs_signs {ω α : List Addr} {H : Hp} {K : PySem.W.Frag} (z : Str) : RVs K ω α H (z.cps.toList.map fun c => V.str (sgn1 c)) (signs z) := by
  unfold signs
  generalize z.cps.toList = l
  induction l with
  | nil => exact .nil
  | cons c l ih => exact .cons (.str _) ih
/-- list(s) of a text -/
theorem call_list_txt (hc : X.calm = true) : CallR X (.type "list") (fun vs H Q => ∃ z, vs = [.str z] ∧ z.length ≤ sizeLine ∧ ∀ p, H p = none → Q (.ref p) (upd H p (.lst (z.cps.toList.map fun c => V.str (sgn1 c))))) := by
  intro pins s σ H xs us Q I r h
  obtain ⟨z, rfl, hl, q⟩ := h
  obtain ⟨u, rfl, rx⟩ := vals1 r
  obtain ⟨t, rfl⟩ := rx
  refine call_list_str (I.ok.hd hc) z t (fun h' tk acc c hk hn ⟨hs, hi⟩ => ?_) hl
  have ep := I.hok.fresh (Nat.le_refl s.heap.objs.size)
  refine ⟨.ref s.heap.objs.size, _, I.laid (t' := tk) (o := .lst (z.cps.toList.map fun c => V.str (sgn1 c))) (fun b ob q => hk b ob q) (Nat.le_refl _) ?_, rfl, q _ ep⟩
  refine ⟨by rw [List.length_map, Array.length_toList]; exact hl, acc.toList, c, ?_, by rw [Array.toArray_toList]; exact hn⟩
  have key : ∀ (l : List Nat) (vs : List Value), vs.length = l.length → (∀ (j : Nat) (v : Value), vs[j]? = some v → ∃ (c : Nat) (u : Tok), l[j]? = some c ∧ v = Value.str (Str.mk #[c]) u) → Vals (l.map fun c => V.str (sgn1 c)) vs := by
    intro l
    induction l with
    | nil => intro vs hv _; rw [List.length_eq_zero_iff.mp hv]; exact .nil
    | cons c l ih =>
      intro vs hv h
      match vs, hv with
      | v :: vs, hv =>
        obtain ⟨c', u, e1, e2⟩ := h 0 v rfl
        cases e1
        exact .cons ⟨u, e2⟩ (ih vs (by simpa using hv) fun j v' hj => h (j + 1) v' (by simpa using hj))
  refine key _ _ (by rw [Array.length_toList, Array.length_toList, hs]) fun j v hj => ?_
  obtain ⟨c, u, e1, e2⟩ := hi j v (by simpa using hj)
  exact ⟨c, u, by simpa using e1, e2⟩
theorem ap_list1 (hc : X.calm = true) {m : Bool} : CallR X (.type "list") (Ap X.K mg E (.list1 m)) := callR_imp (CallR.or call_list_of (call_list_txt hc)) fun vs H Q h => by
  obtain ⟨ω, α, b, M, ds, s, hb, r, p⟩ := h
  cases r with
  | nil => exact p.elim
  | cons rx t =>
    cases t with
    | cons _ _ => exact p.elim
    | nil =>
      replace p : Post X.K ω mg E b α H M (list1E m _ M) _ := p
      unfold list1E at p
      split at p
      · rename_i z
        obtain ⟨hl, q⟩ := new_mk s hb (rvs_signs z) p
        rw [List.length_map, Array.length_toList] at hl
        exact .inr ⟨z, by rw [rv_str rx], hl, q⟩
      unfold list1O at p
      split at p
      · rename_i xs hx
        obtain ⟨a, ws, rfl, hv, q⟩ := rv_items s rx hx
        exact .inl ⟨a, ws, rfl, hv, (new_mk s hb q p).2⟩
      · exact p.elim
theorem ap_tuple1 : CallR X (.type "tuple") (Ap X.K mg E .tuple1) := callR_imp call_tuple_of fun vs H Q h => by
  obtain ⟨ω, α, b, M, ds, s, hb, r, p⟩ := h
  cases r with
  | nil => exact p.elim
  | cons rx t =>
    cases t with
    | cons _ _ => exact p.elim
    | nil =>
      replace p : Post X.K ω mg E b α H M (tuple1E _ M) _ := p
      unfold tuple1E at p
      split at p
      · rename_i d _ xs hx
        cases d with
        | tup es =>
          cases hx
          cases rx with
          | tup hv q => exact ⟨_, _, rfl, .inr ⟨hv.imp (·.1) id, p.ok s _ (.tup hv q)⟩⟩
        | lst es =>
          cases hx
          cases rx with
          | lst hv n w q => exact ⟨_, _, rfl, .inl ⟨.of hv, fun l hl => new_tup s q hl p⟩⟩
        | fix es =>
          cases hx
          cases rx with
          | fix hv q => exact ⟨_, _, rfl, .inl ⟨hv.imp (·.1.1) id, fun l hl => new_tup s q hl p⟩⟩
        | ref n =>
          obtain ⟨a, ws, rfl, hv, q⟩ := rv_look s rx hx
          exact ⟨a, _, rfl, .inl ⟨.of hv, fun l hl => new_tup s q hl p⟩⟩
        | _ => cases hx
      · exact p.elim
/-! ### texts -/
theorem ap_str1 : CallR X (.type "str") (Ap X.K mg E .str1) := callR_imp call_str_int fun vs H Q h => by
  obtain ⟨ω, α, b, M, ds, s, hb, r, p⟩ := h
  cases r with
  | nil => exact p.elim
  | cons rx t =>
    cases t with
    | cons _ _ => exact p.elim
    | nil =>
      replace p : Post X.K ω mg E b α H M (str1E _ M) _ := p
      unfold str1E at p
      split at p
      · obtain ⟨hl, p⟩ := post_if p
        exact ⟨_, by rw [rv_int rx], hl, p.ok s _ (.str _)⟩
      · exact p.elim
theorem strs_of {K : PySem.W.Frag} {ω α : List Addr} {H : Hp} : ∀ {vs : List V} {ds : List D} {bs : List Str}, RVs K ω α H vs ds → strsOf ds = some bs → vs = bs.map V.str
  | _, _, _, .nil, e => by cases e; rfl
  | _, _, _, .cons h r, e => by
    cases h with
    | str c =>
      simp only [strsOf, Option.map_eq_some_iff] at e
      obtain ⟨bs, e, rfl⟩ := e
      rw [strs_of r e]; rfl
    | _ => cases e
theorem rvs_two {K : PySem.W.Frag} {ω α : List Addr} {H : Hp} {x : V} {ys : List V} {ds : List D} {f : D → D → Mem → Res D} {M : Mem} {R : D → Mem → List Addr → Hp → Prop} {b : Nat} (r : RVs K ω α H (x :: ys) ds) (p : Post K ω mg E b α H M (ap2 f ds M) R) :
    ∃ y d e, ys = [y] ∧ ds = [d, e] ∧ RV K ω α H x d ∧ RV K ω α H y e ∧ Post K ω mg E b α H M (f d e M) R := by
  cases r with
  | cons rx t =>
    cases t with
    | nil => exact p.elim
    | cons ry t =>
      cases t with
      | cons _ _ => exact p.elim
      | nil => exact ⟨_, _, _, rfl, rfl, rx, ry, p⟩
theorem ap_join : MtR X "str.join" (fun x ys => Ap X.K mg E .join (x :: ys)) := mtR_imp mt_join fun x ys H Q h => by
  obtain ⟨ω, α, b, M, ds, s, hb, r, p⟩ := h
  obtain ⟨y, d, e, rfl, rfl, rx, ry, p'⟩ := rvs_two (f := joinE) r p
  clear p r
  have p := p'
  clear p'
  unfold joinE at p
  split at p
  · rename_i a zs hz
    obtain ⟨hl, p⟩ := post_if p
    rw [Option.bind_eq_some_iff] at hz
    obtain ⟨xs, h1, h2⟩ := hz
    obtain ⟨q, ws, rfl, hv, qs⟩ := rv_items s ry h1
    rw [strs_of qs h2] at hv
    exact ⟨a, q, zs, rv_str rx, rfl, hv, hl, p.ok s _ (.str _)⟩
  · exact p.elim
theorem ap_rfind : MtR X "str.rfind" (fun x ys => Ap X.K mg E .rfind (x :: ys)) := mtR_imp mt_rfind fun x ys H Q h => by
  obtain ⟨ω, α, b, M, ds, s, hb, r, p⟩ := h
  obtain ⟨y, d, e, rfl, rfl, rx, ry, p'⟩ := rvs_two (f := rfindE) r p
  clear p r
  have p := p'
  clear p'
  unfold rfindE at p
  split at p
  · exact ⟨_, _, rv_str rx, by rw [rv_str ry], p.ok s _ (.int _)⟩
  · exact p.elim
theorem ap_part3 : MtR X "str.partition" (fun x ys => Ap X.K mg E .part3 (x :: ys)) := mtR_imp mt_partition fun x ys H Q h => by
  obtain ⟨ω, α, b, M, ds, s, hb, r, p⟩ := h
  obtain ⟨y, d, e, rfl, rfl, rx, ry, p'⟩ := rvs_two (f := part3E) r p
  clear p r
  have p := p'
  clear p'
  unfold part3E at p
  split at p
  · obtain ⟨⟨h1, h2⟩, p⟩ := post_if p
    exact ⟨_, _, rv_str rx, by rw [rv_str ry], h1, h2, fun p' hp' => new_tup s (.cons (RV.str _) (.cons (RV.str _) (.cons (RV.str _) .nil))) hp' p⟩
  · exact p.elim
theorem mtS_imp {id : String} {r r' : L2.St → V → List V → Hp → VK → Prop} (h : MtS X id r) (i : ∀ σ x y H Q, r' σ x y H Q → r σ x y H Q) : MtS X id r' :=
  fun pins s σ H x xs v us Q I rx ry q => h pins s σ H x xs v us Q I rx ry (i _ _ _ _ _ q)
theorem ap_index1 (hc : X.calm = true) : MtS X "str.index" (fun _ x ys => Ap X.K mg E .index1 (x :: ys)) := mtS_imp (mt_indexX hc takes0) fun σ x ys H Q h => by
  obtain ⟨ω, α, b, M, ds, s, hb, r, p⟩ := h
  obtain ⟨y, d, e, rfl, rfl, rx, ry, p'⟩ := rvs_two (f := index1E) r p
  clear p r
  have p := p'
  clear p'
  unfold index1E at p
  split at p
  · split at p
    · rename_i k hk
      refine ⟨_, _, rv_str rx, by rw [rv_str ry], fun k' hk' => ?_, fun hn => ?_⟩
      · rw [hk] at hk'; cases hk'
        exact p.ok s _ (.int _)
      · rw [hk] at hn; cases hn
    · exact p.elim
  · exact p.elim
/-! ### isinstance -/
def Ty.name : Ty → String
  | .int => "int" | .bool => "bool" | .tuple => "tuple" | .list => "list" | .str => "str"
theorem kit_all : ∀ (t : Ty), kitB "int" t.name = some (decide (t = .int)) ∧ kitB "bool" t.name = some (decide (t = .bool ∨ t = .int)) ∧ kitB "str" t.name = some (decide (t = .str)) ∧ kitB "tuple" t.name = some (decide (t = .tuple)) ∧
    kitB "list" t.name = some (decide (t = .list)) ∧ kitB "NoneType" t.name = some false := by
  intro t
  cases t <;> decide +kernel
theorem ap_isi {t : Ty} : CallR X (.builtin "isinstance") (fun vs H Q => ∃ x, vs = [x, .ty t.name] ∧ Ap X.K mg E (.isi t) [x] H Q) := callR_imp call_isi fun vs H Q h => by
  obtain ⟨x, rfl, ω, α, b, M, ds, s, hb, r, p⟩ := h
  obtain ⟨d, rfl, rx⟩ := r.one
  replace p : Post X.K ω mg E b α H M (okB (isiE M t d) M) _ := p
  obtain ⟨k1, k2, k3, k4, k5, k6⟩ := kit_all t
  have fin : ∀ {T : String} {c : Bool}, TyX X.K H x (.type T) → kitB T t.name = some c → isiE M t d = some c → rIsi X.K [x, .ty t.name] H Q := fun {T c} ty k e => by
    rw [e] at p
    exact ⟨x, _, _, _, c, rfl, .ty _, ty, kit_ty k, p.ok s _ (.bl _)⟩
  cases rx with
  | non => exact fin (.base .non) k6 rfl
  | bl _ => exact fin (.base (.bl _)) k2 rfl
  | int _ => exact fin (.base (.int _)) k1 rfl
  | str _ => exact fin (.base (.str _)) k3 rfl
  | tup h q =>
    rcases h with ⟨h | ⟨o, h⟩, _⟩ | ⟨o, its, n, h, hc, _⟩
    · exact fin (.base (.tup h)) k4 rfl
    · exact fin (.fTuple h) k4 rfl
    · exact fin (.kTuple h hc) k4 rfl
  | lst h n w q => exact fin (.base (.lst h)) k5 rfl
  | fix h q => exact p.elim
  | @ref a n h =>
    cases hm : M[n]? with
    | none =>
      have := (List.getElem?_eq_some_iff.mp h).1
      rw [s.len] at this
      rw [List.getElem?_eq_none_iff] at hm
      omega
    | some c =>
      cases c with
      | lst es =>
        obtain ⟨xs, e1, q⟩ := s.cell n a _ h hm
        exact fin (.base (.lst e1)) k5 (by simp only [isiE, hm])
      | dct es => simp only [isiE, hm] at p; exact p.elim
/-! ### changes -/
theorem putC_ok {A : Type} {K : PySem.W.Frag} {mg : Str → Option Value} {E : XK} {ω α : List Addr} {H : Hp} {b n : Nat} {M : Mem} {a : Addr} {ys : List V} {ds es ws : List D} {x : A} {R : A → Mem → List Addr → Hp → Prop} (s : Sim K ω α H M)
    (ha : α[n]? = some a) (hm : M[n]? = some (.lst ds)) (r : RVs K ω α H ys es) (hz : ∀ k, belows k ds = true → belows k ws = true → belows k es = true)
    (p : Post K ω mg E b α H M (putC b n ws es M x) R) : es.length ≤ sizeLine ∧ Stp α H α (upd H a (.lst ys)) ∧ R x (M.set n (.lst es)) α (upd H a (.lst ys)) := by
  unfold putC at p
  by_cases h : (decide (n < b) && !pures ws) = true
  · rw [if_pos h] at p; exact p.elim
  · rw [if_neg h] at p
    obtain ⟨hl, p⟩ := post_if p
    obtain ⟨s', st⟩ := s.write ha r
    exact ⟨hl, st, p _ _ st s' (Pres.write hm h hz)⟩
theorem belows_drop (k n : Nat) : ∀ (n : Nat) (ds : List D), belows k ds = true → belows k (ds.take n) = true ∧ belows k (ds.drop n) = true ∧ belows k (ds.eraseIdx n) = true
  | 0, ds, h => ⟨rfl, h, by cases ds with | nil => rfl | cons x r => simp only [belows, Bool.and_eq_true] at h; exact h.2⟩
  | n + 1, [], h => ⟨rfl, rfl, rfl⟩
  | n + 1, x :: r, h => by
    simp only [belows, Bool.and_eq_true] at h
    obtain ⟨h1, h2, h3⟩ := belows_drop k n n r h.2
    exact ⟨by simp only [List.take_succ_cons, belows, Bool.and_eq_true]; exact ⟨h.1, h1⟩, by simpa using h2, by simp only [List.eraseIdx_cons_succ, belows, Bool.and_eq_true]; exact ⟨h.1, h3⟩⟩
theorem belows_rev (k : Nat) : ∀ (ds : List D), belows k ds = true → belows k ds.reverse = true
  | [], _ => rfl
  | x :: r, h => by
    simp only [belows, Bool.and_eq_true] at h
    rw [List.reverse_cons, belows_append, belows_rev k r h.2]
    simp [belows, h.1]
theorem belows_set (k : Nat) (v : D) : ∀ (n : Nat) (ds : List D), belows k ds = true → v.bel k = true → belows k (ds.set n v) = true
  | _, [], _, _ => rfl
  | 0, x :: r, h, hv => by simp only [belows, Bool.and_eq_true] at h; simp only [List.set_cons_zero, belows, Bool.and_eq_true]; exact ⟨hv, h.2⟩
  | n + 1, x :: r, h, hv => by
    simp only [belows, Bool.and_eq_true] at h
    simp only [List.set_cons_succ, belows, Bool.and_eq_true]
    exact ⟨h.1, belows_set k v n r h.2 hv⟩
theorem ap_append : MtR X "list.append" (fun x ys => Ap X.K mg E .append (x :: ys)) := mtR_imp mt_append fun x ys H Q h => by
  obtain ⟨ω, α, b, M, ds, s, hb, r, p⟩ := h
  cases r with
  | cons rx t =>
    cases t with
    | nil => exact p.elim
    | cons ry t =>
      cases t with
      | cons _ _ => exact p.elim
      | nil =>
        replace p : Post X.K ω mg E b α H M (appendE b _ _ M) _ := p
        unfold appendE at p
        split at p
        · rename_i n xs hx
          obtain ⟨a, ws, rfl, rfl, ha, hm, hH, q⟩ := rv_cell s rx hx
          obtain ⟨hl, st, p⟩ := putC_ok s ha hm (q.append (.cons ry .nil)) (fun k h1 h2 => by rw [belows_append, h1, h2]; rfl) p
          refine ⟨a, ws, _, rfl, rfl, hH, ?_, p _ .non⟩
          rw [List.length_append] at hl
          rw [q.length]
          exact hl
        · exact p.elim
theorem ap_extend : MtR X "list.extend" (fun x ys => Ap X.K mg E .extend (x :: ys)) := mtR_imp mt_extend fun x ys H Q h => by
  obtain ⟨ω, α, b, M, ds, s, hb, r, p⟩ := h
  cases r with
  | cons rx t =>
    cases t with
    | nil => exact p.elim
    | cons ry t =>
      cases t with
      | cons _ _ => exact p.elim
      | nil =>
        replace p : Post X.K ω mg E b α H M (extendE b _ _ M) _ := p
        unfold extendE at p
        split at p
        · rename_i n xs vs hx hy
          obtain ⟨a, ws, rfl, rfl, ha, hm, hH, q⟩ := rv_cell s rx hx
          obtain ⟨a2, us, rfl, h2, q2⟩ := rv_look s ry hy
          obtain ⟨hl, st, p⟩ := putC_ok s ha hm (q.append q2) (fun k h1 h2 => by rw [belows_append, h1, h2]; rfl) p
          refine ⟨a, a2, ws, us, rfl, rfl, hH, h2, ?_, p _ .non⟩
          rw [List.length_append] at hl
          rw [q.length, q2.length]
          exact hl
        · exact p.elim
theorem ap_pop0 : MtR X "list.pop" (fun x ys H Q => ys = [] ∧ Ap X.K mg E .pop0 (x :: ys) H Q) := mtR_imp mt_pop fun x ys H Q h => by
  obtain ⟨rfl, ω, α, b, M, ds, s, hb, r, p⟩ := h
  obtain ⟨d, rfl, rx⟩ := r.one
  replace p : Post X.K ω mg E b α H M (pop0E b _ M) _ := p
  unfold pop0E at p
  split at p
  · rename_i n xs hx
    split at p
    · rename_i y hy
      obtain ⟨a, ws, rfl, rfl, ha, hm, hH, q⟩ := rv_cell s rx hx
      obtain ⟨hl, st, p⟩ := putC_ok s ha hm q.dropLast (fun k h1 h2 => by rw [List.dropLast_eq_take]; exact (belows_drop k 0 _ _ h1).1) p
      obtain ⟨v, ev, rv⟩ := q.get hy
      exact ⟨a, ws, v, rfl, rfl, hH, by rw [q.length]; exact ev, p _ (rv.step st)⟩
    · exact p.elim
  · exact p.elim
theorem ap_pop1 : MtR X "list.pop" (fun x ys => Ap X.K mg E .pop1 (x :: ys)) := mtR_imp mt_popAt fun x ys H Q h => by
  obtain ⟨ω, α, b, M, ds, s, hb, r, p⟩ := h
  cases r with
  | cons rx t =>
    cases t with
    | nil => exact p.elim
    | cons ry t =>
      cases t with
      | cons _ _ => exact p.elim
      | nil =>
        replace p : Post X.K ω mg E b α H M (pop1E b _ _ M) _ := p
        unfold pop1E at p
        split at p
        · rename_i n xs i hx
          split at p
          · rename_i k hk
            split at p
            · rename_i y hy
              obtain ⟨hs, p⟩ := post_if p
              obtain ⟨a, ws, rfl, rfl, ha, hm, hH, q⟩ := rv_cell s rx hx
              obtain ⟨hl, st, p⟩ := putC_ok s ha hm (q.erase k) (fun k' h1 h2 => (belows_drop k' 0 _ _ h1).2.2) p
              obtain ⟨v, ev, rv⟩ := q.get hy
              have hs := of_decide_eq_true hs
              exact ⟨a, ws, i, k, v, rfl, by rw [rv_int ry], hH, by omega, by omega, by rw [q.length]; exact hk, ev, p _ (rv.step st)⟩
            · exact p.elim
          · exact p.elim
        · exact p.elim
theorem ap_reverse : MtR X "list.reverse" (fun x ys H Q => ys = [] ∧ Ap X.K mg E .reverse (x :: ys) H Q) := mtR_imp mt_reverse fun x ys H Q h => by
  obtain ⟨rfl, ω, α, b, M, ds, s, hb, r, p⟩ := h
  obtain ⟨d, rfl, rx⟩ := r.one
  replace p : Post X.K ω mg E b α H M (reverseE b _ M) _ := p
  unfold reverseE at p
  split at p
  · rename_i n xs hx
    obtain ⟨a, ws, rfl, rfl, ha, hm, hH, q⟩ := rv_cell s rx hx
    obtain ⟨hl, st, p⟩ := putC_ok s ha hm q.reverse (fun k h1 h2 => belows_rev k _ h1) p
    exact ⟨a, ws, rfl, rfl, hH, p _ .non⟩
  · exact p.elim
/-- o[i] = v -/
def ApSet (K : PySem.W.Frag) (mg : Str → Option Value) (E : XK) (o i v : V) (H : Hp) (Q : Hp → Prop) : Prop := ∃ ω α b M d e f, Sim K ω α H M ∧ b ≤ M.length ∧ RV K ω α H o d ∧ RV K ω α H i e ∧ RV K ω α H v f ∧ Post K ω mg E b α H M (setE b d e f M) (fun _ _ _ H' => Q H')
theorem PSet.or {t t' : TSet} (h : PSet X t) (h' : PSet X t') : PSet X (fun o i v H Q => t o i v H Q ∨ t' o i v H Q) := by
  intro pins s σ H o i v ov iv u Q I ro ri rv q
  rcases q with q | q
  · exact h pins s σ H o i v ov iv u Q I ro ri rv q
  · exact h' pins s σ H o i v ov iv u Q I ro ri rv q
theorem ap_set (hu : X.A.units + 1 < cLine) : PSet X (ApSet X.K mg E) := by
  intro pins s σ H o i v ov iv u Q I ro ri rv h
  refine PSet.or set_list (set_dct hu) pins s σ H o i v ov iv u Q I ro ri rv ?_
  obtain ⟨ω, α, b, M, d, e, f, s, hb, rd, re, rf, p⟩ := h
  unfold setE at p
  split at p
  · rename_i n k
    split at p
    · rename_i xs hm
      split at p
      · rename_i j hj
        obtain ⟨a, ws, rfl, _, ha, hm', hH, q⟩ := rv_cell (n := n) (ds := xs) s rd (by simp only [cellOf, hm])
        obtain ⟨hl, st, p⟩ := putC_ok s ha hm (q.set rf j) (fun k h1 h2 => belows_set k _ j _ h1 (by simpa [belows] using h2)) p
        exact .inl ⟨a, ws, k, j, rfl, rv_int re, hH, by rw [q.length]; exact hj, p⟩
      · exact p.elim
    · exact p.elim
  · split at p
    · rename_i q k hq hk
      obtain ⟨⟨hp, hl⟩, p⟩ := post_if p
      obtain ⟨a, xs, rfl, rfl, ha, hm, hH, rx'⟩ := rv_dct s rd hq
      obtain ⟨b', rfl, rfl, hb'⟩ := rv_key re hk
      obtain ⟨s', st⟩ := s.writed ha (rx'.put re rf)
      exact .inr ⟨a, b', xs, k, rfl, rfl, rx'.at hH, hb', by rw [rx'.len]; exact hl, p _ _ st s' (Pres.writed hm hp)⟩
    · exact p.elim
end

end CP3
section CP3b
variable [TB : Tbs]

/-! ## More operations: o[::-1], insert, max, min of a list, len(set(..)) -/
section
variable {prog : Program} {w : World} {A : Around} {E : Value → Shared → Prop} {s : Shared}
theorem sliceApplied_rev {sl : Addr} {vk : Value} (hs : s.heap.IsSliceOf sl .none .none vk) (pk : IsPart vk (some (-1))) (n : Nat) {Q : Int × Int × Nat → Shared → Prop}
    (h : Q (((n : Int) - 1), -1, n) s) : wpAny (model prog w) A (Builtin.Slice.sliceApplied (.ref sl) (pure (n : Int))) Q E s := by
  obtain ⟨os, hos, hcs, hds⟩ := id hs
  unfold Builtin.Slice.sliceApplied Builtin.Slice.sliceFields
  refine wpAny_bind (wpAny_bind (wpAny_field hos hds (x := .none) rfl (wpAny_bind (wpAny_field hos hds (x := .none) rfl (wpAny_bind (wpAny_field hos hds (x := vk) rfl (wpAny_pure ?_)))))))
  refine wpAny_bind (HT.slicePart_ pk ?_)
  show wpAny _ _ (if ((-1 : Int) == 0) = true then _ else _) _ _ s
  rw [if_neg (by decide)]
  refine wpAny_bind (PyProof.Rows.slicePart_none (wpAny_bind (PyProof.Rows.slicePart_none (wpAny_bind (wpAny_pure ?_)))))
  have e1 : Builtin.Slice.sliceAdjust none none (-1) (n : Int) = ((n : Int) - 1, -1) := rfl
  have e2 : Builtin.Slice.slicePlaces ((n : Int) - 1) (-1) (-1) = n := by
    unfold Builtin.Slice.slicePlaces
    rw [if_neg (by decide)]
    split
    · rw [show (- -1 : Int) = 1 by decide, Int.ediv_one]; omega
    · simp; omega
  show wpAny _ _ (match Builtin.Slice.sliceAdjust none none (-1) (n : Int) with | (lo, hi) => pure (lo, (-1 : Int), Builtin.Slice.slicePlaces lo hi (-1))) _ _ s
  rw [e1]
  show wpAny _ _ (pure (((n : Int) - 1), (-1 : Int), Builtin.Slice.slicePlaces ((n : Int) - 1) (-1) (-1))) _ _ s
  rw [e2]
  exact wpAny_pure h
theorem pick_rev (xs : Array Value) : ((List.range xs.size).filterMap fun (m : Nat) => xs[(((xs.size : Int) - 1) + (m : Int) * -1).toNat]?).toArray = xs.toList.reverse.toArray := by
  have e : (List.range xs.size).filterMap (fun (m : Nat) => xs[(((xs.size : Int) - 1) + (m : Int) * -1).toNat]?) = ((List.range xs.size).map fun k => xs.size - 1 - k).filterMap (xs[·]?) := by
    rw [List.filterMap_map]
    have key : ∀ (l : List Nat), (∀ m ∈ l, m < xs.size) → l.filterMap (fun (m : Nat) => xs[(((xs.size : Int) - 1) + (m : Int) * -1).toNat]?) = l.filterMap ((xs[·]?) ∘ fun k => xs.size - 1 - k) := by
      intro l
      induction l with
      | nil => intro _; rfl
      | cons m l ih =>
        intro h
        have hm := h m List.mem_cons_self
        have e : (((xs.size : Int) - 1) + (m : Int) * -1).toNat = xs.size - 1 - m := by omega
        rw [List.filterMap_cons, List.filterMap_cons, ih fun k hk => h k (List.mem_cons_of_mem _ hk), e]
        rfl
    exact key _ fun m hm => List.mem_range.mp hm
  rw [e, PySem.W.krv_range, List.filterMap_reverse, PySem.W.krv_all]
theorem getItem_tuple_rev {t sl : Addr} {items : Array Value} {vk : Value} {Q : Value → Shared → Prop} (ht : PyProof.Rows.IsTup s.heap t items) (hs : s.heap.IsSliceOf sl .none .none vk) (pk : IsPart vk (some (-1)))
    (h : Q (.ref s.heap.objs.size) { s with heap := s.heap.push { cls := .type "tuple", data := .seq items.toList.reverse.toArray } })
    (hsz : items.size ≤ sizeLine) : wpAny (model prog w) A (getItem (.ref t) (.ref sl)) Q E s := by
  have htake : sizeOk (.seq items.toList.reverse.toArray) := by
    show items.toList.reverse.toArray.size ≤ sizeLine
    rw [List.size_toArray, List.length_reverse, Array.length_toList]
    exact hsz
  obtain ⟨os, hos, hcs, hds⟩ := id hs
  have hTs : s.TypeIs (.ref sl) "slice" := ⟨os, hos, hcs⟩
  unfold getItem
  try with_reducible refine wpAny_holding ?_
  first | refine wpAny_bind (wpAny_pure ?_) | skip
  refine wpAny_bind (wpAny_sequenceKey ht.typeIs (by decide) ?_)
  refine wpAny_bind (wpAny_callSpecial?_slot (name := Str.ofString "__getitem__") ht.typeIs PyProof.Rows.slot_tuple_getitem
    (wpAny_call_entry PyProof.Rows.slot_tuple_getitem ht.typeIs PyProof.Rows.entry_tuple_getitem ?_ (PyProof.Rows.args_tuple_getitem _ _)))
  show wpAny _ _ (Builtin.Tuple.tupleItemsOf (.ref t) >>= _) _ _ s
  refine wpAny_bind (PyProof.Rows.tupleItemsOf_ ht ?_)
  refine wpAny_bind (wpAny_typeOf hTs ?_)
  rw [if_pos (by decide)]
  refine wpAny_bind (sliceApplied_rev hs pk items.size ?_)
  have hno : ¬ ((((items.size : Int) - 1) == 0 && (-1 : Int) == 1 && items.size == items.size) = true) := by
    intro q
    rw [Bool.and_eq_true, Bool.and_eq_true] at q
    exact absurd q.1.2 (by decide)
  show wpAny _ _ (if (((items.size : Int) - 1) == 0 && (-1 : Int) == 1 && items.size == items.size) = true then _ else _) _ _ s
  rw [if_neg hno, pick_rev]
  first
    | exact wpAny_bind (m := Builtin.Tuple.tupleExact _) (wpAny_newObj_type (wpAny_pure ⟨_, rfl, wpAny_pure h⟩) htake)
    | exact wpAny_bind (m := Builtin.Tuple.tupleExact _) (wpAny_newObj_type (wpAny_bind (wpAny_pure (wpAny_pure ⟨_, rfl, wpAny_pure h⟩))) htake)
    | exact wpAny_bind (wpAny_bind (m := Builtin.Tuple.tupleExact _) (wpAny_newObj_type (wpAny_pure (wpAny_pure ⟨_, rfl, wpAny_pure h⟩)) htake))
    | exact wpAny_bind (wpAny_bind (m := Builtin.Tuple.tupleExact _) (wpAny_newObj_type (wpAny_pure ⟨_, rfl, wpAny_pure h⟩) htake))
end
theorem sliceMade_rev (z : Str) (tz t : Tok) : sliceMade z tz none none (some (-1, t)) = .str ⟨z.cps.toList.reverse.toArray⟩ := by
  have e : slicePicked z none none (some (-1, t)) = (List.range z.cps.size).reverse := by
    unfold slicePicked Builtin.Str.strSliceIndices
    show sliceRange ((z.cps.size : Int) - 1) (-1) (-1) = _
    rw [PySem.W.krv_sliceRange, PySem.W.krv_range]
  unfold sliceMade
  rw [if_neg (by simp), e]
  congr 2
  have all : ∀ xs : Array Nat, (List.range xs.size).reverse.filterMap (xs[·]?) = xs.toList.reverse := fun xs => by
    rw [List.filterMap_reverse]
    congr 1
    apply List.ext_getElem?
    intro i
    have : ∀ (l : List Nat), (∀ m ∈ l, m < xs.size) → l.filterMap (xs[·]?) = l.map (fun m => xs.getD m 0) := by
      intro l
      induction l with
      | nil => intro _; rfl
      | cons m l ih =>
        intro h
        have hm := h m List.mem_cons_self
        rw [List.filterMap_cons, ih fun k hk => h k (List.mem_cons_of_mem _ hk), List.map_cons]
        simp [hm]
    rw [this _ fun m hm => List.mem_range.mp hm, List.getElem?_map]
    by_cases h : i < xs.size
    · rw [List.getElem?_range h]
      simp [h]
    · rw [List.getElem?_eq_none (by simpa using h), List.getElem?_eq_none (by simpa using h)]
      rfl
  rw [all]
/-- o[::-1] of a list or a tuple -/
def tRev (K : PySem.W.Frag) (te : TE) : TE := fun σ H Q => te σ H fun x H1 => (∃ z, x = .str z ∧ z.length ≤ sizeLine ∧ Q (.str ⟨z.cps.toList.reverse.toArray⟩) H1) ∨ ∃ a xs, x = .ref a ∧ ((SqL K H1 a xs ∧ ∀ p, H1 p = none → Q (.ref p) (upd H1 p (.lst xs.reverse))) ∨ (SqT K H1 a xs ∧ ∀ p, H1 p = none → Q (.ref p) (upd H1 p (.tup xs.reverse))))
theorem Vals.rev {vs : List V} {us : List Value} (h : Vals vs us) : Vals vs.reverse us.reverse := by
  induction h with
  | nil => exact .nil
  | cons r _ ih => rw [List.reverse_cons, List.reverse_cons]; exact ih.append (.cons r .nil)
theorem pe_rev {X : Cx} {e : Expr} {te : TE} {j : Nat} {p1 p2 p3 pos : Pos} (he : PE X e te) : PE X (.Subscript e (.Slice none none (some (.UnaryOp .USub (.Constant (.int 1) j p1) p2)) p3) pos) (tRev X.K te) := by
  refine ⟨fun pins s σ H Q I h => ?_⟩
  refine Subscript_ (thn (he.run pins s σ H _ I h) fun v s1 ⟨x, H1, I1, r1, q1⟩ => ?_)
  refine wpAny_Slice ?_
  rw [evalPart_none]
  refine wpAny_pure (wpAny_pure ?_)
  rw [evalPart_some]
  refine thn ((pe_un (X := X) un_neg pe_int).run pins s1 σ H1 (fun v H2 => v = .int (-1) ∧ H2 = H1) I1 ⟨1, rfl, rfl, rfl⟩) fun vk s2 ⟨y, H2, I2, r2, q2⟩ => ?_
  obtain ⟨rfl, rfl⟩ := q2
  obtain ⟨t, rfl⟩ := r2
  have I4 : Inv X pins σ H2 { s2 with heap := s2.heap.push { cls := .type "slice", data := .fields #[.none, .none, .int (-1) t] } } := I2.kept (t' := s2.toks) fun b ob q => Heap.get?_push_of_some _ q
  rcases q1 with ⟨z, rfl, hz, q⟩ | q1
  · obtain ⟨tz, rfl⟩ := r1
    refine tail_any (ops := [.str z tz, .ref s2.heap.objs.size]) (typeIs_str _ _ _) PySem.F.slot_str_getitem.lookup ?_ (by with_unfolding_all rfl)
    refine wpAny_getItem_str_slice (l := none) (u := none) (st := some (-1, t)) (Heap.IsSliceOf.new s2.heap .none .none (.int (-1) t)) rfl ?_
    rw [sliceMade_rev z tz t]
    exact ⟨by show z.cps.toList.reverse.toArray.size ≤ sizeLine; rw [List.size_toArray, List.length_reverse, Array.length_toList]; exact hz, .str _, H2, I4.tok _, ⟨_, rfl⟩, q⟩
  obtain ⟨a, xs, rfl, q⟩ := q1
  cases r1
  have hs := Heap.IsSliceOf.new s2.heap .none .none (.int (-1) t)
  show wpAny (model X.prog X.w) X.A (subscriptTail e _ (.ref a) (.ref s2.heap.objs.size)) (EP X pins σ Q) X.xe { s2 with heap := s2.heap.push { cls := .type "slice", data := .fields #[.none, .none, .int (-1) t] } }
  rcases q with ⟨hq, q⟩ | ⟨hq, q⟩
  · obtain ⟨its, r, pl, hz⟩ := I4.list hq
    refine tail_any (ops := [.ref a, .ref s2.heap.objs.size]) pl.isList.typeIs slot_list_getitem.lookup ?_ (by with_unfolding_all rfl)
    refine wpAny_getItem_list_slice pl.isList hs .none .none (.int (-1) t) (by simp) ?_ (by rw [List.size_toArray, ← r.length]; exact hz)
    have e : slicePick its.toArray none none (some (-1)) = its.reverse.toArray := by
      unfold slicePick
      rw [PySem.W.krv_bounds]
      show ((sliceRange ((its.toArray.size : Int) - 1) (-1) (-1)).filterMap (its.toArray[·]?)).toArray = _
      rw [PySem.W.krv_sliceRange, PySem.W.krv_range, List.filterMap_reverse, PySem.W.krv_all]
    rw [e]
    refine ⟨.ref _, _, I4.laid (t' := s2.toks) (o := .lst xs.reverse) (fun b ob q => Heap.get?_push_of_some _ q) (Nat.le_refl _) ?_, rfl, q _ (I4.hok.fresh (Nat.le_refl _))⟩
    exact ⟨by rw [List.length_reverse]; exact hz, _, 0, Vals.rev r, Heap.get?_push_size _ rfl⟩
  · obtain ⟨its, r, ht, hz⟩ := I4.tuple hq
    refine tail_any (ops := [.ref a, .ref s2.heap.objs.size]) ht.typeIs PyProof.Rows.slot_tuple_getitem.lookup ?_ (by with_unfolding_all rfl)
    refine getItem_tuple_rev ht hs (.int (-1) t) ?_ (by rw [List.size_toArray, ← r.length]; exact hz)
    refine ⟨.ref _, _, I4.laid (t' := s2.toks) (o := .tup xs.reverse) (fun b ob q => Heap.get?_push_of_some _ q) (Nat.le_refl _) ?_, rfl, q _ (I4.hok.fresh (Nat.le_refl _))⟩
    exact ⟨by rw [List.length_reverse]; exact hz, _, Vals.rev r, IsTup.new _ _⟩
/-! values -/
theorem RVs.rev {K : PySem.W.Frag} {ω α : List Addr} {H : Hp} {vs : List V} {ds : List D} (r : RVs K ω α H vs ds) : RVs K ω α H vs.reverse ds.reverse := r.reverse
theorem rev_val {K : PySem.W.Frag} {mg : Str → Option Value} {E : XK} {m : Bool} {x : V} {H : Hp} {Q : VK} (h : Ap K mg E (.rev m) [x] H Q) :
    (∃ z, x = .str z ∧ z.length ≤ sizeLine ∧ Q (.str ⟨z.cps.toList.reverse.toArray⟩) H) ∨ ∃ a xs, x = .ref a ∧ ((SqL K H a xs ∧ ∀ p, H p = none → Q (.ref p) (upd H p (.lst xs.reverse))) ∨ (SqT K H a xs ∧ ∀ p, H p = none → Q (.ref p) (upd H p (.tup xs.reverse)))) := by
  obtain ⟨ω, α, b, M, ds, s, hb, r, p⟩ := h
  obtain ⟨d, rfl, rx⟩ := r.one
  replace p : Post K ω mg E b α H M (revE m d M) _ := p
  unfold revE at p
  split at p
  · cases rx with
    | tup hx qx => exact .inr ⟨_, _, rfl, .inr ⟨hx.imp (·.1) id, fun p' hp' => new_tup s qx.reverse hp' p⟩⟩
  · obtain ⟨hl, p⟩ := post_if p
    exact .inl ⟨_, rv_str rx, hl, p.ok s _ (.str _)⟩
  · split at p
    · rename_i xs hx
      obtain ⟨a, vs, rfl, ha, q⟩ := rv_look s rx hx
      exact .inr ⟨a, vs, rfl, .inl ⟨.of ha, (new_mk s hb q.reverse p).2⟩⟩
    · exact p.elim
section
variable {X : Cx} {mg : Str → Option Value} {E : XK}
theorem ap_insert : MtR X "list.insert" (fun x ys => Ap X.K mg E .insert (x :: ys)) := mtR_imp mt_insert fun x ys H Q h => by
  obtain ⟨ω, α, b, M, ds, s, hb, r, p⟩ := h
  cases r with
  | cons rx t =>
    cases t with
    | nil => exact p.elim
    | cons ry t =>
      cases t with
      | nil => exact p.elim
      | cons rz t =>
        cases t with
        | cons _ _ => exact p.elim
        | nil =>
          replace p : Post X.K ω mg E b α H M (insertE b _ _ _ M) _ := p
          unfold insertE at p
          split at p
          · rename_i n xs k hx
            obtain ⟨⟨h0, h1⟩, p⟩ := post_if p
            obtain ⟨a, ws, rfl, rfl, ha, hm, hH, q⟩ := rv_cell s rx hx
            obtain ⟨hl, st, p⟩ := putC_ok s ha hm (((q.take k.toNat).append (.cons rz .nil)).append (q.drop k.toNat)) (fun j h1 h2 => by
              rw [belows_append, belows_append, (belows_drop j 0 k.toNat _ h1).1, (belows_drop j 0 k.toNat _ h1).2.1, h2]; rfl) p
            have hlen := q.length
            rw [List.length_append, List.length_append, List.length_take, List.length_drop, List.length_singleton] at hl
            refine ⟨a, ws, _, _, rfl, by rw [rv_int ry], hH, ?_, h0, by omega, p _ .non⟩
            omega
          · exact p.elim
theorem maxL_spec : ∀ (r : List Int) (n : Int), maxL n r ∈ n :: r ∧ ∀ y, y ∈ n :: r → y ≤ maxL n r
  | [], n => ⟨List.mem_cons_self, fun y h => by simp at h; subst h; exact Int.le_refl _⟩
  | x :: r, n => by
    obtain ⟨h1, h2⟩ := maxL_spec r (if x > n then x else n)
    have e : maxL n (x :: r) = maxL (if x > n then x else n) r := rfl
    rw [e]
    refine ⟨?_, fun y hy => ?_⟩
    · rcases List.mem_cons.mp h1 with h | h
      · rw [h]; split <;> simp
      · exact List.mem_cons_of_mem _ (List.mem_cons_of_mem _ h)
    · have h0 := h2 _ List.mem_cons_self
      have g : n ≤ (if x > n then x else n) ∧ x ≤ (if x > n then x else n) := by split <;> omega
      rcases List.mem_cons.mp hy with rfl | hy
      · exact Int.le_trans g.1 h0
      · rcases List.mem_cons.mp hy with rfl | hy
        · exact Int.le_trans g.2 h0
        · exact h2 y (List.mem_cons_of_mem _ hy)
theorem minL_spec : ∀ (r : List Int) (n : Int), minL n r ∈ n :: r ∧ ∀ y, y ∈ n :: r → minL n r ≤ y
  | [], n => ⟨List.mem_cons_self, fun y h => by simp at h; subst h; exact Int.le_refl _⟩
  | x :: r, n => by
    obtain ⟨h1, h2⟩ := minL_spec r (if x < n then x else n)
    have e : minL n (x :: r) = minL (if x < n then x else n) r := rfl
    rw [e]
    refine ⟨?_, fun y hy => ?_⟩
    · rcases List.mem_cons.mp h1 with h | h
      · rw [h]; split <;> simp
      · exact List.mem_cons_of_mem _ (List.mem_cons_of_mem _ h)
    · have h0 := h2 _ List.mem_cons_self
      have g : (if x < n then x else n) ≤ n ∧ (if x < n then x else n) ≤ x := by split <;> omega
      rcases List.mem_cons.mp hy with rfl | hy
      · exact Int.le_trans h0 g.1
      · rcases List.mem_cons.mp hy with rfl | hy
        · exact Int.le_trans h0 g.2
        · exact h2 y (List.mem_cons_of_mem _ hy)
theorem ap_max1 (hc : X.calm = true) : CallR X (.builtin "max") (Ap X.K mg E .max1) := callR_imp (cr_max hc) fun vs H Q h => by
  obtain ⟨ω, α, b, M, ds, s, hb, r, p⟩ := h
  cases r with
  | nil => exact p.elim
  | cons rx t =>
    cases t with
    | cons _ _ => exact p.elim
    | nil =>
      replace p : Post X.K ω mg E b α H M (max1E _ M) _ := p
      unfold max1E at p
      split at p
      · rename_i n r hx
        rw [Option.bind_eq_some_iff] at hx
        obtain ⟨xs, h1, h2⟩ := hx
        obtain ⟨a, ws, rfl, hv, q⟩ := rv_look s rx h1
        refine ⟨a, n :: r, rfl, by rw [← ints_of q h2]; exact .of hv, by simp, fun m hm hle => ?_⟩
        obtain ⟨s1, s2⟩ := maxL_spec r n
        have : m = maxL n r := Int.le_antisymm (s2 m hm) (hle _ s1)
        rw [this]
        exact p.ok s _ (.int _)
      · exact p.elim
theorem ap_min1 (hc : X.calm = true) : CallR X (.builtin "min") (Ap X.K mg E .min1) := callR_imp (cr_min hc) fun vs H Q h => by
  obtain ⟨ω, α, b, M, ds, s, hb, r, p⟩ := h
  cases r with
  | nil => exact p.elim
  | cons rx t =>
    cases t with
    | cons _ _ => exact p.elim
    | nil =>
      replace p : Post X.K ω mg E b α H M (min1E _ M) _ := p
      unfold min1E at p
      split at p
      · rename_i n r hx
        rw [Option.bind_eq_some_iff] at hx
        obtain ⟨xs, h1, h2⟩ := hx
        obtain ⟨a, ws, rfl, hv, q⟩ := rv_look s rx h1
        refine ⟨a, n :: r, rfl, by rw [← ints_of q h2]; exact .of hv, by simp, fun m hm hle => ?_⟩
        obtain ⟨s1, s2⟩ := minL_spec r n
        have : m = minL n r := Int.le_antisymm (hle _ s1) (s2 m hm)
        rw [this]
        exact p.ok s _ (.int _)
      · exact p.elim
theorem firstMet_distinct (ns : List Int) : PyProof.Rows.firstMet (fun i => ns.getD i 0) ns.length = distinct ns := by
  unfold PyProof.Rows.firstMet distinct
  have e : (List.range ns.length).map (fun i => ns.getD i 0) = ns := by
    apply List.ext_getElem
    · simp
    · intro i h1 h2
      simp [List.getD_eq_getElem?_getD, List.getElem?_eq_getElem h2]
  rw [e]
  rfl
def tLenSetD (K : PySem.W.Frag) (ta : TE) : TE := fun σ H Q => ta σ H fun x H1 => ∃ (l : Addr) (ns : List Int), x = .ref l ∧ SqL K H1 l (ns.map V.int) ∧ ns.length ≤ 4000 ∧ Q (.int ((distinct ns).length : Nat)) H1
theorem pe_lenSetD {a : Expr} {ta : TE} {p p2 q pos : Pos} (hg : Gl X "len") (hm : X.mg "len" = none) (hg2 : Gl X "set") (hm2 : X.mg "set" = none) (ha : PE X a ta) (hc : X.calm = true)
    (na : starEach [a] X.env = (false, eval a X.env) :: starEach [] X.env) : PE X (.Call (.Name "len" p) [.Call (.Name "set" p2) [a] [] q] [] pos) (tLenSetD X.K ta) := by
  refine ⟨fun pins s σ H Q I h => ?_⟩
  refine Call_ (ld_blt I hg hm boot_len ?_)
  refine PyProof.Rows.callWith_builtin1 (PyProof.Rows.args_cons ?_ rfl) rfl rfl
  refine Call_ (ld_blt I hg2 hm2 boot_set ?_)
  refine PyProof.Rows.callWith_type1 (PyProof.Rows.args_cons (thn (ha.run pins s σ H _ I h) fun v s1 ⟨x, H1, I1, r1, q1⟩ => PyProof.Rows.args_nil ?_) na) na rfl
  obtain ⟨l, ns, rfl, hq, hl, q1⟩ := q1
  cases r1
  obtain ⟨its, r, pl, hz⟩ := I1.list hq
  have hlen : its.toArray.size = ns.length := by rw [List.size_toArray, ← r.length, List.length_map]
  refine call_set_list (I1.ok.hd hc) pl.isList (by simpa using RZ.intsAre_vals r) (by rw [hlen]; unfold scanBound; omega) fun h' tk hS hk => ?_
  refine PyProof.Rows.args_nil ?_
  rw [hlen, firstMet_distinct] at hS
  obtain ⟨o, es, ep, t, ho, hex, hd, _, _, _, hf, hn⟩ := hS
  have I2 : Inv X pins σ H1 { s1 with heap := h', toks := tk } := I1.kept fun b o e => hk b o (Heap.lt_size e) e
  have hle : (distinct ns).length ≤ ns.length := by
    rw [← firstMet_distinct]
    exact PyProof.Rows.firstMet_length_le _ _
  exact call_len_set ho hex hd hf (by rw [hn] <;> omega) ⟨.int (distinct ns).length, H1, I2.tok _, ⟨_, by rw [hn]⟩, q1⟩
end
theorem lenset_val {K : PySem.W.Frag} {mg : Str → Option Value} {E : XK} {x : V} {H : Hp} {Q : VK} (h : Ap K mg E .lenset [x] H Q) :
    ∃ (l : Addr) (ns : List Int), x = .ref l ∧ SqL K H l (ns.map V.int) ∧ ns.length ≤ 4000 ∧ Q (.int ((distinct ns).length : Nat)) H := by
  obtain ⟨ω, α, b, M, ds, s, hb, r, p⟩ := h
  obtain ⟨d, rfl, rx⟩ := r.one
  replace p : Post K ω mg E b α H M (lensetE d M) _ := p
  unfold lensetE at p
  split at p
  · rename_i ns hx
    obtain ⟨hl, p⟩ := post_if p
    rw [Option.bind_eq_some_iff] at hx
    obtain ⟨xs, h1, h2⟩ := hx
    obtain ⟨a, ws, rfl, hv, q⟩ := rv_look s rx h1
    exact ⟨a, ns, rfl, by rw [← ints_of q h2]; exact .of hv, by omega, p.ok s _ (.int _)⟩
  · exact p.elim

end CP3b
section CP4

/-! ## What a def's text is -/
structure Par where
  gls : List (Str × D)
  fnm : List Str
  blt : List Str
  exs : List Str
  mu : Pos → Bool
  /-- the def that tells what is refused -/
  rf : Option Str := none
  /-- dicts of texts of the module -/
  dcts : List (Str × List (Str × Str)) := []
/-- .. but for lambdas -/
def Par.off (P : Par) : Par := { P with rf := none }
def isTup : Expr → Bool
  | .Tuple _ _ _ => true
  | _ => false
def isStar : Expr → Bool
  | .Starred _ _ => true
  | _ => false
def isPlainIx : Expr → Bool
  | .Slice _ _ _ _ => false
  | _ => true
def ixOf : List Str → Str → Nat → Option Nat
  | [], _, _ => none
  | y :: r, x, k => if y = x then some k else ixOf r x (k + 1)
theorem ixOf_get : ∀ (l : List Str) (x : Str) (k i : Nat), ixOf l x k = some i → k ≤ i ∧ l[i - k]? = some x
  | [], _, _, _, h => by simp [ixOf] at h
  | y :: r, x, k, i, h => by
    simp only [ixOf] at h
    by_cases e : y = x
    · rw [if_pos e] at h; cases h; simp [e]
    · rw [if_neg e] at h
      obtain ⟨h1, h2⟩ := ixOf_get r x (k + 1) i h
      refine ⟨by omega, ?_⟩
      have : i - k = (i - (k + 1)) + 1 := by omega
      rw [this]; simpa using h2
def okName (x : Str) : Bool := !(x == ("__debug__" : Str)) && !(x == ("__classdict__" : Str)) && !(x == ("__name__" : Str)) && !(x == ("" : Str))
def isVis (sc : Scope) (x : Str) : Bool := match sc.names.lookup x with
  | some .local => true
  | some .cell => true
  | some .free => true
  | _ => false
def isLoc (sc : Scope) (x : Str) : Bool := match sc.names.lookup x with
  | some .local => true
  | some .cell => true
  | _ => false
def isGl (sc : Scope) (x : Str) : Bool := match sc.names.lookup x with
  | some .globalImplicit => true
  | _ => false
def toTms : List Tm → Tms
  | [] => .nil
  | t :: r => .cons t (toTms r)
def opOf : Operator → Option Prim
  | .Add => some .add
  | .Sub => some .sub
  | .Mult => some .mul
  | .FloorDiv => some .fdiv
  | .Mod => some .mod
  | .Pow => some .pow
  | _ => none
def cmpOf : CmpOp → Option Prim
  | .Eq => some .eq
  | .NotEq => some .ne
  | .Lt => some .lt
  | .LtE => some .le
  | .Gt => some .gt
  | .GtE => some .ge
  | .In => some .isin
  | .NotIn => some .notin
  | .Is => some .is
  | .IsNot => some .isnot
def noSet : Expr → Bool
  | .Set _ _ _ => false
  | _ => true
def tyOf (x : Str) : Option Ty :=
  if x = "int" then some .int else if x = "bool" then some .bool else if x = "tuple" then some .tuple else if x = "list" then some .list else if x = "str" then some .str else none
def bltOf2 (x : Str) (n : Nat) : Option Prim :=
  if x = "max" ∧ n = 1 then some .max1 else if x = "min" ∧ n = 1 then some .min1 else if x = "str" ∧ n = 1 then some .str1 else none
/-- a built-in function by its name and how many arguments -/
def bltOf (x : Str) (n : Nat) (m : Bool) : Option Prim :=
  if x = "len" ∧ n = 1 then some .len else if x = "abs" ∧ n = 1 then some .abs else if x = "int" ∧ n = 1 then some .int1 else if x = "all" ∧ n = 1 then some .all
  else if x = "any" ∧ n = 1 then some .any else if x = "min" ∧ n = 2 then some .min2 else if x = "max" ∧ n = 2 then some .max2 else if x = "sum" ∧ n = 1 then some .sum
  else if x = "tuple" ∧ n = 1 then some .tuple1 else if x = "list" ∧ n = 1 then some (.list1 m) else bltOf2 x n
/-- -1, as written -/
def isM1 : Expr → Bool
  | .UnaryOp .USub (.Constant (.int i) _ _) _ => i == 1
  | _ => false
/-- the list in len(set(..)) -/
def lenSetArg (f : Str) : List Expr → Option Expr
  | [.Call (.Name g _) [a] [] _] => if f = "len" ∧ g = "set" then some a else none
  | _ => none
def methOf (x : Str) (n : Nat) : Option Prim :=
  if x = "append" ∧ n = 1 then some .append else if x = "extend" ∧ n = 1 then some .extend else if x = "pop" ∧ n = 0 then some .pop0 else if x = "pop" ∧ n = 1 then some .pop1
  else if x = "reverse" ∧ n = 0 then some .reverse else if x = "insert" ∧ n = 2 then some .insert else none
/-- a text's methods -/
def smethOf (x : Str) (n : Nat) : Option Prim :=
  if x = "join" ∧ n = 1 then some .join else if x = "rfind" ∧ n = 1 then some .rfind else if x = "partition" ∧ n = 1 then some .part3 else if x = "index" ∧ n = 1 then some .index1 else none
/-- a written dict of two texts -/
def dict2 : List (Option Expr) → List Expr → Option (List (Str × Str))
  | [some (.Constant (.str a) _ _), some (.Constant (.str c) _ _)], [.Constant (.str b) _ _, .Constant (.str d) _ _] => if a = c then none else some [(a, b), (c, d)]
  | _, _ => none
/-- a dict of texts, written or the module's -/
def pickOf (P : Par) (sc : Scope) : Expr → Option (List (Str × Str))
  | .Dict ks vs _ => dict2 ks vs
  | .Name x _ => if okName x && isGl sc x then P.dcts.lookup x else none
  | _ => none
def strD (es : List (Str × Str)) : List (Str × D) := es.map fun p => (p.1, .str p.2)
/-- no call without arguments (super) -/
def plainBase : Expr → Bool
  | .Call (.Name _ _) [] [] _ => false
  | _ => true
mutual
def cP (N : List Str) (sc raw : Scope) : Expr → Option Pat
  | .Name x _ => if isLoc sc x && isLoc raw x && okName x then (ixOf N x 0).map .name else none
  | .Tuple es _ _ => (cPs N sc raw es).map .tup
  | _ => none
def cPs (N : List Str) (sc raw : Scope) : List Expr → Option (List Pat)
  | [] => some []
  | e :: r => match cP N sc raw e, cPs N sc raw r with
    | some p, some ps => some (p :: ps)
    | _, _ => none
end
mutual
def Pat.slots : Pat → List Nat
  | .name i => [i]
  | .tup ps => slotss ps
def slotss : List Pat → List Nat
  | [] => []
  | p :: r => p.slots ++ slotss r
end
def ownOf (N : List Str) (sc : Scope) : List (Str × Nat) := sc.names.filterMap fun (x, k) => match k with
  | .local => (ixOf N x 0).map fun i => (x, i)
  | .cell => (ixOf N x 0).map fun i => (x, i)
  | _ => none
def cBool : Bool → List Tm → Option Tm
  | _, [] => none
  | _, [t] => some t
  | true, t :: r => (cBool true r).map fun u => .and t u
  | false, t :: r => (cBool false r).map fun u => .or t u
/-- what a loop goes over by a built-in function's name -/
def srcOf (P : Par) (sc : Scope) (tp : Bool) (f : Str) (n : Nat) : Option Src :=
  if (isGl sc f && P.blt.contains f) = true then
    (if f = "range" ∧ n = 1 then some .range1 else if f = "range" ∧ n = 2 then some .range2 else if f = "enumerate" ∧ n = 1 ∧ tp = true then some .enum else if f = "zip" ∧ n = 2 ∧ tp = true then some .zip2 else none)
  else none
/-- a lambda, alone -/
def lamArg : List Expr → Option (Arguments × Expr × Scope)
  | [.Lambda params body scope _] => some (params, body, scope)
  | _ => none
def noParams (p : Arguments) : Bool := p.posonlyargs.isEmpty && p.args.isEmpty && p.vararg.isNone && p.kwonlyargs.isEmpty && p.kw_defaults.isEmpty && p.kwarg.isNone && p.defaults.isEmpty
section
mutual
def cE (P : Par) (N : List Str) : Nat → Scope → Expr → Option Tm
  | 0, _, _ => none
  | k + 1, sc, e => match e with
    | .Name x _ => if okName x then (if isVis sc x then (ixOf N x 0).map .var else if isGl sc x then (P.gls.lookup x).map .con else none) else none
    | .Constant (.int i) _ _ => some (.con (.int i))
    | .Constant (.bool i) _ _ => some (.con (.bl i))
    | .Constant .none _ _ => some (.con .non)
    | .Constant (.str i) _ _ => some (.con (.str i))
    | .Tuple es _ _ => (cEs P N k sc es).map fun ts => .prim .tup (toTms ts)
    | .List es pos => (cEs P N k sc es).map fun ts => .prim (.lst (P.mu pos)) (toTms ts)
    | .BinOp a op b _ => match opOf op, cE P N k sc a, cE P N k sc b with
      | some p, some s, some t => some (.prim p (.cons s (.cons t .nil)))
      | _, _, _ => none
    | .UnaryOp .Not a _ => (cE P N k sc a).map fun t => .prim .notb (.cons t .nil)
    | .UnaryOp .USub a _ => (cE P N k sc a).map fun t => .prim .neg (.cons t .nil)
    | .BoolOp .And es _ => (cEs P N k sc es).bind (cBool true)
    | .BoolOp .Or es _ => (cEs P N k sc es).bind (cBool false)
    | .IfExp c a b _ => match cE P N k sc c, cE P N k sc a, cE P N k sc b with
      | some c, some s, some t => some (.ite c s t)
      | _, _, _ => none
    | .Compare a [op] [b] _ => if noSet b then (match cmpOf op, cE P N k sc a, cE P N k sc b with
      | some p, some s, some t => some (.prim p (.cons s (.cons t .nil)))
      | _, _, _ => none) else none
    | .Compare a [op, op2] [b, c] _ => if noSet b && noSet c then (match cmpOf op, cmpOf op2, cE P N k sc a, cE P N k sc b, cE P N k sc c with
      | some p, some q, some s, some t, some u => some (.chain p q s t u)
      | _, _, _, _, _ => none) else none
    | .Compare a [op, op2, op3] [b, c, d] _ => if noSet b && noSet c && noSet d then (match cmpOf op, cmpOf op2, cmpOf op3, cE P N k sc a, cE P N k sc b, cE P N k sc c, cE P N k sc d with
      | some p, some q, some r, some s, some t, some u, some v => some (.chain3 p q r s t u v)
      | _, _, _, _, _, _, _ => none) else none
    | .Call (.Name f _) args [] pos => match lenSetArg f args with
      | some a => if isGl sc "len" && isGl sc "set" && P.blt.contains "len" && P.blt.contains "set" then (cE P N k sc a).map fun t => .prim .lenset (.cons t .nil) else none
      | none => match lamArg args with
      | some (params, body, scope) => if isGl sc f && okName f && P.rf == some f && N.contains "<lambda>" && noParams params && LamX.lamSB sc scope then (cE P.off N k scope body).map .refus else none
      | none => if isGl sc f && okName f then (match ixOf P.fnm f 0 with
      | some i => (cEs P N k sc args).map fun ts => .call i (toTms ts)
      | none => if P.blt.contains f then (match f == ("isinstance" : Str), args with
          | true, [a, .Name ty _] => if isGl sc ty && okName ty && P.blt.contains ty then (match tyOf ty, cE P N k sc a with
            | some t, some s => some (.prim (.isi t) (.cons s .nil))
            | _, _ => none) else none
          | true, _ => none
          | false, args => match bltOf f args.length (P.mu pos), cEs P N k sc args with
            | some p, some ts => some (.prim p (toTms ts))
            | _, _ => none) else none) else none
    | .Call (.Attribute o m apos) args [] pos => if plainBase o && apos.endLine == pos.line then (match smethOf m args.length with
      | some p => (match cE P N k sc o, cEs P N k sc args with
        | some t, some ts => some (.smeth p t (toTms ts))
        | _, _ => none)
      | none => (match methOf m args.length, cE P N k sc o, cEs P N k sc args with
        | some p, some t, some ts => some (.meth p t (toTms ts))
        | _, _, _ => none)) else none
    | .Subscript a (.Slice none none (some st) _) pos => if isM1 st then (cE P N k sc a).map fun t => .prim (.rev (P.mu pos)) (.cons t .nil) else none
    | .Subscript a (.Slice none none none _) pos => (cE P N k sc a).map fun t => .prim (.slc false false (P.mu pos)) (.cons t .nil)
    | .Subscript a (.Slice (some l) none none _) pos => match cE P N k sc a, cE P N k sc l with
      | some t, some u => some (.prim (.slc true false (P.mu pos)) (.cons t (.cons u .nil)))
      | _, _ => none
    | .Subscript a (.Slice none (some l) none _) pos => match cE P N k sc a, cE P N k sc l with
      | some t, some u => some (.prim (.slc false true (P.mu pos)) (.cons t (.cons u .nil)))
      | _, _ => none
    | .Subscript a (.Slice (some l) (some h) none _) pos => match cE P N k sc a, cE P N k sc l, cE P N k sc h with
      | some t, some u, some v => some (.slc2 (P.mu pos) t u v)
      | _, _, _ => none
    | .Subscript a b _ => if isPlainIx b then (match pickOf P sc a with
      | some es => (cE P N k sc b).map fun u => .prim (.pick (strD es)) (.cons u .nil)
      | none => (match cE P N k sc a, cE P N k sc b with
        | some t, some u => some (.prim .idx (.cons t (.cons u .nil)))
        | _, _ => none)) else none
    | .Dict [] [] _ => some (.prim .newd .nil)
    | .ListComp elt gs scope pos => match gs with
      | [c] => if c.is_async = 0 ∧ blkC N sc scope (ownOf N scope) = true then (match cP N (relS scope sc) scope c.target, cI P N k sc (isTup c.target) c.iter, cEs P N k (relS scope sc) c.ifs, cE P N k (relS scope sc) elt with
        | some p, some (s, ts), some cs, some t => if cs.length ≤ 1 ∧ p.slots.all (fun i => ((ownOf N scope).map (·.2)).contains i) = true then some (.comp (P.mu pos) ((ownOf N scope).map (·.2)) p s (toTms ts) (toTms cs) t) else none
        | _, _, _, _ => none) else none
      | _ => none
    | _ => none
def cEs (P : Par) (N : List Str) : Nat → Scope → List Expr → Option (List Tm)
  | 0, _, _ => none
  | _ + 1, _, [] => some []
  | k + 1, sc, e :: r => if isStar e then none else match cE P N k sc e, cEs P N k sc r with
    | some t, some ts => some (t :: ts)
    | _, _ => none
def cI (P : Par) (N : List Str) : Nat → Scope → Bool → Expr → Option (Src × List Tm)
  | 0, _, _, _ => none
  | k + 1, sc, tp, e => match e with
    | .Call (.Name f _) args [] _ => (match srcOf P sc tp f args.length with
      | some s => (cEs P N k sc args).map fun ts => (s, ts)
      | none => (cE P N k sc e).map fun t => (.seq, [t]))
    | e => (cE P N k sc e).map fun t => (.seq, [t])
end
end

/-! statements -/
def isComp : Expr → Bool
  | .ListComp _ _ _ _ => true
  | .SetComp _ _ _ _ => true
  | .DictComp _ _ _ _ _ => true
  | _ => false
/-- is name = [..] stored within the comprehension? -/
def swOf (sc : Scope) (scope : Scope) (y : Str) (py pos : Pos) : Bool :=
  (sc.names.lookup y == some .local) && (py.line == pos.line) && !(scope.names.any fun (n, k) => n == y && (k == .local || k == .cell))
/-- how a tuple of names is stored from a written tuple -/
def swK (sc : Scope) (ts vs : List Expr) : Option (Option (List Str)) :=
  if (!(ts.length == 2 || ts.length == 3) || vs.length != ts.length) = true then some none
  else if (vs.any fun | .Starred .. => true | _ => false) = true then some none
  else
    let line := (ts.head?.map (·.pos.line)).getD 0
    let names := ts.filterMap fun
      | .Name id pos => if sc.names.lookup id == some .local && pos.line == line then some id else none
      | _ => none
    if (names.length != ts.length || names.eraseDups.length != names.length) = true then some none
    else if vs.all (foldedForSure 8) = true then some none
    else if vs.all (constantsAlone 8) = true then none
    else some (some names)
/-! rows of lambdas, each handed to the def that tells what was refused -/
def constD : Expr → Option D
  | .Constant (.str s) _ _ => some (.str s)
  | .Constant .none _ _ => some .non
  | _ => none
/-- a row's elements: the refusal of each, and the name that is due -/
def lamEl (t : Tm) (d : D) : Tm := .prim .eq (.cons (.refus t) (.cons (.con d) .nil))
def isLam : Expr → Bool
  | .Lambda _ _ _ _ => true
  | .Tuple [_, .Lambda _ _ _ _] _ _ => true
  | _ => false
def isRow : List Expr → Bool
  | e :: _ => isLam e
  | [] => false
/-- y = [lambda: .., ..], and what is made of it at once -/
def pairOf (st : Stmt) (r : List Stmt) : Option (Str × List Expr × Expr × Option (List Stmt) × List Stmt) :=
  match st, r with
  | .Assign [.Name y _] (.List es _) _, .Return (some e) _ :: r2 => if isRow es then some (y, es, e, none, r2) else none
  | .Assign [.Name y _] (.List es _) _, .If (.UnaryOp .Not e _) a [] _ :: r2 => if isRow es then some (y, es, e, some a, r2) else none
  | _, _ => none
section
variable (P : Par) (N : List Str) (k : Nat) (sc : Scope)
def cLam : Expr → Option Tm
  | .Lambda params body scope _ => if noParams params && LamX.lamSB sc scope then cE P.off N k scope body else none
  | _ => none
def cRowA (d : D) : List Expr → Option (List Tm)
  | [] => some []
  | e :: r => match cLam P N k sc e, cRowA d r with
    | some t, some ts => some (lamEl t d :: ts)
    | _, _ => none
def cRowB : List Expr → Option (List Tm)
  | [] => some []
  | e :: r => match e with
    | .Tuple [c, l] _ _ => (match constD c, cLam P N k sc l, cRowB r with
      | some d, some t, some ts => some (lamEl t d :: ts)
      | _, _, _ => none)
    | _ => none
/-- all([f(x) == .. for .. in y]) over the row -/
def rowCall (y : Str) (es : List Expr) : Expr → Option Tm
  | .Call (.Name al _) [.ListComp (.Compare (.Call (.Name f _) [.Name x _] [] _) [.Eq] [rhs] _) [⟨tg, .Name y2 _, [], 0⟩] scope _] [] _ =>
    if al = "all" ∧ y2 = y ∧ (isGl sc "all" && P.blt.contains "all" && P.rf == some f && isGl (relS scope sc) f && okName f && N.contains "<lambda>" && blkC N sc scope (ownOf N scope) && isVis sc y && okName y && isLoc (relS scope sc) x && isLoc scope x && okName x && noSet rhs) = true ∧ es.length ≤ 1000 then
      (match tg with
      | .Name x2 _ => (match ixOf N x 0, constD rhs with
        | some ix, some d => if x2 = x ∧ ((ownOf N scope).map (·.2)).contains ix = true then (cRowA P N k sc d es).map fun ts => .prim .all (.cons (.prim (.lst false) (toTms ts)) .nil) else none
        | _, _ => none)
      | .Tuple [.Name nm _, .Name x2 _] _ _ => (match ixOf N x 0, ixOf N nm 0, rhs with
        | some ix, some inm, .Name nm2 _ => if x2 = x ∧ nm2 = nm ∧ nm ≠ x ∧ (isLoc (relS scope sc) nm && isLoc scope nm && okName nm) = true ∧ ((ownOf N scope).map (·.2)).contains ix = true ∧ ((ownOf N scope).map (·.2)).contains inm = true then (cRowB P N k sc es).map fun ts => .prim .all (.cons (.prim (.lst false) (toTms ts)) .nil) else none
        | _, _, _ => none)
      | _ => none) else none
  | _ => none
end
section
variable (P : Par)
mutual
def cS (N : List Str) (sc : Scope) : Nat → Stmt → Option Sm
  | 0, _ => none
  | k + 1, st => match st with
    | .Return (some e) _ => (cE P N k sc e).map .ret
    | .Return none _ => some .retN
    | .Pass _ => some .pass
    | .Expr e _ => if isComp e then none else (cE P N k sc e).map .expr
    | .If c a b _ => match cE P N k sc c, cSs N sc k a, cSs N sc k b with
      | some t, some x, some y => some (.ite t x y)
      | _, _, _ => none
    | .While c a b _ => if b.isEmpty then (match cE P N k sc c, cSs N sc k a with
      | some t, some x => some (.whil t x)
      | _, _ => none) else none
    | .For tg it a b _ => if b.isEmpty then (match cP N sc sc tg, cI P N k sc (isTup tg) it, cSs N sc k a with
      | some p, some (s, ts), some x => some (.for_ p s (toTms ts) x)
      | _, _, _ => none) else none
    | .Raise (some e) none _ => match e with
      | .Call f args kws _ => match f, args, kws with
        | .Name c _, [.Constant (.str _) _ _], [] => if isGl sc c && okName c && P.exs.contains c then some (.raise c) else none
        | _, _, _ => none
      | _ => none
    | .Assign tgs e pos => match tgs with
      | [.Name y py] => if isLoc sc y && okName y then (match ixOf N y 0, cE P N k sc e with
          | some i, some t => (match e with
            | .ListComp _ _ scope cpos => if swOf sc scope y py cpos then (if sc.names.lookup y == some .local then some (.asg (.name i) t) else none) else some (.asg (.name i) t)
            | e => if isComp e then none else some (.asg (.name i) t))
          | _, _ => none) else none
      | [.Tuple ts _ _] => (match cPs N sc sc ts, cE P N k sc e with
          | some ps, some t => (match e with
            | .Tuple vs _ _ => (match swK sc ts vs with
              | some none => some (.asg (.tup ps) t)
              | some (some ns) => (match ts, vs, ns with
                | [.Name x _, .Name y _], [_, _], [x', y'] => if x = x' ∧ y = y' ∧ x ≠ y ∧ sc.names.lookup x = some .local ∧ sc.names.lookup y = some .local then some (.asg (.tup ps) t) else none
                | [.Name x _, .Name y _, .Name z _], [_, _, _], [x', y', z'] => if x = x' ∧ y = y' ∧ z = z' ∧ x ≠ y ∧ x ≠ z ∧ y ≠ z ∧ sc.names.lookup x = some .local ∧ sc.names.lookup y = some .local ∧ sc.names.lookup z = some .local then some (.asg (.tup ps) t) else none
                | _, _, _ => none)
              | none => none)
            | _ => some (.asg (.tup ps) t))
          | _, _ => none)
      | [.Subscript o i _] => if isComp e then none else (match cE P N k sc e, cE P N k sc o, cE P N k sc i with
          | some t, some u, some v => if isPlainIx i then some (.setI u v t) else none
          | _, _, _ => none)
      | _ => none
    | _ => none
def cSs (N : List Str) (sc : Scope) : Nat → List Stmt → Option Sms
  | 0, _ => none
  | _ + 1, [] => some .nil
  | k + 1, st :: r => match pairOf st r with
    | some (y, es, e, o, r2) => (match ixOf N y 0, rowCall P N k sc y es e, cSs N sc k r2 with
      | some iy, some t, some ss => if isLoc sc y && okName y then (match o with
        | none => some (.cons (.wipe iy) (.cons (.ret t) ss))
        | some a => (cSs N sc k a).map fun x => .cons (.wipe iy) (.cons (.ite (.prim .notb (.cons t .nil)) x .nil) ss)) else none
      | _, _, _ => none)
    | none => (match cS N sc k st, cSs N sc k r with
      | some s, some ss => some (.cons s ss)
      | _, _ => none)
end
end

end CP4
section CP5
variable [TB : Tbs]

/-! ## Expressions -/
section
variable (K : PySem.W.Frag) (mg : Str → Option Value) (E : XK) (cf : Nat → List D → Mem → Res D)
def tE (tm : Tm) : TE := fun σ H Q => ∃ ω α b ρ M, Sim K ω α H M ∧ RS K ω α H σ ρ ∧ b ≤ M.length ∧ Post K ω mg E b α H M (evE cf b tm ρ M) (fun d _ α' H' => ∀ v, RV K ω α' H' v d → Q v H')
def tT (tm : Tm) : TT := fun σ H Q => ∃ ω α b ρ M, Sim K ω α H M ∧ RS K ω α H σ ρ ∧ b ≤ M.length ∧ Post K ω mg E b α H M (evE cf b tm ρ M) (fun d _ α' H' => ∃ c, d = .bl c ∧ Q c H')
def tEs (ts : Tms) : TA := fun σ H Q => ∃ ω α b ρ M, Sim K ω α H M ∧ RS K ω α H σ ρ ∧ b ≤ M.length ∧ Post K ω mg E b α H M (evEs cf b ts ρ M) (fun ds _ α' H' => ∀ vs, RVs K ω α' H' vs ds → Q vs H')
/-- what a call of the i-th def promises -/
def spF (fns : List Fn) (n i : Nat) : Sp := fun vs H Q E => ∃ ω α b M ds f, Sim K ω α H M ∧ b ≤ M.length ∧ RVs K ω α H vs ds ∧ fns[i]? = some f ∧ vs.length = f.ps.length ∧ Post K ω mg E b α H M (callFn fns n i ds M) (fun d _ α' H' => ∀ v, RV K ω α' H' v d → Q v H')
end
theorem pe_imp {X : Cx} {e : Expr} {t t' : TE} (h : PE X e t) (i : ∀ σ H Q, t' σ H Q → t σ H Q) : PE X e t' := ⟨fun pins s σ H Q I q => h.run pins s σ H Q I (i _ _ _ q)⟩
theorem pt_imp {X : Cx} {e : Expr} {t t' : TT} (h : PT X e t) (i : ∀ σ H Q, t' σ H Q → t σ H Q) : PT X e t' := ⟨fun pins s σ H Q I q => h.run pins s σ H Q I (i _ _ _ q)⟩
theorem pw_imp {X : Cx} {e : Expr} {t t' : TT} (h : PW X e t) (i : ∀ σ H Q, t' σ H Q → t σ H Q) : PW X e t' := ⟨fun wh pins s σ H Q I q => h.run wh pins s σ H Q I (i _ _ _ q)⟩
theorem pa_imp {X : Cx} {e : List Expr} {t t' : TA} (h : PA X e t) (i : ∀ σ H Q, t' σ H Q → t σ H Q) : PA X e t' := ⟨fun po pins s σ H Q I q => h.run po pins s σ H Q I (i _ _ _ q)⟩
theorem ps_imp {X : Cx} {e : Stmt} {t t' : TS} (h : PS X e t) (i : ∀ D σ H, t' D σ H → t D σ H) : PS X e t' := ⟨fun pins s σ H D I q => h.run pins s σ H D I (i _ _ _ q)⟩
theorem pss_imp {X : Cx} {e : List Stmt} {t t' : TS} (h : PSs X e t) (i : ∀ D σ H, t' D σ H → t D σ H) : PSs X e t' := ⟨fun pins s σ H D I q => h.run pins s σ H D I (i _ _ _ q)⟩
theorem pi_imp {X : Cx} {tg e : Expr} {t t' : TI} (h : PI X tg e t) (i : ∀ σ H Q, t' σ H Q → t σ H Q) : PI X tg e t' := ⟨fun pins s σ H Q I q => h.run pins s σ H Q I (i _ _ _ q)⟩
theorem pi_or {X : Cx} {tg e : Expr} {t t' : TI} (h : PI X tg e t) (h' : PI X tg e t') : PI X tg e (fun σ H Q => t σ H Q ∨ t' σ H Q) := ⟨fun pins s σ H Q I q => q.elim (h.run pins s σ H Q I) (h'.run pins s σ H Q I)⟩

section
variable {K : PySem.W.Frag} {mg : Str → Option Value} {E : XK} {cf : Nat → List D → Mem → Res D} {σ : L2.St} {H : Hp}
theorem prim_args {p : Prim} {ts : Tms} {Q : VK} (h : tE K mg E cf (.prim p ts) σ H Q) : tEs K mg E cf ts σ H fun vs H1 => Ap K mg E p vs H1 Q := by
  obtain ⟨ω, α, b, ρ, M, s, r, hb, q⟩ := h
  refine ⟨ω, α, b, ρ, M, s, r, hb, (Post.bind (show Post K ω mg E b α H M ((evEs cf b ts ρ M).bind fun ds M1 => primE b p ds M1) _ from q)).mono fun ds M1 α1 H1 st sm pr ⟨_, _, _, q1⟩ vs rv => ?_⟩
  exact ⟨ω, α1, b, M1, ds, sm, Nat.le_trans hb pr.len, rv, q1⟩
theorem cons_args {t : Tm} {r : Tms} {Q : List V → Hp → Prop} (h : tEs K mg E cf (.cons t r) σ H Q) : tE K mg E cf t σ H fun x H1 => tEs K mg E cf r σ H1 fun xs H2 => Q (x :: xs) H2 := by
  obtain ⟨ω, α, b, ρ, M, s, rr, hb, q⟩ := h
  refine ⟨ω, α, b, ρ, M, s, rr, hb, (Post.bind (show Post K ω mg E b α H M ((evE cf b t ρ M).bind fun d M1 => (evEs cf b r ρ M1).bind fun ds M2 => .ok (d :: ds) M2) _ from q)).mono fun d M1 α1 H1 st sm pr ⟨_, _, _, q1⟩ v rv => ?_⟩
  refine ⟨ω, α1, b, ρ, M1, sm, rr.step st, Nat.le_trans hb pr.len, (Post.bind q1).mono fun ds M2 α2 H2 st2 sm2 pr2 ⟨_, _, _, q2⟩ vs rvs => ?_⟩
  exact q2.ok sm2 _ (.cons (rv.step st2) rvs)
theorem nil_args {Q : List V → Hp → Prop} (h : tEs K mg E cf .nil σ H Q) : Q [] H := by
  obtain ⟨ω, α, b, ρ, M, s, rr, hb, q⟩ := h
  exact (show Post K ω mg E b α H M (.ok [] M) _ from q).ok s _ .nil
theorem prim1 {p : Prim} {t : Tm} {Q : VK} (h : tE K mg E cf (.prim p (.cons t .nil)) σ H Q) : tE K mg E cf t σ H fun x H1 => Ap K mg E p [x] H1 Q := by
  obtain ⟨ω, α, b, ρ, M, s, r, hb, q⟩ := cons_args (prim_args h)
  exact ⟨ω, α, b, ρ, M, s, r, hb, q.mono fun _ _ _ _ _ _ _ q v rv => nil_args (q v rv)⟩
theorem prim2 {p : Prim} {t u : Tm} {Q : VK} (h : tE K mg E cf (.prim p (.cons t (.cons u .nil))) σ H Q) : tE K mg E cf t σ H fun x H1 => tE K mg E cf u σ H1 fun y H2 => Ap K mg E p [x, y] H2 Q := by
  obtain ⟨ω, α, b, ρ, M, s, r, hb, q⟩ := cons_args (prim_args h)
  refine ⟨ω, α, b, ρ, M, s, r, hb, q.mono fun _ _ _ _ _ _ _ q v rv => ?_⟩
  obtain ⟨ω, α, b, ρ, M, s, r, hb, q⟩ := cons_args (q v rv)
  exact ⟨ω, α, b, ρ, M, s, r, hb, q.mono fun _ _ _ _ _ _ _ q v rv => nil_args (q v rv)⟩
theorem prim3 {p : Prim} {t u w : Tm} {Q : VK} (h : tE K mg E cf (.prim p (.cons t (.cons u (.cons w .nil)))) σ H Q) : tE K mg E cf t σ H fun x H1 => tE K mg E cf u σ H1 fun y H2 => tE K mg E cf w σ H2 fun z H3 => Ap K mg E p [x, y, z] H3 Q := by
  obtain ⟨ω, α, b, ρ, M, s, r, hb, q⟩ := cons_args (prim_args h)
  refine ⟨ω, α, b, ρ, M, s, r, hb, q.mono fun _ _ _ _ _ _ _ q v rv => ?_⟩
  obtain ⟨ω, α, b, ρ, M, s, r, hb, q⟩ := cons_args (q v rv)
  refine ⟨ω, α, b, ρ, M, s, r, hb, q.mono fun _ _ _ _ _ _ _ q v rv => ?_⟩
  obtain ⟨ω, α, b, ρ, M, s, r, hb, q⟩ := cons_args (q v rv)
  exact ⟨ω, α, b, ρ, M, s, r, hb, q.mono fun _ _ _ _ _ _ _ q v rv => nil_args (q v rv)⟩
theorem tE_mono {t : Tm} {Q Q' : VK} (h : tE K mg E cf t σ H Q) (i : ∀ v H', Q v H' → Q' v H') : tE K mg E cf t σ H Q' := by
  obtain ⟨ω, α, b, ρ, M, s, r, hb, q⟩ := h
  exact ⟨ω, α, b, ρ, M, s, r, hb, q.mono fun _ _ _ _ _ _ _ q v rv => i _ _ (q v rv)⟩
/-- a test as an expression whose value is a truth -/
theorem test_val {t : Tm} {Q : Bool → Hp → Prop} (h : tT K mg E cf t σ H Q) : tE K mg E cf t σ H fun x H1 => ∃ c, x = .bl c ∧ Q c H1 := by
  obtain ⟨ω, α, b, ρ, M, s, r, hb, q⟩ := h
  refine ⟨ω, α, b, ρ, M, s, r, hb, q.mono fun d _ _ _ _ _ _ ⟨c, e, q⟩ v rv => ?_⟩
  subst e
  exact ⟨c, rv_bl rv, q⟩
end

/-- what the refusal of the class c at D needs -/
structure RefCls (K : PySem.W.Frag) (mg : Str → Option Value) (c : Str) (D : Addr) : Prop where
  exc : ExcC K D
  at_ : mg c = some (.ref D)
  base : ∃ FE, mg "FloorError" = some (.ref FE) ∧ PySem.W.exmOne K (.ref D) (.ref FE) = some true
  val : PySem.W.kitOne K (.ref D) (.type "ValueError") = some true
  alike : ∀ s ∈ refNames, ∃ C, mg s = some (.ref C) ∧ PySem.W.kitOne K (.ref D) (.ref C) = some (s == c)
/-- what it makes of the call's reading: None, or the class's name -/
def TTref (K : PySem.W.Frag) (mg : Str → Option Value) : (XK → Hp → VK → Prop) → Hp → VK → Prop := fun tl H Q =>
  tl (fun cls d H1 => ∃ c D, cls = .ref D ∧ d = none ∧ c ∈ refNames ∧ RefCls K mg c D ∧ ∀ H2, (∀ b o, H1 b = some o → H2 b = some o) → Q (.str c) H2) H (fun _ H1 => Q .non H1)
/-- the def that tells what is refused -/
structure RefDef (K : PySem.W.Frag) (mg : Str → Option Value) (x : Str) : Prop where
  cls : ∀ c ∈ refNames, ∃ D, RefCls K mg c D
  ex : ∃ (g : Addr) (oc : Value) (od an : Option Addr) (pg : Arguments) (bg : List Stmt) (sg : Scope) (dV kV doc pm cdv ct : Value) (osl : Array (Option Value)) (Ng : List Str) (a : Str), mg x = some (.ref g) ∧ PySem.W.keepIn K (.ref g) = true ∧
    K.lookup g = some ⟨oc, od, .func (PySem.W.fnOf x x pg bg sg dV kV doc pm an cdv ct), osl⟩ ∧ PySem.W.codeIn K cdv x = true ∧ L2.Binds K (PySem.W.fnOf x x pg bg sg dV kV doc pm an cdv ct) [a] [] ∧ FnScope Ng [a] sg ∧ Ng[0]? = some a ∧ Vis sg a ∧
    (a == ("__debug__" : Str)) = false ∧ (a == ("__classdict__" : Str)) = false ∧ ∀ (X : Cx), X.K = K → X.mg = mg → GivesN X Ng x sg g cdv bg a (TTref K mg)
/-- a context in which lambdas may be made -/
structure LamReady (X : Cx) : Prop where
  ex : ∃ c P, LamX.TabB X.base X.mg c P ∧ X.env.code = .ref c ∧ (P, X.env.qual ++ "<lambda>") ∈ TB.T ∧ ∀ p ∈ TB.T, p.1 = P → p.2 = X.env.qual ++ "<lambda>"
/-- what a body's context has to bring -/
structure Good (P : Par) (fns : List Fn) (n : Nat) (E : XK) (N : List Str) (sc : Scope) (X : Cx) : Prop where
  hN : X.N = N
  hsc : X.env.scope = sc
  nd : N.Nodup
  room : Room (3 * n) X.A
  calm : X.calm = true
  pass : Passes (L2N.CX X.prog X.w) X E
  takes : L2N.Takes X (fun cls d σ H => E cls d H)
  own : PassesOwn (model X.prog X.w) X.A X.env X.xe
  gl : ∀ x d, P.gls.lookup x = some d → ∃ v u, X.mg x = some u ∧ RelV v u ∧ ∀ ω α H, RV X.K ω α H v d
  blt : ∀ x, P.blt.contains x = true → X.mg x = none
  dct : ∀ x es, P.dcts.lookup x = some es → ∃ p, X.mg x = some (.ref p) ∧ ∀ z d, es.lookup z = some d → KDct X.K X.w p z (.str d)
  fns : ∀ (x : Str) (i : Nat), x ≠ "" → ixOf P.fnm x 0 = some i → ∃ a fd ps, X.mg x = some (.ref a) ∧ PySem.W.keepIn X.K (.ref a) = true ∧ Binds X.K fd ps [] ∧ FnOk X.prog X.w X.K X.mg X.base (L2N.CX X.prog X.w) (3 * n) a fd ps (spF X.K X.mg fns n i)
  lam : ∀ x, P.rf = some x → RefDef X.K X.mg x ∧ (("<lambda>" : Str) ∈ N → LamReady X ∧ Room (3 * n + 2) X.A)

theorem okName_1 {x : Str} (h : okName x = true) : (x == ("__debug__" : Str)) = false := by
  unfold okName at h; simp only [Bool.and_eq_true, Bool.not_eq_true'] at h; exact h.1.1.1
theorem okName_2 {x : Str} (h : okName x = true) : (x == ("__classdict__" : Str)) = false := by
  unfold okName at h; simp only [Bool.and_eq_true, Bool.not_eq_true'] at h; exact h.1.1.2
theorem okName_3 {x : Str} (h : okName x = true) : x ≠ "__name__" := by
  unfold okName at h; simp only [Bool.and_eq_true, Bool.not_eq_true'] at h; exact fun e => by subst e; simp at h
theorem okName_4 {x : Str} (h : okName x = true) : x ≠ "" := by
  unfold okName at h; simp only [Bool.and_eq_true, Bool.not_eq_true'] at h; exact fun e => by subst e; simp at h
theorem isVis_vis {sc : Scope} {x : Str} (h : isVis sc x = true) : Vis sc x := by
  unfold isVis at h
  split at h <;> first | cases h | skip
  · exact .inl (by assumption)
  · exact .inr (.inl (by assumption))
  · exact .inr (.inr (by assumption))
theorem isLoc_loc {sc : Scope} {x : Str} (h : isLoc sc x = true) : Loc sc x := by
  unfold isLoc at h
  split at h <;> first | cases h | skip
  · exact .inl (by assumption)
  · exact .inr (by assumption)
theorem isGl_gl {sc : Scope} {x : Str} (h : isGl sc x = true) : sc.names.lookup x = some .globalImplicit := by
  unfold isGl at h
  split at h
  · assumption
  · cases h
theorem starEach_cons {e : Expr} {r : List Expr} {env : PySem.Env} (h : isStar e = false) : starEach (e :: r) env = (false, eval e env) :: starEach r env := by
  cases e <;> first | rfl | cases h
theorem stars_any {es : List Expr} {env : PySem.Env} {pos : Pos} (h : es.all (fun e => !isStar e) = true) : (backTo pos (starEach es env)).any (·.1) = false := by
  induction es with
  | nil => rfl
  | cons e r ih =>
    simp only [List.all_cons, Bool.and_eq_true, Bool.not_eq_true'] at h
    rw [starEach_cons h.1]
    have := ih h.2
    simp only [backTo, List.map_cons, List.any_cons] at this ⊢
    rw [this]; rfl
theorem attr_plain {o : Expr} {m : Str} {env : PySem.Env} {w : Sem Value} (h : plainBase o = true) : attributeBase o m env w = w := by
  unfold attributeBase
  split
  · cases h
  · rfl
theorem plain_ix {b : Expr} (h : isPlainIx b = true) : PlainIx b := by
  intro o i
  cases b <;> first | rfl | cases h
/-- how an expression's truth is looked at: plainly -/
def isPlainT : Expr → Bool
  | .BoolOp _ _ _ => false
  | .Compare _ _ _ _ => false
  | .UnaryOp .Not _ _ => false
  | .IfExp _ _ _ _ => false
  | _ => true

theorem plainT {e : Expr} {env : PySem.Env} (h : isPlainT e = true) (whole : Sem Value) : isTrue e env whole = (do let v ← whole; standAt e.pos; holding [v] (truthy v)) := by
  cases e <;> first | rfl | cases h | skip
  rename_i op _ _
  cases op <;> first | rfl | cases h
section
variable {X : Cx} {K : PySem.W.Frag} {mg : Str → Option Value} {E : XK} {cf : Nat → List D → Mem → Res D}
theorem pt_plain {e : Expr} {t : Tm} (h : PE X e (tE K mg E cf t)) (hp : isPlainT e = true) : PT X e (tT K mg E cf t) := pt_imp (pt_val h (plainT hp)) fun σ H Q q => test_val q
theorem pt_ifexp {c a b : Expr} {tc ta tb : TT} {pos : Pos} (hc : PT X c tc) (ha : PT X a ta) (hb : PT X b tb) : PT X (.IfExp c a b pos) (fun σ H Q => tc σ H fun k H1 => if k = true then ta σ H1 Q else tb σ H1 Q) := by
  refine ⟨fun pins s σ H Q I h => ?_⟩
  rw [PySem.isTrue]
  refine wpAny_bind (thn (hc.run pins s σ H _ I h) fun k s1 ⟨H1, I1, q⟩ => ?_)
  cases k with
  | true => exact ha.run pins s1 σ H1 Q I1 q
  | false => exact hb.run pins s1 σ H1 Q I1 q
end

end CP5
section CP6
variable [TB : Tbs]

/-! ## Targets -/
def SameBut (vs : List Nat) (σ σ' : L2.St) : Prop := ∀ ws : List Nat, (∀ i, i ∈ vs → i ∈ ws) → wipe σ' ws = wipe σ ws
def gP (K : PySem.W.Frag) (p : Pat) : TG := fun v σ H Q => ∃ ω α d ρ ρ', RV K ω α H v d ∧ RS K ω α H σ ρ ∧ bindP p d ρ = some ρ' ∧ ∀ σ', RS K ω α H σ' ρ' → SameBut p.slots σ σ' → Q σ' H
def gPs (K : PySem.W.Frag) (p : List Pat) : TGs := fun vs σ H Q => ∃ ω α ds ρ ρ', RVs K ω α H vs ds ∧ RS K ω α H σ ρ ∧ bindPs p ds ρ = some ρ' ∧ ∀ σ', RS K ω α H σ' ρ' → SameBut (slotss p) σ σ' → Q σ' H
theorem wipe_set {x : Option V} {i : Nat} : ∀ (ws : List Nat) (σ : L2.St), i ∈ ws → wipe (σ.set i x) ws = wipe σ ws
  | [], _, h => by simp at h
  | w :: ws, σ, h => by
    unfold wipe
    by_cases hw : i = w
    · subst hw
      by_cases hm : i ∈ ws
      · rw [wipe_set ws σ hm]
      · have : ∀ (vs : List Nat), i ∉ vs → wipe (σ.set i x) vs = (wipe σ vs).set i x := by
          intro vs
          induction vs with
          | nil => intro _; rfl
          | cons v vs ih =>
            intro hn
            simp only [List.mem_cons, not_or] at hn
            unfold wipe
            rw [ih hn.2, List.set_comm _ _ hn.1]
        rw [this ws hm, List.set_set]
    · rw [wipe_set ws σ (by simpa [hw] using h)]
theorem wipe_wipe (σ : L2.St) (ws : List Nat) : wipe (wipe σ ws) ws = wipe σ ws := by
  have : ∀ (vs : List Nat), (∀ i, i ∈ vs → i ∈ ws) → wipe (wipe σ vs) ws = wipe σ ws := by
    intro vs
    induction vs with
    | nil => intro _; rfl
    | cons v vs ih =>
      intro h
      show wipe ((wipe σ vs).set v none) ws = _
      rw [wipe_set ws _ (h v List.mem_cons_self), ih fun i hi => h i (List.mem_cons_of_mem _ hi)]
  exact this ws fun _ h => h
theorem wipeE_length (ρ : Env) : ∀ vs : List Nat, (wipeE ρ vs).length = ρ.length
  | [] => rfl
  | v :: vs => by unfold wipeE; rw [List.length_set, wipeE_length ρ vs]
theorem RS.wipe {K : PySem.W.Frag} {ω α : List Addr} {H : Hp} {σ : L2.St} {ρ : Env} (r : RS K ω α H σ ρ) : ∀ vs : List Nat, RS K ω α H (L2.wipe σ vs) (wipeE ρ vs)
  | [] => r
  | v :: vs => by
    obtain ⟨l, q⟩ := r.wipe vs
    refine ⟨by unfold L2.wipe wipeE; rw [List.length_set, List.length_set]; exact l, fun i d h => ?_⟩
    unfold wipeE at h
    by_cases hv : v = i
    · subst hv
      by_cases hl : v < (wipeE ρ vs).length
      · rw [List.getElem?_set_self hl] at h; cases h
      · rw [List.getElem?_eq_none (by simpa using hl)] at h; cases h
    · rw [List.getElem?_set_ne hv] at h
      obtain ⟨x, e, q⟩ := q i d h
      exact ⟨x, by unfold L2.wipe; rw [List.getElem?_set_ne hv]; exact e, q⟩
theorem RS.set {K : PySem.W.Frag} {ω α : List Addr} {H : Hp} {σ : L2.St} {ρ : Env} (r : RS K ω α H σ ρ) {v : V} {d : D} (q : RV K ω α H v d) (i : Nat) : RS K ω α H (σ.set i (some v)) (ρ.set i (some d)) := by
  refine ⟨by rw [List.length_set, List.length_set]; exact r.1, fun j e h => ?_⟩
  by_cases hj : i = j
  · subst hj
    by_cases hl : i < ρ.length
    · rw [List.getElem?_set_self hl] at h
      cases h
      exact ⟨v, List.getElem?_set_self (by have := r.1; omega), q⟩
    · rw [List.getElem?_eq_none (by simpa using hl)] at h; cases h
  · rw [List.getElem?_set_ne hj] at h
    obtain ⟨x, e, q⟩ := r.2 j e h
    exact ⟨x, by rw [List.getElem?_set_ne hj]; exact e, q⟩
theorem pg_imp {X : Cx} {e : Expr} {t t' : TG} (h : PG X e t) (i : ∀ v σ H Q, t' v σ H Q → t v σ H Q) : PG X e t' := ⟨fun pins s σ H v u Q I r q => h.run pins s σ H v u Q I r (i _ _ _ _ q)⟩
theorem pg_or {X : Cx} {e : Expr} {t t' : TG} (h : PG X e t) (h' : PG X e t') : PG X e (fun v σ H Q => t v σ H Q ∨ t' v σ H Q) := ⟨fun pins s σ H v u Q I r q => q.elim (h.run pins s σ H v u Q I r) (h'.run pins s σ H v u Q I r)⟩
theorem pgs_imp {X : Cx} {e : List Expr} {t t' : TGs} (h : PGs X e t) (i : ∀ v σ H Q, t' v σ H Q → t v σ H Q) : PGs X e t' := ⟨fun pins s σ H v u Q I r q => h.run pins s σ H v u Q I r (i _ _ _ _ q)⟩
theorem assignEach_ok {N : List Str} {sc raw : Scope} {env : PySem.Env} : ∀ {es : List Expr} {ps : List Pat}, cPs N sc raw es = some ps → (assignEach es env).length = ps.length ∧ (assignEach es env).findIdx? (·.1) = none
  | [], _, h => by cases h; exact ⟨rfl, rfl⟩
  | e :: r, ps, h => by
    unfold cPs at h
    split at h
    · rename_i p qs hp hq
      cases h
      obtain ⟨h1, h2⟩ := assignEach_ok (env := env) hq
      cases e with
      | Name x po => exact ⟨by rw [List.length_cons, ← h1]; rfl, by show ((_, _) :: assignEach r env).findIdx? _ = none; rw [List.findIdx?_cons]; simp [h2]⟩
      | Tuple x k po => exact ⟨by rw [List.length_cons, ← h1]; rfl, by show ((_, _) :: assignEach r env).findIdx? _ = none; rw [List.findIdx?_cons]; simp [h2]⟩
      | _ => simp [cP] at hp
    · cases h
mutual
theorem pg_pat {X : Cx} {N : List Str} {sc raw : Scope} (hN : X.N = N) (hnd : N.Nodup) (hsc : X.env.scope = sc) (hc : X.calm = true) (hfn : ∀ x, isLoc raw x = true → isLoc sc x = true → X.fn x = true ∨ X.env.scope.names.lookup x = some .local) :
    ∀ (e : Expr) (p : Pat), cP N sc raw e = some p → PG X e (gP X.K p)
  | .Name x po, p, h => by
    simp only [cP] at h
    split at h
    · rename_i hl
      simp only [Bool.and_eq_true] at hl
      obtain ⟨⟨h1, h2⟩, h3⟩ := hl
      rw [Option.map_eq_some_iff] at h
      obtain ⟨i, hi, rfl⟩ := h
      obtain ⟨_, hi⟩ := ixOf_get _ _ _ _ hi
      refine pg_imp (pg_name (by rw [hN]; exact hnd) (by rw [hN]; simpa using hi) (by rw [hsc]; exact isLoc_loc h1) (hfn x h2 h1)) fun v σ H Q q => ?_
      obtain ⟨ω, α, d, ρ, ρ', rv, rs, hb, q⟩ := q
      cases hb
      exact q _ (rs.set rv i) fun ws hw => wipe_set ws σ (hw i (by simp [Pat.slots]))
    · cases h
  | .Tuple es k po, p, h => by
    simp only [cP, Option.map_eq_some_iff] at h
    obtain ⟨ps, h, rfl⟩ := h
    obtain ⟨h1, h2⟩ := assignEach_ok (env := X.env) h
    refine pg_imp (pg_or (pg_tup hc (pgs_pat hN hnd hsc hc hfn es ps h) h1 h2) (pg_lst hc (pgs_pat hN hnd hsc hc hfn es ps h) h1 h2)) fun v σ H Q q => ?_
    obtain ⟨ω, α, d, ρ, ρ', rv, rs, hb, q⟩ := q
    have len : ∀ (ps : List Pat) (ds : List D) (ρ ρ' : Env), bindPs ps ds ρ = some ρ' → ds.length = ps.length := by
        intro ps
        induction ps with
        | nil => intro ds ρ ρ' h; cases ds with | nil => rfl | cons _ _ => simp [bindPs] at h
        | cons p ps ih =>
          intro ds ρ ρ' h
          cases ds with
          | nil => simp [bindPs] at h
          | cons d ds =>
            simp only [bindPs] at h
            split at h
            · rw [List.length_cons, List.length_cons, ih _ _ _ h]
            · cases h
    cases d with
    | tup ds =>
      obtain ⟨a, xs, rfl, ht, rx⟩ := rv_tup rv
      have hb : bindPs ps ds ρ = some ρ' := hb
      exact .inl ⟨a, xs, rfl, ht, by rw [rx.length]; exact len _ _ _ _ hb, ω, α, ds, ρ, ρ', rx, rs, hb, q⟩
    | lst ds =>
      have hb : bindPs ps ds ρ = some ρ' := hb
      cases rv with
      | lst hx na nw rx => exact .inr ⟨_, _, rfl, .of hx, by rw [rx.length]; exact len _ _ _ _ hb, ω, α, ds, ρ, ρ', rx, rs, hb, q⟩
    | _ => simp [bindP] at hb
  | .BoolOp .., _, h | .NamedExpr .., _, h | .BinOp .., _, h | .UnaryOp .., _, h | .Lambda .., _, h | .IfExp .., _, h | .Dict .., _, h | .Set .., _, h | .ListComp .., _, h | .SetComp .., _, h | .DictComp .., _, h
  | .GeneratorExp .., _, h | .Await .., _, h | .Yield .., _, h | .YieldFrom .., _, h | .Compare .., _, h | .Call .., _, h | .FormattedValue .., _, h | .JoinedStr .., _, h | .Constant .., _, h | .Attribute .., _, h
  | .Subscript .., _, h | .Starred .., _, h | .List .., _, h | .Slice .., _, h => by simp [cP] at h
theorem pgs_pat {X : Cx} {N : List Str} {sc raw : Scope} (hN : X.N = N) (hnd : N.Nodup) (hsc : X.env.scope = sc) (hc : X.calm = true) (hfn : ∀ x, isLoc raw x = true → isLoc sc x = true → X.fn x = true ∨ X.env.scope.names.lookup x = some .local) :
    ∀ (es : List Expr) (ps : List Pat), cPs N sc raw es = some ps → PGs X es (gPs X.K ps)
  | [], _, h => by
    cases h
    refine pgs_imp pgs_nil fun vs σ H Q q => ?_
    obtain ⟨ω, α, ds, ρ, ρ', rv, rs, hb, q⟩ := q
    cases ds with
    | nil => cases rv; cases hb; exact ⟨rfl, q _ rs fun _ _ => rfl⟩
    | cons _ _ => simp [bindPs] at hb
  | e :: r, ps, h => by
    simp only [cPs] at h
    split at h
    · rename_i p qs hp hq
      cases h
      refine pgs_imp (pgs_cons (pg_pat hN hnd hsc hc hfn e p hp) (pgs_pat hN hnd hsc hc hfn r qs hq) ?_) fun vs σ H Q q => ?_
      · cases e <;> first | rfl | (simp [cP] at hp)
      · obtain ⟨ω, α, ds, ρ, ρ', rv, rs, hb, q⟩ := q
        cases ds with
        | nil => simp [bindPs] at hb
        | cons d ds =>
          cases rv with
          | cons rx rxs =>
            simp only [bindPs] at hb
            split at hb
            · rename_i ρ1 hb1
              refine ⟨_, _, rfl, ω, α, d, ρ, ρ1, rx, rs, hb1, fun σ1 rs1 sb1 => ?_⟩
              refine ⟨ω, α, ds, ρ1, ρ', rxs, rs1, hb, fun σ2 rs2 sb2 => q σ2 rs2 fun ws hw => ?_⟩
              rw [sb2 ws fun i hi => hw i (by simp [slotss, hi]), sb1 ws fun i hi => hw i (by simp [slotss, hi])]
            · cases hb
    · cases h
end

/-! ## What a loop goes over -/
structure ItOk (K : PySem.W.Frag) (J : It) (g : List Grd) (its : List D) (vs : List V) (ds : List D) : Prop where
  go : ∀ ω α H M i, RVs K ω α H vs ds → Sim K ω α H M → (∀ x, x ∈ g → Grd.ok x M) → i < its.length → J.go i H
  stop : ∀ ω α H M i, RVs K ω α H vs ds → Sim K ω α H M → (∀ x, x ∈ g → Grd.ok x M) → its.length ≤ i → i ≤ its.length → J.stop i H
  yld : ∀ ω α H M i x H', RVs K ω α H vs ds → Sim K ω α H M → (∀ x, x ∈ g → Grd.ok x M) → J.yld i H x H' → ∀ d, its[i]? = some d → Stp α H α H' ∧ Sim K ω α H' M ∧ RV K ω α H' x d
def tI (K : PySem.W.Frag) (mg : Str → Option Value) (E : XK) (cf : Nat → List D → Mem → Res D) (k : Src) (ts : Tms) : TI := fun σ H R => ∃ ω α b ρ M, Sim K ω α H M ∧ RS K ω α H σ ρ ∧ b ≤ M.length ∧
  Post K ω mg E b α H M (evEs cf b ts ρ M) (fun ds M1 α1 H1 => ∃ its g, srcE k ds M1 = some (its, g) ∧ ∀ vs, RVs K ω α1 H1 vs ds → ∀ J, ItOk K J g its vs ds → R J H1)
section
variable {K : PySem.W.Frag} {mg : Str → Option Value} {E : XK} {cf : Nat → List D → Mem → Res D}
theorem it_list {a : Addr} {d : D} {its : List D} {g : List Grd} (h : ∀ ω α H M, RV K ω α H (.ref a) d → Sim K ω α H M → (∀ x, x ∈ g → Grd.ok x M) → ∃ xs, SqL K H a xs ∧ RVs K ω α H xs its) : ItOk K (Itl K a) g its [.ref a] [d] where
  go := fun ω α H M i rv sm hg hi => by
    cases rv with
    | cons rv _ =>
      obtain ⟨xs, hs, rx⟩ := h ω α H M rv sm hg
      obtain ⟨v, hv, _⟩ := rx.get (List.getElem?_eq_getElem hi)
      exact ⟨xs, v, hs, hv⟩
  stop := fun ω α H M i rv sm hg hi _ => by
    cases rv with
    | cons rv _ =>
      obtain ⟨xs, hs, rx⟩ := h ω α H M rv sm hg
      exact ⟨xs, hs, by rw [rx.length]; exact hi⟩
  yld := fun ω α H M i x H' rv sm hg y d hd => by
    cases rv with
    | cons rv _ =>
      obtain ⟨xs, hs, rx⟩ := h ω α H M rv sm hg
      obtain ⟨rfl, y⟩ := y
      obtain ⟨v, hv, q⟩ := rx.get hd
      have := (y xs hs).symm.trans hv
      cases this
      exact ⟨Stp.refl _ _, sm, q⟩
theorem it_tup {a : Addr} {d : D} {its : List D} {g : List Grd} (h : ∀ ω α H M, RV K ω α H (.ref a) d → Sim K ω α H M → (∀ x, x ∈ g → Grd.ok x M) → ∃ xs, SqT K H a xs ∧ RVs K ω α H xs its) : ItOk K (Itt K a) g its [.ref a] [d] where
  go := fun ω α H M i rv sm hg hi => by
    cases rv with
    | cons rv _ =>
      obtain ⟨xs, hs, rx⟩ := h ω α H M rv sm hg
      obtain ⟨v, hv, _⟩ := rx.get (List.getElem?_eq_getElem hi)
      exact ⟨xs, v, hs, hv⟩
  stop := fun ω α H M i rv sm hg hi _ => by
    cases rv with
    | cons rv _ =>
      obtain ⟨xs, hs, rx⟩ := h ω α H M rv sm hg
      exact ⟨xs, hs, by rw [rx.length]; exact hi⟩
  yld := fun ω α H M i x H' rv sm hg y d hd => by
    cases rv with
    | cons rv _ =>
      obtain ⟨xs, hs, rx⟩ := h ω α H M rv sm hg
      obtain ⟨rfl, y⟩ := y
      obtain ⟨v, hv, q⟩ := rx.get hd
      have := (y xs hs).symm.trans hv
      cases this
      exact ⟨Stp.refl _ _, sm, q⟩
theorem it_text {z : Str} {vs : List V} {ds : List D} {g : List Grd} : ItOk K (Its z) g (signs z) vs ds where
  go := fun ω α H M i rv sm hg hi => by
    show i < z.cps.size
    unfold signs at hi
    rwa [List.length_map, Array.length_toList] at hi
  stop := fun ω α H M i rv sm hg hi _ => by
    show z.cps.size ≤ i
    unfold signs at hi
    rwa [List.length_map, Array.length_toList] at hi
  yld := fun ω α H M i x H' rv sm hg y d hd => by
    obtain ⟨rfl, c, hc, rfl⟩ := y
    unfold signs at hd
    rw [List.getElem?_map, Array.getElem?_toList, hc] at hd
    cases hd
    exact ⟨Stp.refl _ _, sm, .str _⟩
theorem it_range {lo : Int} {n : Nat} {vs : List V} {ds : List D} {g : List Grd} : ItOk K (Itr lo n) g ((List.range n).map fun (i : Nat) => D.int (lo + (i : Int))) vs ds where
  go := fun ω α H M i rv sm hg hi => by show i < n; simpa using hi
  stop := fun ω α H M i rv sm hg hi _ => by show n ≤ i; simpa using hi
  yld := fun ω α H M i x H' rv sm hg y d hd => by
    obtain ⟨rfl, rfl⟩ := y
    rw [List.getElem?_map] at hd
    by_cases hi : i < n
    · rw [List.getElem?_range hi] at hd
      cases hd
      exact ⟨Stp.refl _ _, sm, .int _⟩
    · rw [List.getElem?_eq_none (by simpa using hi)] at hd; cases hd
end
section
variable {X : Cx} {mg : Str → Option Value} {E : XK} {cf : Nat → List D → Mem → Res D} {tg : Expr}
theorem pi_seq {e : Expr} {t : Tm} (h : PE X e (tE X.K mg E cf t)) : PI X tg e (tI X.K mg E cf .seq (.cons t .nil)) :=
  pi_imp (pi_or (pi_list h) (pi_or (pi_tup h) (pi_str h))) fun σ H R q => by
  obtain ⟨ω, α, b, ρ, M, s, r, hb, q⟩ := q
  have q := Post.bind (show Post X.K ω mg E b α H M ((evE cf b t ρ M).bind fun d M1 => .ok [d] M1) _ from q)
  cases hr : evE cf b t ρ M with
  | stuck => rw [hr] at q; exact q.elim
  | exc c M' =>
    refine .inl ⟨ω, α, b, ρ, M, s, r, hb, ?_⟩
    rw [hr] at q ⊢
    exact q
  | ok d M1 =>
    rw [hr] at q
    by_cases ht : ∃ xs, d = .tup xs
    · obtain ⟨ds, rfl⟩ := ht
      refine .inr (.inl ⟨ω, α, b, ρ, M, s, r, hb, ?_⟩)
      rw [hr]
      intro α1 H1 st sm pr v rv
      obtain ⟨_, _, _, q⟩ := q α1 H1 st sm pr
      obtain ⟨its, g, e, q⟩ := q.ok sm
      cases e
      obtain ⟨a, xs, rfl, hs, rx⟩ := rv_tup rv
      refine ⟨a, rfl, ⟨xs, hs⟩, q [.ref a] (.cons rv .nil) _ (it_tup fun ω α H M rv sm hg => ?_)⟩
      obtain ⟨a', xs', e, hs', rx'⟩ := rv_tup rv
      cases e
      exact ⟨xs', hs', rx'⟩
    by_cases hst : ∃ z, d = .str z
    · obtain ⟨z, rfl⟩ := hst
      refine .inr (.inr ⟨ω, α, b, ρ, M, s, r, hb, ?_⟩)
      rw [hr]
      intro α1 H1 st sm pr v rv
      obtain ⟨_, _, _, q⟩ := q α1 H1 st sm pr
      obtain ⟨its, g, e, q⟩ := q.ok sm
      cases e
      rw [rv_str rv]
      exact ⟨z, rfl, q [.str z] (.cons (.str z) .nil) _ it_text⟩
    · refine .inl ⟨ω, α, b, ρ, M, s, r, hb, ?_⟩
      rw [hr]
      intro α1 H1 st sm pr v rv
      obtain ⟨_, _, _, q⟩ := q α1 H1 st sm pr
      obtain ⟨its, g, e, q⟩ := q.ok sm
      cases d with
      | str z => exact absurd ⟨z, rfl⟩ hst
      | tup ds => exact absurd ⟨ds, rfl⟩ ht
      | lst ds =>
        cases e
        cases rv with
        | lst h n w rx =>
          refine ⟨_, rfl, ⟨_, .of h⟩, q [.ref _] (.cons (.lst h n w rx) .nil) _ (it_list fun ω α H M rv sm hg => ?_)⟩
          cases rv with
          | lst h n w rx => exact ⟨_, .of h, rx⟩
      | fix ds =>
        cases e
        cases rv with
        | fix h rx =>
          refine ⟨_, rfl, ⟨_, h.imp (·.1.1) id⟩, q [.ref _] (.cons (.fix h rx) .nil) _ (it_list fun ω α H M rv sm hg => ?_)⟩
          cases rv with
          | fix h rx => exact ⟨_, h.imp (·.1.1) id, rx⟩
      | ref n =>
        simp only [srcE, seqE, oneE] at e
        cases hm : M1[n]? with
        | none => rw [hm] at e; cases e
        | some c =>
          cases c with
          | lst ds =>
            rw [hm] at e
            cases e
            obtain ⟨a, ws, rfl, _, ha, _, hH, rx⟩ := rv_cell (n := n) (ds := ds) sm rv (by simp only [cellOf, hm])
            refine ⟨_, rfl, ⟨_, .of hH⟩, q [.ref _] (.cons rv .nil) _ (it_list fun ω α H M rv sm hg => ?_)⟩
            have hm : M[n]? = some (.lst ds) := hg (some (n, .lst ds)) (by simp)
            obtain ⟨a', ws', e, _, _, _, hH', rx'⟩ := rv_cell (n := n) (ds := ds) sm rv (by simp only [cellOf, hm])
            cases e
            exact ⟨_, .of hH', rx'⟩
          | dct es => rw [hm] at e; cases e
      | _ => cases e
theorem small_iff {i : Int} (h : small i = true) : -(2 ^ 62) ≤ i ∧ i < 2 ^ 62 := of_decide_eq_true h
theorem pi_rng1 {a : Expr} {ts : Tms} {p pos : Pos} (hg : Gl X "range") (hm : X.mg "range" = none) (ha : PA X [a] (tEs X.K mg E cf ts)) (hs : isStar a = false) : PI X tg (.Call (.Name "range" p) [a] [] pos) (tI X.K mg E cf .range1 ts) :=
  pi_imp (pi_range1 hg hm ha (starEach_cons hs)) fun σ H R q => by
  obtain ⟨ω, α, b, ρ, M, s, r, hb, q⟩ := q
  refine ⟨ω, α, b, ρ, M, s, r, hb, q.mono fun ds M1 α1 H1 st sm pr ⟨its, g, e, q⟩ vs rv => ?_⟩
  obtain ⟨n, rfl, hsm, rfl, rfl⟩ := src1 e
  obtain ⟨h1, h2⟩ := small_iff hsm
  cases rv with
  | cons r1 t =>
    cases t
    refine ⟨n, by rw [rv_int r1], h1, h2, q _ (.cons r1 .nil) _ ?_⟩
    have this : ∀ vs, ItOk X.K (Itr 0 n.toNat) [] ((List.range n.toNat).map fun (i : Nat) => D.int (0 + (i : Int))) vs [D.int n] := fun vs => it_range
    simpa using this _
theorem pi_rng2 {a c : Expr} {ts : Tms} {p pos : Pos} (hg : Gl X "range") (hm : X.mg "range" = none) (ha : PA X [a, c] (tEs X.K mg E cf ts)) (hs : isStar a = false) (hs2 : isStar c = false) : PI X tg (.Call (.Name "range" p) [a, c] [] pos) (tI X.K mg E cf .range2 ts) :=
  pi_imp (pi_range2 hg hm ha (by rw [starEach_cons hs, starEach_cons hs2]; rfl) (starEach_cons hs2)) fun σ H R q => by
  obtain ⟨ω, α, b, ρ, M, s, r, hb, q⟩ := q
  refine ⟨ω, α, b, ρ, M, s, r, hb, q.mono fun ds M1 α1 H1 st sm pr ⟨its, g, e, q⟩ vs rv => ?_⟩
  obtain ⟨i, n, rfl, hs1, hs2, rfl, rfl⟩ := src2 e
  obtain ⟨h1, h2⟩ := small_iff hs1
  obtain ⟨h3, h4⟩ := small_iff hs2
  obtain ⟨x, y, e, r1, r2⟩ : ∃ x y, vs = [x, y] ∧ RV X.K ω α1 H1 x (.int i) ∧ RV X.K ω α1 H1 y (.int n) := by
    cases rv with
    | cons r1 t =>
      cases t with
      | cons r2 t => cases t; exact ⟨_, _, rfl, r1, r2⟩
  subst e
  exact ⟨i, n, by rw [rv_int r1, rv_int r2], ⟨h1, h2, h3, h4⟩, q _ (.cons r1 (.cons r2 .nil)) _ it_range⟩
end

end CP6
section CP6b
variable [TB : Tbs]

/-! ## Sources of pairs: enumerate, zip, over lists and tuples -/
def SqX (K : PySem.W.Frag) (H : Hp) : Bool → Addr → List V → Prop
  | true, a, xs => SqT K H a xs
  | false, a, xs => SqL K H a xs
def IterX (h : Heap) : Bool → Addr → Addr → Nat → Prop
  | true, it, a, i => h.IsTupleIter it a i
  | false, it, a, i => h.IsListIter it a i
def IsX (h : Heap) : Bool → Addr → Array Value → Prop
  | true, a, its => h.IsTuple a its
  | false, a, its => h.IsList a its
def itCls : Bool → String
  | true => "tuple_iterator"
  | false => "list_iterator"
def itObj (t : Bool) (a : Addr) : Obj := { cls := .type (itCls t), data := .fields #[.ref a, .int 0 0] }
theorem IterX.obj {h : Heap} {t : Bool} {it a : Addr} {i : Nat} (x : IterX h t it a i) : ∃ o, h.get? it = some o ∧ ∀ v, o.data ≠ .cell v := by
  cases t with
  | true => obtain ⟨o, ho, hc, hd⟩ := (show h.IsTupleIter it a i from x); exact ⟨o, ho, fun v z => by rw [hd] at z; cases z⟩
  | false => obtain ⟨o, ho, hc, hd⟩ := (show h.IsListIter it a i from x); exact ⟨o, ho, fun v z => by rw [hd] at z; cases z⟩
theorem IterX.at {h h' : Heap} {t : Bool} {it a : Addr} {i : Nat} (x : IterX h t it a i) (e : ∀ o, h.get? it = some o → h'.get? it = some o) : IterX h' t it a i := by
  cases t with
  | true => exact Heap.IsTupleIter.at x e
  | false => exact Heap.IsListIter.at x e
theorem begins_x (t : Bool) (a : Addr) (its : Array Value) : Begins (.ref a) (itObj t a) fun h => IsX h t a its := by
  cases t with
  | true => exact begins_tuple a its
  | false => exact begins_list a its
theorem iter_new {h : Heap} {t : Bool} {it a : Addr} (e : h.get? it = some (itObj t a)) : IterX h t it a 0 := by
  cases t with
  | true => exact ⟨_, e, rfl, rfl⟩
  | false => exact ⟨_, e, rfl, rfl⟩
theorem draws_x {prog : Program} {w : World} {A : Around} (hh : A.handled = none) (t : Bool) (it a : Addr) (hne : a ≠ it) (items : Array Value) :
    Draws prog w A it [it, a] items.size (fun i v => items[i]? = some v) (fun i h => IterX h t it a i ∧ IsX h t a items) := by
  cases t with
  | true => exact Draws.tuple hh it a hne items
  | false => exact Draws.list hh it a hne items
section
variable {X : Cx} {pins : List (Addr × Obj)} {σ : L2.St} {H : Hp} {s : Shared}
theorem real_x (I : Inv X pins σ H s) {t : Bool} {a : Addr} {xs : List V} (h : SqX X.K H t a xs) : ∃ its : List Value, Vals xs its ∧ IsX s.heap t a its.toArray ∧ a < s.heap.objs.size := by
  cases t with
  | true =>
    obtain ⟨its, rv, p, _⟩ := I.tuple h
    obtain ⟨o, ho, _⟩ := id p
    exact ⟨its, rv, p, Heap.lt_size ho⟩
  | false =>
    obtain ⟨its, rv, p, _⟩ := I.list h
    exact ⟨its, rv, p.isList, p.lt⟩
theorem inj_x (I : Inv X pins σ H s) {t : Bool} {a : Addr} {xs ys : List V} (h : SqX X.K H t a xs) (k : SqX X.K H t a ys) : xs = ys := by
  cases t with
  | true => exact I.tuple_inj h k
  | false => exact I.list_inj h k
end
def IteX (K : PySem.W.Frag) (t : Bool) (a : Addr) : It :=
  ⟨fun i H => ∃ (xs : List V) (x : V), SqX K H t a xs ∧ xs[i]? = some x, fun i H v H' => ∃ T x, v = .ref T ∧ H T = none ∧ H' = upd H T (.tup [.int (i : Nat), x]) ∧ ∀ xs, SqX K H t a xs → xs[i]? = some x, fun i H => ∃ xs : List V, SqX K H t a xs ∧ xs.length = i⟩
theorem turn_enumX {P : Program} {w : World} {K : PySem.W.Frag} {elts : List Expr} {kk : Nat} {tpos : Pos} (t : Bool) (a e it : Addr) (hne : e ≠ it) (hai : a ≠ it) (hea : e ≠ a) :
    Turn P w K (.Tuple elts kk tpos) (IteX K t a) [e, it] e (fun i h => (∃ old, IsEnum h e it ((i : Nat) : Int) old) ∧ IterX h t it a i) where
  mem := by simp
  obj := fun i h st b hb => by
    obtain ⟨⟨old, he⟩, hit⟩ := st
    have e' : b = e ∨ b = it := by simpa using hb
    rcases e' with z | z
    · rw [z]; exact ⟨_, he, fun v q => nomatch q⟩
    · rw [z]; exact hit.obj
  keep := fun i h h' st k => let ⟨⟨old, he⟩, hi⟩ := st; ⟨⟨old, k e (by simp) _ he⟩, hi.at fun o q => k it (by simp) o q⟩
  item := by
    intro X hP hw hK hc i pins s σ H E I hf st hg
    subst hP hw hK
    obtain ⟨⟨old, he⟩, hit⟩ := st
    obtain ⟨xs, x, hq, hx⟩ := hg
    obtain ⟨its, rv, p, hal⟩ := real_x I hq
    obtain ⟨u, hu, ru⟩ := rv.get hx
    have hel : e < s.heap.objs.size := Heap.lt_size he
    have hil : it < s.heap.objs.size := by obtain ⟨_, q, _⟩ := hit.obj; exact Heap.lt_size q
    have hlt : i < its.toArray.size := by
      have := (List.getElem?_eq_some_iff.mp hu).1
      simpa using this
    refine wpAny_pyNext_enum_itemD (draws_x (A := X.A.in1) (I.ok.hd hc) t it a hai its.toArray) he ⟨hit, p⟩ hlt hne (by simp [hne, hea]) fun u' h' tk hu' ho hst hT hsz hk => ?_
    have hue : u' = u := by
      have : its.toArray[i]? = some u := by simpa using hu
      rw [this] at hu'
      exact (Option.some.inj hu').symm
    subst hue
    refine ⟨_, rfl, wpAny_letOwnedTupleGo_enum (s := { s with heap := h', toks := tk + 1 }) ho fun h'' he' sb => ?_⟩
    have hT2 : h''.get? s.heap.objs.size = some { cls := .type "tuple", data := .seq #[.int i tk, u'] } := (sb.2 _ (Nat.ne_of_gt hel)).trans hT
    have new : ObjOk X.prog X.w (upd H s.heap.objs.size (.tup [.int (i : Nat), x])) h'' s.heap.objs.size (.tup [.int (i : Nat), x]) :=
      ⟨by show 2 ≤ sizeLine; decide, [.int i tk, u'], .cons ⟨_, rfl⟩ (.cons ru .nil), ⟨_, hT2, rfl, _, rfl⟩⟩
    have I1 : Inv X pins σ (upd H s.heap.objs.size (.tup [.int (i : Nat), x])) { s with heap := h'', toks := tk + 1 } :=
      I.turnedNew (ch := [e, it]) (fun b ob hb q => (sb.2 b (fun z => hb (by simp [z]))).trans (hk b ob (fun z => hb (by simp [z])) (fun z => hb (by simp [z])) q)) hf (Nat.le_refl _) new
    refine ⟨.ref s.heap.objs.size, _, I1, rfl, ⟨_, x, rfl, I.hok.fresh (Nat.le_refl _), rfl, fun ys hy => by rw [inj_x I hy hq]; exact hx⟩, ⟨⟨u', ?_⟩, hst.1.at fun o q => (sb.2 it (Ne.symm hne)).trans q⟩, fun b hb => ?_⟩
    · have e1 : ((i + 1 : Nat) : Int) = (i : Int) + 1 := by omega
      rw [e1]; exact he'
    · have hb' : b < s.heap.objs.size := by
        have e' : b = e ∨ b = it := by simpa using hb
        rcases e' with z | z
        · rw [z]; exact hel
        · rw [z]; exact hil
      rw [upd_ne (Nat.ne_of_lt hb')]
      exact (hf b hb).1
  done := by
    intro X hP hw hK hc i pins s σ H E I hf st hg
    subst hP hw hK
    obtain ⟨⟨old, he⟩, hit⟩ := st
    obtain ⟨xs, hq, hx⟩ := hg
    obtain ⟨its, rv, p, hal⟩ := real_x I hq
    obtain ⟨f0, f1, f2, f3, f4, f5⟩ := hf it (by simp)
    have hl := rv.length
    have hi : i = its.toArray.size := by simp; omega
    rw [hi] at hit he
    exact wpAny_pyNext_enum_endD (draws_x (A := X.A.in1) (I.ok.hd hc) t it a hai its.toArray) he ⟨hit, p⟩ fun h' eb => ⟨rfl, I.turned (t' := s.toks) (fun b o hb q => eb b o hb q) f0 f1 f3 f4 f5⟩
  self := fun A i s Q E st h => let ⟨⟨_, he⟩, _⟩ := st; wpAny_pyIter_enum he h
theorem meets_enumerate_newX {v : Value} {o : Obj} {H : Heap → Prop} (B : Begins v o H) :
    Meets (Builtin.«enumerate.__new__» ⟨[.type "enumerate", v], []⟩) (fun _ R s => H s.heap ∧
      R (.ok (.ret (.ref (s.heap.push o).objs.size))) { s with heap := (s.heap.push o).push { cls := .type "enumerate", data := .fields #[.none, .bool false, .ref s.heap.objs.size, rawInt 0, .none, .none] } }) :=
  .of_wp fun prog w A R s h => by
    obtain ⟨hp, g, d, tk, os⟩ := s; obtain ⟨h1, h⟩ := h
    have hsub := sub_enumerate
    have q1 : ∀ {A' : Around} {E : Value → Shared → Prop} {Q : Value → Shared → Prop}, Q (.ref hp.objs.size) ⟨hp.push o, g, d, tk, os⟩ → wpAny (model prog w) A' (pyIter v) Q E ⟨hp, g, d, tk, os⟩ :=
      fun q => B.iter prog w _ _ ⟨hp, g, d, tk, os⟩ _ h1 q
    wp_walk using q1
    refine wpAny_stack_any fun st => wpAny_pure ?_
    split
    · rename_i c _ _ _ _ _
      cases (c == Value.type "enumerate")
      · wp_walk using q1
        exact ⟨_, rfl, h⟩
      · wp_walk using q1
        exact ⟨_, rfl, h⟩
    · wp_walk using q1
      exact ⟨_, rfl, h⟩
theorem enum_beginsX {prog : Program} {w : World} {A : Around} {E : Value → Shared → Prop} {s : Shared} {v : Value} {o : Obj} {H : Heap → Prop} {Q : Value → Shared → Prop} (B : Begins v o H) (h1 : H s.heap)
    (h : ∀ h', IsEnum h' (s.heap.objs.size + 1) s.heap.objs.size 0 .none → h'.get? s.heap.objs.size = some o → h'.objs.size = s.heap.objs.size + 2 →
      (∀ b o, s.heap.get? b = some o → h'.get? b = some o) → Q (.ref (s.heap.objs.size + 1)) { s with heap := h' }) :
    wpAny (model prog w) A (call (.type "enumerate") [v]) Q E s := by
  refine callType_new F.called_enumerate (by decide) (F.typeCall_enumerate_1 _) (F.newCall_enumerate_1 _) (fun obj => F.args_object_init_2 obj _) F.entry_enumerate_new
    (meets_enumerate_newX B) ⟨h1, ?_⟩
  have hz : (s.heap.push o).objs.size = s.heap.objs.size + 1 := Heap.size_push ..
  show _ ∧ _
  rw [hz]
  have he : IsEnum ((s.heap.push o).push { cls := .type "enumerate", data := .fields #[.none, .bool false, .ref s.heap.objs.size, rawInt 0, .none, .none] }) (s.heap.objs.size + 1) s.heap.objs.size 0 .none := by
    have := Heap.get?_push_size (s.heap.push o) (o := { cls := .type "enumerate", data := .fields #[.none, .bool false, .ref s.heap.objs.size, rawInt 0, .none, .none] }) rfl
    rw [hz] at this; exact this
  refine ⟨⟨_, he, rfl⟩, h _ he (Heap.get?_push_of_some _ (Heap.get?_push_size _ B.free)) (by rw [Heap.size_push, hz]) fun b o x => Heap.get?_push_of_some _ (Heap.get?_push_of_some _ x)⟩
def iEnumX (K : PySem.W.Frag) (ta : TA) : TI := fun σ H R => ta σ H fun vs H1 => ∃ t a xs, vs = [.ref a] ∧ SqX K H1 t a xs ∧ R (IteX K t a) H1
theorem pi_enumX {X : Cx} {e : Expr} {ta : TA} {p pos tpos : Pos} {elts : List Expr} {kk : Nat} (hg : Gl X "enumerate") (hm : X.mg "enumerate" = none) (ha : PA X [e] ta) (hs : starEach [e] X.env = [(false, eval e X.env)]) :
    PI X (.Tuple elts kk tpos) (.Call (.Name "enumerate" p) [e] [] pos) (iEnumX X.K ta) := by
  refine ⟨fun pins s σ H R I h => ?_⟩
  refine Call_ (ld_blt I hg hm boot_enumerate (PyProof.Rows.callWith_type1 (thn (ha.run pos pins s σ H _ I h) fun us s1 ⟨vs, H1, I1, r1, q1⟩ => ?_) hs rfl))
  obtain ⟨t, a, xs, ex, hq, q⟩ := q1
  subst ex
  cases r1 with
  | cons r rr =>
    cases rr
    cases r
    obtain ⟨its, rv, p', hal⟩ := real_x I1 hq
    refine enum_beginsX (begins_x t a its.toArray) p' fun h' he hit hsz hk => wpAny_pyIter_enum he ?_
    have I2 : Inv X pins σ H1 { s1 with heap := h' } := I1.kept (t' := s1.toks) hk
    refine ⟨s1.heap.objs.size + 1, [s1.heap.objs.size + 1, s1.heap.objs.size], _, _, H1, rfl, I2, turn_enumX t a (s1.heap.objs.size + 1) s1.heap.objs.size (Nat.succ_ne_self _) (Nat.ne_of_lt hal) (Nat.ne_of_gt (Nat.lt_succ_of_lt hal)), ⟨⟨.none, he⟩, iter_new hit⟩, fun b hb => ?_, q⟩
    have e' : b = s1.heap.objs.size + 1 ∨ b = s1.heap.objs.size := by simpa using hb
    have hle : s1.heap.objs.size ≤ b := by
      rcases e' with z | z
      · rw [z]; exact Nat.le_add_right _ _
      · rw [z]; exact Nat.le_refl _
    exact I1.fpOk hle (I1.hok.fresh hle)
/-! zip of two -/
def ItzX (K : PySem.W.Frag) (t u : Bool) (a b : Addr) : It :=
  ⟨fun i H => ∃ (xs ys : List V) (x y : V), SqX K H t a xs ∧ SqX K H u b ys ∧ xs[i]? = some x ∧ ys[i]? = some y,
    fun i H v H' => ∃ T x y, v = .ref T ∧ H T = none ∧ H' = upd H T (.tup [x, y]) ∧ (∀ xs, SqX K H t a xs → xs[i]? = some x) ∧ ∀ ys, SqX K H u b ys → ys[i]? = some y,
    fun i H => ∃ xs ys : List V, SqX K H t a xs ∧ SqX K H u b ys ∧ i ≤ xs.length ∧ i ≤ ys.length ∧ (i = xs.length ∨ i = ys.length)⟩
structure ZApart (z TI TO i1 i2 a b : Addr) : Prop where
  sep : ZipSep2 z TI TO i1 i2 [i1, a] [i2, b]
  n1 : a ≠ i1
  n2 : b ≠ i2
theorem turn_zipX {P : Program} {w : World} {K : PySem.W.Frag} {elts : List Expr} {kk : Nat} {tpos : Pos} (t u : Bool) {a b z TI TO i1 i2 : Addr} (D : ZApart z TI TO i1 i2 a b) :
    Turn P w K (.Tuple elts kk tpos) (ItzX K t u a b) [z, TI, TO, i1, i2] z (fun i h => IsZip h z TI TO .none ∧ IsTupOf2 h TI (.ref i1) (.ref i2) ∧ (∃ x y, IsTupOf2 h TO x y) ∧ IterX h t i1 a i ∧ IterX h u i2 b i) where
  mem := by simp
  obj := fun i h st c hc => by
    obtain ⟨hz, hTI, ⟨x, y, hTO⟩, h1, h2⟩ := st
    have e' : c = z ∨ c = TI ∨ c = TO ∨ c = i1 ∨ c = i2 := by simpa using hc
    rcases e' with q | q | q | q | q
    · rw [q]; exact ⟨_, hz, fun v q => nomatch q⟩
    · rw [q]; exact ⟨_, hTI, fun v q => nomatch q⟩
    · rw [q]; exact ⟨_, hTO, fun v q => nomatch q⟩
    · rw [q]; exact h1.obj
    · rw [q]; exact h2.obj
  keep := fun i h h' st k => by
    obtain ⟨hz, hTI, ⟨x, y, hTO⟩, h1, h2⟩ := st
    exact ⟨k z (by simp) _ hz, k TI (by simp) _ hTI, ⟨x, y, k TO (by simp) _ hTO⟩, h1.at fun o q => k i1 (by simp) o q, h2.at fun o q => k i2 (by simp) o q⟩
  item := by
    intro X hP hw hK hc i pins s σ H E I hf st hg
    subst hP hw hK
    obtain ⟨hz, hTI, ⟨x0, y0, hTO⟩, h1, h2⟩ := st
    obtain ⟨xs, ys, x, y, hqx, hqy, hx, hy⟩ := hg
    obtain ⟨its, rv, p, _⟩ := real_x I hqx
    obtain ⟨its2, rv2, p2, _⟩ := real_x I hqy
    obtain ⟨v, hv, rv'⟩ := rv.get hx
    obtain ⟨v2, hv2, rv2'⟩ := rv2.get hy
    have hzl : z < s.heap.objs.size := Heap.lt_size hz
    have l1 : i < its.toArray.size := by have := (List.getElem?_eq_some_iff.mp hv).1; simpa using this
    have l2 : i < its2.toArray.size := by have := (List.getElem?_eq_some_iff.mp hv2).1; simpa using this
    refine wpAny_pyNext_zipD2_item D.sep (draws_x (A := X.A.in1) (I.ok.hd hc) t i1 a D.n1 its.toArray) (draws_x (A := X.A.in1) (I.ok.hd hc) u i2 b D.n2 its2.toArray) hz hTI hTO ⟨h1, p⟩ ⟨h2, p2⟩ l1 l2 fun x1 x2 h' tk y1 y2 z' TO' st1 st2 hT hsz hk => ?_
    have e1 : x1 = v := by
      have : its.toArray[i]? = some v := by simpa using hv
      rw [this] at y1
      exact (Option.some.inj y1).symm
    have e2 : x2 = v2 := by
      have : its2.toArray[i]? = some v2 := by simpa using hv2
      rw [this] at y2
      exact (Option.some.inj y2).symm
    subst e1 e2
    refine ⟨_, rfl, wpAny_letOwnedTupleGo_zip (s := { s with heap := h', toks := tk }) z' fun h'' z'' sb => ?_⟩
    have hT2 : h''.get? s.heap.objs.size = some { cls := .type "tuple", data := .seq #[x1, x2] } := (sb.2 _ (Nat.ne_of_gt hzl)).trans hT
    have new : ObjOk X.prog X.w (upd H s.heap.objs.size (.tup [x, y])) h'' s.heap.objs.size (.tup [x, y]) :=
      ⟨by show 2 ≤ sizeLine; decide, [x1, x2], .cons rv' (.cons rv2' .nil), ⟨_, hT2, rfl, _, rfl⟩⟩
    have I1 : Inv X pins σ (upd H s.heap.objs.size (.tup [x, y])) { s with heap := h'', toks := tk } :=
      I.turnedNew (ch := [z, TI, TO, i1, i2]) (fun c o hb q => (sb.2 c (fun q' => hb (by simp [q']))).trans (hk c o (fun q' => hb (by simp [q'])) (fun q' => hb (by simp [q'])) (fun q' => hb (by simp [q'])) (fun q' => hb (by simp [q'])) q)) hf (Nat.le_refl _) new
    refine ⟨.ref s.heap.objs.size, _, I1, rfl, ⟨_, x, y, rfl, I.hok.fresh (Nat.le_refl _), rfl, fun l hl => by rw [inj_x I hl hqx]; exact hx, fun l hl => by rw [inj_x I hl hqy]; exact hy⟩, ⟨z'', ?_, ⟨x1, x2, ?_⟩, ?_, ?_⟩, fun c hcm => ?_⟩
    · exact (sb.2 _ D.sep.TIz).trans (hk _ _ D.sep.TIz D.sep.TITO D.sep.TIi1 D.sep.TIi2 hTI)
    · exact (sb.2 _ D.sep.TOz).trans TO'
    · exact st1.1.at fun o q => (sb.2 _ (Ne.symm D.sep.zi1)).trans q
    · exact st2.1.at fun o q => (sb.2 _ (Ne.symm D.sep.zi2)).trans q
    · have hlt : c < s.heap.objs.size := by
        have e' : c = z ∨ c = TI ∨ c = TO ∨ c = i1 ∨ c = i2 := by simpa using hcm
        rcases e' with q | q | q | q | q
        · rw [q]; exact hzl
        · rw [q]; exact Heap.lt_size hTI
        · rw [q]; exact Heap.lt_size hTO
        · rw [q]; obtain ⟨_, e1, _⟩ := h1.obj; exact Heap.lt_size e1
        · rw [q]; obtain ⟨_, e1, _⟩ := h2.obj; exact Heap.lt_size e1
      rw [upd_ne (Nat.ne_of_lt hlt)]
      exact (hf c hcm).1
  done := by
    intro X hP hw hK hc i pins s σ H E I hf st hg
    subst hP hw hK
    obtain ⟨hz, hTI, ⟨x0, y0, hTO⟩, h1, h2⟩ := st
    obtain ⟨xs, ys, hqx, hqy, le1, le2, hend⟩ := hg
    obtain ⟨its, rv, p, _⟩ := real_x I hqx
    obtain ⟨its2, rv2, p2, _⟩ := real_x I hqy
    have l1 := rv.length
    have l2 := rv2.length
    have s1 : its.toArray.size = its.length := by simp
    have s2 : its2.toArray.size = its2.length := by simp
    exact wpAny_pyNext_zipD2_end D.sep (draws_x (A := X.A.in1) (I.ok.hd hc) t i1 a D.n1 its.toArray) (draws_x (A := X.A.in1) (I.ok.hd hc) u i2 b D.n2 its2.toArray) hz hTI hTO ⟨h1, p⟩ ⟨h2, p2⟩ (by omega) (by omega) (by omega) fun h' tk hk => ⟨rfl, I.turnedL (ch := [z, TI, TO, i1, i2]) (fun c o hb q =>
      hk c o (fun q' => hb (by simp [q'])) (fun q' => hb (by simp [q'])) (fun q' => hb (by simp [q'])) (fun q' => hb (by simp [q'])) q) hf⟩
  self := fun A i s Q E st h => wpAny_pyIter_zip st.1 h
def iZipX (K : PySem.W.Frag) (ta : TA) : TI := fun σ H R => ta σ H fun vs H1 => ∃ t u a b xs ys, vs = [.ref a, .ref b] ∧ SqX K H1 t a xs ∧ SqX K H1 u b ys ∧ R (ItzX K t u a b) H1
theorem pi_zipX {X : Cx} {e e2 : Expr} {ta : TA} {p pos tpos : Pos} {elts : List Expr} {kk : Nat} (hg : Gl X "zip") (hm : X.mg "zip" = none) (ha : PA X [e, e2] ta)
    (hs : starEach [e, e2] X.env = (false, eval e X.env) :: starEach [e2] X.env) (hpl : (backTo pos (starEach [e2] X.env)).any (·.1) = false) :
    PI X (.Tuple elts kk tpos) (.Call (.Name "zip" p) [e, e2] [] pos) (iZipX X.K ta) := by
  refine ⟨fun pins s σ H R I h => ?_⟩
  refine Call_ (ld_blt I hg hm PyProof.Rows.boot_zip (PyProof.Rows.callWith_type1 (thn (ha.run pos pins s σ H _ I h) fun us s1 ⟨vs, H1, I1, r1, q1⟩ => ?_) hs hpl))
  obtain ⟨t, u, a, b, xs, ys, ex, hqx, hqy, q⟩ := q1
  subst ex
  cases r1 with
  | cons r rr =>
    cases rr with
    | cons r' rr =>
      cases rr
      cases r
      cases r'
      obtain ⟨its, rv, p1, la⟩ := real_x I1 hqx
      obtain ⟨its2, rv2, p2, lb⟩ := real_x I1 hqy
      refine zip_begins2 (begins_x t a its.toArray) (begins_x u b its2.toArray) p1 p2 fun h' hz hTI hTO g1 g2 hsz hk => wpAny_pyIter_zip hz ?_
      have I2 : Inv X pins σ H1 { s1 with heap := h' } := I1.kept (t' := s1.toks) hk
      have D : ZApart (s1.heap.objs.size + 4) (s1.heap.objs.size + 2) (s1.heap.objs.size + 3) s1.heap.objs.size (s1.heap.objs.size + 1) a b :=
        ⟨zip_sep2 (fp1 := [a]) (fp2 := [b]) (fun c hc => by rw [List.mem_singleton.mp hc]; exact la) (fun c hc => by rw [List.mem_singleton.mp hc]; exact lb), Nat.ne_of_lt la, Nat.ne_of_lt (Nat.lt_succ_of_lt lb)⟩
      refine ⟨s1.heap.objs.size + 4, [s1.heap.objs.size + 4, s1.heap.objs.size + 2, s1.heap.objs.size + 3, s1.heap.objs.size, s1.heap.objs.size + 1], _, _, H1, rfl, I2, turn_zipX t u D, ⟨hz, hTI, ⟨_, _, hTO⟩, iter_new g1, iter_new g2⟩, fun c hcm => ?_, q⟩
      have e' : c = s1.heap.objs.size + 4 ∨ c = s1.heap.objs.size + 2 ∨ c = s1.heap.objs.size + 3 ∨ c = s1.heap.objs.size ∨ c = s1.heap.objs.size + 1 := by simpa using hcm
      have hle : s1.heap.objs.size ≤ c := by
        rcases e' with z | z | z | z | z
        · rw [z]; exact Nat.le_add_right _ _
        · rw [z]; exact Nat.le_add_right _ _
        · rw [z]; exact Nat.le_add_right _ _
        · rw [z]; exact Nat.le_refl _
        · rw [z]; exact Nat.le_add_right _ _
      exact I1.fpOk hle (I1.hok.fresh hle)
/-! what they go over -/
def isTupD : D → Bool
  | .tup _ => true
  | _ => false
theorem one_ok {d : D} {M : Mem} {xs : List D} {c : Grd} (h : oneE d M = some (xs, c)) : Grd.ok c M := by
  cases d with
  | ref n =>
    simp only [oneE] at h
    cases hm : M[n]? with
    | none => rw [hm] at h; cases h
    | some e =>
      cases e with
      | lst es => rw [hm] at h; cases h; exact hm
      | dct es => rw [hm] at h; cases h
  | tup _ => cases h; trivial
  | lst _ => cases h; trivial
  | fix _ => cases h; trivial
  | _ => cases h
section
variable {K : PySem.W.Frag}
theorem one_sq {ω α : List Addr} {H : Hp} {M M0 : Mem} {v : V} {d : D} {xs : List D} {c : Grd} (h : oneE d M0 = some (xs, c)) (r : RV K ω α H v d) (s : Sim K ω α H M) (g : Grd.ok c M) :
    ∃ a ws, v = .ref a ∧ SqX K H (isTupD d) a ws ∧ RVs K ω α H ws xs := by
  cases d with
  | tup es => cases h; obtain ⟨a, ws, rfl, q, r⟩ := rv_tup r; exact ⟨a, ws, rfl, q, r⟩
  | lst es => cases h; cases r with | lst h n w r => exact ⟨_, _, rfl, .of h, r⟩
  | fix es => cases h; cases r with | fix h r => exact ⟨_, _, rfl, h.imp (·.1.1) id, r⟩
  | ref n =>
    simp only [oneE] at h
    cases hm : M0[n]? with
    | none => rw [hm] at h; cases h
    | some e =>
      cases e with
      | lst es =>
        rw [hm] at h; cases h
        have hm : M[n]? = some (.lst xs) := g
        obtain ⟨a', ws', rfl, _, _, _, hH', rx'⟩ := rv_cell (n := n) (ds := xs) s r (by simp only [cellOf, hm])
        exact ⟨_, _, rfl, .of hH', rx'⟩
      | dct es => rw [hm] at h; cases h
  | _ => cases h
theorem sq_len {ω α : List Addr} {H : Hp} {ws : List V} {xs : List D} (r : RVs K ω α H ws xs) : ws.length = xs.length := r.length
theorem it_enum {a : Addr} {d : D} {M0 : Mem} {xs : List D} {c : Grd} (h : oneE d M0 = some (xs, c)) : ItOk K (IteX K (isTupD d) a) [c] (enumL 0 xs) [.ref a] [d] where
  go := fun ω α H M i rv sm hg hi => by
    cases rv with
    | cons rv _ =>
      obtain ⟨a', ws, e, hs, rx⟩ := one_sq h rv sm (hg c List.mem_cons_self)
      cases e
      rw [enumL_len] at hi
      obtain ⟨v, hv, _⟩ := rx.get (List.getElem?_eq_getElem hi)
      exact ⟨ws, v, hs, hv⟩
  stop := fun ω α H M i rv sm hg hi he => by
    cases rv with
    | cons rv _ =>
      obtain ⟨a', ws, e, hs, rx⟩ := one_sq h rv sm (hg c List.mem_cons_self)
      cases e
      rw [enumL_len] at hi he
      exact ⟨ws, hs, by rw [rx.length]; omega⟩
  yld := fun ω α H M i x H' rv sm hg y d' hd => by
    cases rv with
    | cons rv _ =>
      obtain ⟨a', ws, e, hs, rx⟩ := one_sq h rv sm (hg c List.mem_cons_self)
      cases e
      obtain ⟨T, x', rfl, hT, rfl, y⟩ := y
      rw [enumL_get] at hd
      cases hx : xs[i]? with
      | none => rw [hx] at hd; cases hd
      | some z =>
        rw [hx] at hd
        cases hd
        obtain ⟨v, hv, q⟩ := rx.get hx
        have := (y ws hs).symm.trans hv
        cases this
        refine ⟨Stp.fresh hT, sm.fresh hT, .tup (.inl ⟨.inl upd_same, sm.notin hT⟩) (.cons ?_ (.cons (RV.step (Stp.fresh hT) _ _ q) .nil))⟩
        rw [Nat.zero_add]
        exact .int _
theorem it_zip {a a2 : Addr} {d e : D} {M0 : Mem} {xs ys : List D} {c c2 : Grd} (h : oneE d M0 = some (xs, c)) (k : oneE e M0 = some (ys, c2)) : ItOk K (ItzX K (isTupD d) (isTupD e) a a2) [c, c2] (zipL xs ys) [.ref a, .ref a2] [d, e] where
  go := fun ω α H M i rv sm hg hi => by
    cases rv with
    | cons rv rr =>
      cases rr with
      | cons rv2 _ =>
        obtain ⟨_, ws, e1, hs, rx⟩ := one_sq h rv sm (hg c List.mem_cons_self)
        obtain ⟨_, ws2, e2, hs2, rx2⟩ := one_sq k rv2 sm (hg c2 (by simp))
        cases e1
        cases e2
        rw [zipL_len] at hi
        obtain ⟨v, hv, _⟩ := rx.get (List.getElem?_eq_getElem (show i < xs.length by omega))
        obtain ⟨v2, hv2, _⟩ := rx2.get (List.getElem?_eq_getElem (show i < ys.length by omega))
        exact ⟨ws, ws2, v, v2, hs, hs2, hv, hv2⟩
  stop := fun ω α H M i rv sm hg hi he => by
    cases rv with
    | cons rv rr =>
      cases rr with
      | cons rv2 _ =>
        obtain ⟨_, ws, e1, hs, rx⟩ := one_sq h rv sm (hg c List.mem_cons_self)
        obtain ⟨_, ws2, e2, hs2, rx2⟩ := one_sq k rv2 sm (hg c2 (by simp))
        cases e1
        cases e2
        rw [zipL_len] at hi he
        have l1 := rx.length
        have l2 := rx2.length
        exact ⟨ws, ws2, hs, hs2, by omega, by omega, by omega⟩
  yld := fun ω α H M i x H' rv sm hg y d' hd => by
    cases rv with
    | cons rv rr =>
      cases rr with
      | cons rv2 _ =>
        obtain ⟨_, ws, e1, hs, rx⟩ := one_sq h rv sm (hg c List.mem_cons_self)
        obtain ⟨_, ws2, e2, hs2, rx2⟩ := one_sq k rv2 sm (hg c2 (by simp))
        cases e1
        cases e2
        obtain ⟨T, x', y', rfl, hT, rfl, f1, f2⟩ := y
        have hi : i < (zipL xs ys).length := (List.getElem?_eq_some_iff.mp hd).1
        rw [zipL_len] at hi
        obtain ⟨v, hv, q⟩ := rx.get (List.getElem?_eq_getElem (show i < xs.length by omega))
        obtain ⟨v2, hv2, q2⟩ := rx2.get (List.getElem?_eq_getElem (show i < ys.length by omega))
        have t1 := (f1 ws hs).symm.trans hv
        have t2 := (f2 ws2 hs2).symm.trans hv2
        cases t1
        cases t2
        rw [zipL_get _ _ _ _ _ (List.getElem?_eq_getElem (show i < xs.length by omega)) (List.getElem?_eq_getElem (show i < ys.length by omega))] at hd
        cases hd
        exact ⟨Stp.fresh hT, sm.fresh hT, .tup (.inl ⟨.inl upd_same, sm.notin hT⟩) (.cons (RV.step (Stp.fresh hT) _ _ q) (.cons (RV.step (Stp.fresh hT) _ _ q2) .nil))⟩
end
section
variable {X : Cx} {mg : Str → Option Value} {E : XK} {cf : Nat → List D → Mem → Res D} {elts : List Expr} {kk : Nat} {tpos : Pos}
theorem pi_enm {a : Expr} {ts : Tms} {p pos : Pos} (hg : Gl X "enumerate") (hm : X.mg "enumerate" = none) (ha : PA X [a] (tEs X.K mg E cf ts)) (hs : isStar a = false) : PI X (.Tuple elts kk tpos) (.Call (.Name "enumerate" p) [a] [] pos) (tI X.K mg E cf .enum ts) :=
  pi_imp (pi_enumX hg hm ha (starEach_cons hs)) fun σ H R q => by
  obtain ⟨ω, α, b, ρ, M, s, r, hb, q⟩ := q
  refine ⟨ω, α, b, ρ, M, s, r, hb, q.mono fun ds M1 α1 H1 st sm pr ⟨its, g, e, q⟩ vs rv => ?_⟩
  obtain ⟨d, xs, c, rfl, h1, rfl, rfl⟩ := srcEn e
  cases rv with
  | cons r1 t =>
    cases t
    obtain ⟨a', ws, rfl, hs, rx⟩ := one_sq h1 r1 sm (one_ok h1)
    exact ⟨isTupD d, a', ws, rfl, hs, q _ (.cons r1 .nil) _ (it_enum h1)⟩
theorem pi_zp {a a2 : Expr} {ts : Tms} {p pos : Pos} (hg : Gl X "zip") (hm : X.mg "zip" = none) (ha : PA X [a, a2] (tEs X.K mg E cf ts)) (hs : isStar a = false) (hs2 : isStar a2 = false) : PI X (.Tuple elts kk tpos) (.Call (.Name "zip" p) [a, a2] [] pos) (tI X.K mg E cf .zip2 ts) :=
  pi_imp (pi_zipX hg hm ha (by rw [starEach_cons hs, starEach_cons hs2]) (by rw [starEach_cons hs2]; rfl)) fun σ H R q => by
  obtain ⟨ω, α, b, ρ, M, s, r, hb, q⟩ := q
  refine ⟨ω, α, b, ρ, M, s, r, hb, q.mono fun ds M1 α1 H1 st sm pr ⟨its, g, e, q⟩ vs rv => ?_⟩
  obtain ⟨d, e', xs, ys, c, c2, rfl, h1, h2, rfl, rfl⟩ := srcZ e
  cases rv with
  | cons r1 t =>
    cases t with
    | cons r2 t =>
      cases t
      obtain ⟨a', ws, rfl, hs, rx⟩ := one_sq h1 r1 sm (one_ok h1)
      obtain ⟨a2', ws2, rfl, hs2, rx2⟩ := one_sq h2 r2 sm (one_ok h2)
      exact ⟨isTupD d, isTupD e', a', a2', ws, ws2, rfl, hs, hs2, q _ (.cons r1 (.cons r2 .nil)) _ (it_zip h1 h2)⟩
end

end CP6b
section CP7
variable [TB : Tbs]

/-! ## Comprehensions -/
def tCond (K : PySem.W.Frag) (mg : Str → Option Value) (E : XK) (cf : Nat → List D → Mem → Res D) (cs : Tms) : TT := fun σ H Q => ∃ ω α b ρ M, Sim K ω α H M ∧ RS K ω α H σ ρ ∧ b ≤ M.length ∧
  Post K ω mg E b α H M (evEs cf b cs ρ M) (fun ds _ α' H' => (ds = [] ∧ Q true H') ∨ ∃ c, ds = [.bl c] ∧ Q c H')
section
variable {X : Cx} {mg : Str → Option Value} {E : XK} {cf : Nat → List D → Mem → Res D}
theorem pts_nil' : PTs X [] (tCond X.K mg E cf .nil) := by
  refine ⟨fun pins s σ H Q I q => pts_nil.run pins s σ H Q I ?_⟩
  obtain ⟨ω, α, b, ρ, M, s, r, hb, q⟩ := q
  rcases (show Post X.K ω mg E b α H M (.ok [] M) _ from q).ok s with ⟨_, q⟩ | ⟨c, e, _⟩
  · exact q
  · cases e
theorem pts_one' {e : Expr} {t : Tm} (h : PT X e (tT X.K mg E cf t)) : PTs X [e] (tCond X.K mg E cf (.cons t .nil)) := by
  refine ⟨fun pins s σ H Q I q => (pts_one h).run pins s σ H Q I ?_⟩
  obtain ⟨ω, α, b, ρ, M, s, r, hb, q⟩ := q
  refine ⟨ω, α, b, ρ, M, s, r, hb, (Post.bind (show Post X.K ω mg E b α H M ((evE cf b t ρ M).bind fun d M1 => .ok [d] M1) _ from q)).mono fun d M1 α1 H1 st sm pr ⟨_, _, _, q1⟩ => ?_⟩
  rcases q1.ok sm with ⟨e, _⟩ | ⟨c, e, q2⟩
  · cases e
  · cases e; exact ⟨c, rfl, q2⟩
end
section
variable {K : PySem.W.Frag} {mg : Str → Option Value} {E : XK} {cf : Nat → List D → Mem → Res D}
/-- from a state further on -/
theorem Post.rebase {A : Type} {ω α β : List Addr} {H H1 : Hp} {M M1 : Mem} {b : Nat} {r : Res A} {R : A → Mem → List Addr → Hp → Prop} (p : Post K ω mg E b α H M r R) (st : Stp α H β H1) (pr : Pres b M M1) : Post K ω mg E b β H1 M1 r R := by
  cases r with
  | stuck => exact p
  | ok x M' => exact fun α' H' s t q => p α' H' (st.trans s) t (pr.trans q)
  | exc c M' => exact fun α' H' C s t q => p α' H' C (st.trans s) t (pr.trans q)
/-- a hidden list has changed: what stands for what stays -/
theorem RV.updHid {ω α : List Addr} {H : Hp} {p : Addr} {xs ys : List V} (hp : H p = some (.lst xs)) (hw : p ∈ ω) (hn : p ∉ α) {d : D} {v : V} (h : RV K ω α H v d) : RV K ω α (upd H p (.lst ys)) v d := by
  refine RV.rec (motive_1 := fun v d _ => RV K ω α (upd H p (.lst ys)) v d) (motive_2 := fun vs ds _ => RVs K ω α (upd H p (.lst ys)) vs ds) ?_ ?_ ?_ ?_ ?_ ?_ ?_ ?_ ?_ ?_ h
  · exact .non
  · exact fun b => .bl b
  · exact fun b => .int b
  · exact fun b => .str b
  · intro a xs' ds h _ r
    refine .tup (h.imp (fun q => ⟨?_, q.2⟩) id) r
    rcases q.1 with z | ⟨o, z⟩
    · exact .inl (by rw [upd_ne (fun e => by subst e; rw [hp] at z; cases z)]; exact z)
    · exact .inr ⟨o, by rw [upd_ne (fun e => by subst e; rw [hp] at z; cases z)]; exact z⟩
  · intro a xs' ds h n w _ r
    exact .lst (by rw [upd_ne (fun e => w (by rw [e]; exact hw))]; exact h) n w r
  · intro a xs' ds h _ r
    refine .fix (h.imp (fun q => ⟨⟨?_, q.1.2⟩, q.2⟩) id) r
    rcases q.1.1 with z | ⟨o, z⟩
    · exact .inl (by rw [upd_ne (fun e => q.2 (by rw [e]; exact hw))]; exact z)
    · exact .inr ⟨o, by rw [upd_ne (fun e => q.2 (by rw [e]; exact hw))]; exact z⟩
  · exact fun h => .ref h
  · exact .nil
  · exact fun _ _ h r => .cons h r
theorem RVs.updHid {ω α : List Addr} {H : Hp} {p : Addr} {xs ys : List V} (hp : H p = some (.lst xs)) (hw : p ∈ ω) (hn : p ∉ α) : ∀ {ds : List D} {vs : List V}, RVs K ω α H vs ds → RVs K ω α (upd H p (.lst ys)) vs ds
  | _, _, .nil => .nil
  | _, _, .cons h r => .cons (h.updHid hp hw hn) (r.updHid hp hw hn)
theorem Sim.updHid {ω α : List Addr} {H : Hp} {M : Mem} {p : Addr} {xs ys : List V} (hp : H p = some (.lst xs)) (hw : p ∈ ω) (s : Sim K ω α H M) : Sim K ω α (upd H p (.lst ys)) M := by
  have hn := (s.hid p hw).1
  refine ⟨s.len, s.nd, fun a m => ⟨(s.hid a m).1, ?_⟩, fun n a c e1 e2 => ?_, tabs_upd s.tab hp (fun ps z => by cases z) no_code_lst⟩
  · by_cases e : a = p
    · exact ⟨_, by rw [e]; exact upd_same, fun ps z => by cases z⟩
    · rw [upd_ne e]; exact (s.hid a m).2
  · have q := s.cell n a c e1 e2
    have na : a ≠ p := fun e => hn (by rw [← e]; exact List.mem_of_getElem? e1)
    cases c with
    | lst ds => obtain ⟨zs, e, r⟩ := q; exact ⟨zs, by rw [upd_ne na]; exact e, r.updHid hp hw hn⟩
    | dct ds => obtain ⟨zs, e, r⟩ := q; exact ⟨zs, by rw [upd_ne na]; exact e, Paired.mapP r fun _ _ h => ⟨h.1, h.2.1.updHid hp hw hn, h.2.2.updHid hp hw hn⟩⟩
/-- a hidden list becomes a cell -/
theorem RV.open {ω α : List Addr} {H : Hp} {p : Addr} {xs : List V} (hp : H p = some (.lst xs)) {d : D} {v : V} (h : RV K (p :: ω) α H v d) : RV K ω (α ++ [p]) H v d := by
  refine RV.rec (motive_1 := fun v d _ => RV K ω (α ++ [p]) H v d) (motive_2 := fun vs ds _ => RVs K ω (α ++ [p]) H vs ds) ?_ ?_ ?_ ?_ ?_ ?_ ?_ ?_ ?_ ?_ h
  · exact .non
  · exact fun b => .bl b
  · exact fun b => .int b
  · exact fun b => .str b
  · intro a xs' ds h _ r
    refine .tup (h.imp (fun q => ⟨q.1, fun m => ?_⟩) id) r
    rcases List.mem_append.mp m with m | m
    · exact q.2 m
    · have e := List.mem_singleton.mp m
      subst e
      rcases q.1 with z | ⟨o, z⟩ <;> (rw [hp] at z; cases z)
  · intro a xs' ds h n w _ r
    exact .lst h (fun m => by
      rcases List.mem_append.mp m with m | m
      · exact n m
      · exact w (by rw [List.mem_singleton.mp m]; exact List.mem_cons_self)) (fun m => w (List.mem_cons_of_mem _ m)) r
  · intro a xs' ds h _ r
    refine .fix (h.imp (fun q => ⟨⟨q.1.1, fun m => ?_⟩, fun m => q.2 (List.mem_cons_of_mem _ m)⟩) id) r
    rcases List.mem_append.mp m with m | m
    · exact q.1.2 m
    · exact q.2 (by rw [List.mem_singleton.mp m]; exact List.mem_cons_self)
  · intro a n h
    exact .ref (by rw [List.getElem?_append_left (List.getElem?_eq_some_iff.mp h).1]; exact h)
  · exact .nil
  · exact fun _ _ h r => .cons h r
theorem RVs.open {ω α : List Addr} {H : Hp} {p : Addr} {xs : List V} (hp : H p = some (.lst xs)) : ∀ {ds : List D} {vs : List V}, RVs K (p :: ω) α H vs ds → RVs K ω (α ++ [p]) H vs ds
  | _, _, .nil => .nil
  | _, _, .cons h r => .cons (h.open hp) (r.open hp)
theorem Sim.open {ω α : List Addr} {H : Hp} {M : Mem} {p : Addr} {xs : List V} {ds : List D} (hp : H p = some (.lst xs)) (s : Sim K (p :: ω) α H M) (hw : p ∉ ω) (r : RVs K (p :: ω) α H xs ds) : Sim K ω (α ++ [p]) H (M ++ [.lst ds]) := by
  have hn := (s.hid p List.mem_cons_self).1
  refine ⟨by rw [List.length_append, List.length_append, s.len]; rfl, ?_, fun a m => ⟨fun z => ?_, (s.hid a (List.mem_cons_of_mem _ m)).2⟩, fun n a c e1 e2 => ?_, s.tab⟩
  · rw [List.nodup_append]
    exact ⟨s.nd, by simp, fun a ha c hc e => by rw [List.mem_singleton.mp hc] at e; exact hn (e ▸ ha)⟩
  · rcases List.mem_append.mp z with z | z
    · exact (s.hid a (List.mem_cons_of_mem _ m)).1 z
    · exact hw (by rw [← List.mem_singleton.mp z]; exact m)
  · by_cases hl : n < α.length
    · rw [List.getElem?_append_left hl] at e1
      rw [List.getElem?_append_left (by rw [← s.len]; exact hl)] at e2
      have q := s.cell n a c e1 e2
      cases c with
      | lst es => obtain ⟨ys, e, q⟩ := q; exact ⟨ys, e, q.open hp⟩
      | dct es => obtain ⟨ys, e, q⟩ := q; exact ⟨ys, e, Paired.mapP q fun _ _ h => ⟨h.1, h.2.1.open hp, h.2.2.open hp⟩⟩
    · rw [List.getElem?_append_right (by omega)] at e1
      rw [List.getElem?_append_right (by rw [← s.len]; omega)] at e2
      rw [s.len] at e1
      cases hk : n - M.length with
      | zero =>
        rw [hk] at e1 e2
        simp at e1 e2
        subst e1 e2
        exact ⟨xs, hp, r.open hp⟩
      | succ k => rw [hk] at e1; simp at e1
end
/-- a comprehension's turn -/
noncomputable def cStep (cf : Nat → List D → Mem → Res D) (b : Nat) (pt : Pat) (own : List Nat) (cond : Tms) (elt : Tm) (ρ : Env) (d : D) (M2 : Mem) : Res (Option D) :=
  match bindP pt d (wipeE ρ own) with
  | some ρ' => (evEs cf b cond ρ' M2).bind fun cs M3 => match cs with
    | [.bl false] => .ok none M3
    | [.bl true] => (evE cf b elt ρ' M3).bind fun v M4 => .ok (some v) M4
    | [] => (evE cf b elt ρ' M3).bind fun v M4 => .ok (some v) M4
    | _ => .stuck
  | none => .stuck
theorem evE_comp (cf : Nat → List D → Mem → Res D) (b : Nat) (m : Bool) (own : List Nat) (pt : Pat) (k : Src) (ts cond : Tms) (elt : Tm) (ρ : Env) (M : Mem) :
    evE cf b (.comp m own pt k ts cond elt) ρ M = (evEs cf b ts ρ M).bind fun ds M1 => match srcE k ds M1 with
      | some (its, g) => if its.length ≤ lim then (compL g (cStep cf b pt own cond elt ρ) its M1).nox.bind fun vs M5 => mkL m vs M5 else .stuck
      | none => .stuck := rfl
theorem nox_bind {A : Type} (x : Res (List D)) (o : List D) (f : List D → Mem → Res A) : ((x.bind fun r M2 => .ok (o ++ r) M2).nox.bind f) = x.nox.bind fun r M2 => f (o ++ r) M2 := by
  cases x <;> rfl
section
variable {K : PySem.W.Frag} {mg : Str → Option Value} {E : XK} {cf : Nat → List D → Mem → Res D}
theorem comp_lc {m : Bool} {own : List Nat} {pt : Pat} {k : Src} {ts cond : Tms} {elt : Tm} {σ : L2.St} {H : Hp} {Q : VK} (hown : ∀ i, i ∈ pt.slots → i ∈ own) (h : tE K mg E cf (.comp m own pt k ts cond elt) σ H Q) :
    tLc (tI K mg E cf k ts) (gP K pt) (tCond K mg (fun _ _ _ => False) cf cond) (tE K mg (fun _ _ _ => False) cf elt) own σ H Q := by
  obtain ⟨ω, α, b, ρ, M, s, r, hb, q⟩ := h
  rw [evE_comp] at q
  refine ⟨ω, α, b, ρ, M, s, r, hb, (Post.bind q).mono fun ds M1 α1 H1 st1 sm1 pr1 ⟨_, _, _, q⟩ => ?_⟩
  cases hsrc : srcE k ds M1 with
  | none => rw [hsrc] at q; exact q.elim
  | some p =>
    obtain ⟨its, g⟩ := p
    rw [hsrc] at q
    obtain ⟨hlim, q⟩ := post_if q
    refine ⟨its, g, rfl, fun vs rvs J ok D hD => ?_⟩
    have hwD : D ∉ ω := sm1.hidN hD
    refine ⟨fun i mm Hc => mm = its.length - i ∧ i ≤ its.length ∧ ∃ α' M' vs' accs, Stp α1 H1 α' Hc ∧ Sim K (D :: ω) α' Hc M' ∧ Pres b M1 M' ∧ Hc D = some (.lst vs') ∧ RVs K (D :: ω) α' Hc vs' accs ∧ accs.length ≤ i ∧
      RVs K (D :: ω) α' Hc vs ds ∧ RS K (D :: ω) α' Hc σ ρ ∧
      Post K ω mg E b α1 H1 M1 ((compL g (cStep cf b pt own cond elt ρ) (its.drop i) M').nox.bind fun r M5 => mkL m (accs ++ r) M5) (fun d _ α' H' => ∀ v, RV K ω α' H' v d → Q v H'), ?_, ?_⟩
    · refine ⟨its.length, by simp, Nat.zero_le _, α1, M1, [], [], ?_, sm1.hide hD, Pres.refl _ _, upd_same, .nil, Nat.le_refl _, ?_, ?_, ?_⟩
      · exact Stp.fresh hD
      · have := rvs.hide hD
        exact RVs.step (Stp.fresh hD) _ _ this
      · exact (r.step st1).hide hD
      · simpa using q
    · rintro i mm Hc ⟨rfl, hi, α', M', vs', accs, st, sm, pr, hDc, racc, hal, rvs', rs', q⟩
      have hnD : D ∉ α' := (sm.hid D List.mem_cons_self).1
      by_cases hlt : i < its.length
      · -- a turn
        have hd : its[i]? = some its[i] := List.getElem?_eq_getElem hlt
        have hdrop : its.drop i = its[i] :: its.drop (i + 1) := List.drop_eq_getElem_cons hlt
        rw [hdrop] at q
        have hg : (∀ x, x ∈ g → Grd.ok x M') := by
          by_cases hg : (∀ x, x ∈ g → Grd.ok x M')
          · exact hg
          · simp only [compL] at q
            rw [if_neg hg] at q
            exact q.elim
        simp only [compL] at q
        rw [if_pos hg] at q
        refine .inr ⟨ok.go _ _ _ _ _ rvs' sm hg hlt, fun H' => ∃ α' M' vs' accs, Stp α1 H1 α' H' ∧ Sim K (D :: ω) α' H' M' ∧ Pres b M1 M' ∧ H' D = some (.lst vs') ∧ RVs K (D :: ω) α' H' vs' accs ∧ accs.length ≤ i + 1 ∧
          RVs K (D :: ω) α' H' vs ds ∧ RS K (D :: ω) α' H' σ ρ ∧
          Post K ω mg E b α1 H1 M1 ((compL g (cStep cf b pt own cond elt ρ) (its.drop (i + 1)) M').nox.bind fun r M5 => mkL m (accs ++ r) M5) (fun d _ α' H' => ∀ v, RV K ω α' H' v d → Q v H'),
          fun H' w => ⟨its.length - (i + 1), by omega, rfl, hlt, w⟩, fun x H2 y => ?_⟩
        obtain ⟨st2, sm2, rx⟩ := ok.yld _ _ _ _ _ _ _ rvs' sm hg y _ hd
        cases hst : cStep cf b pt own cond elt ρ its[i] M' with
        | stuck => rw [hst] at q; exact q.elim
        | exc c M2 => rw [hst] at q; exact q.elim
        | ok o M4 =>
          rw [hst, Res.bind_ok, nox_bind] at q
          unfold cStep at hst
          cases hbind : bindP pt its[i] (wipeE ρ own) with
          | none => rw [hbind] at hst; cases hst
          | some ρ' =>
            rw [hbind] at hst
            refine ⟨D :: ω, α', its[i], wipeE ρ own, ρ', rx, (rs'.step st2).wipe own, hbind, fun σ' rσ' sb => ⟨?_, ?_⟩⟩
            · rw [sb own hown, wipe_wipe]
            · cases hcs : evEs cf b cond ρ' M' with
              | stuck => simp only [hcs, Res.bind_stuck] at hst; cases hst
              | exc c M2 => simp only [hcs, Res.bind_exc] at hst; cases hst
              | ok cs M3 =>
                simp only [hcs, Res.bind_ok] at hst
                refine ⟨D :: ω, α', b, ρ', M', sm2, rσ', Nat.le_trans (Nat.le_trans hb pr1.len) pr.len, ?_⟩
                rw [hcs]
                intro α3 H3 st3 sm3 pr3
                have stc : Stp α1 H1 α3 H3 := st.trans (st2.trans st3)
                have prc : Pres b M1 M3 := pr.trans pr3
                have hD3 : H3 D = some (.lst vs') := (st2.trans st3).old D _ hDc hnD
                -- the element
                have elt_ok : (evE cf b elt ρ' M3).bind (fun v M4 => .ok (some v) M4) = .ok o M4 → (fun (bb : Bool) (H3 : Hp) => if bb = true then tE K mg (fun _ _ _ => False) cf elt σ' H3 fun y H4 => ∃ acc, H4 D = some (.lst acc) ∧ acc.length < sizeLine ∧
                    (fun H' => ∃ α' M' vs' accs, Stp α1 H1 α' H' ∧ Sim K (D :: ω) α' H' M' ∧ Pres b M1 M' ∧ H' D = some (.lst vs') ∧ RVs K (D :: ω) α' H' vs' accs ∧ accs.length ≤ i + 1 ∧
          RVs K (D :: ω) α' H' vs ds ∧ RS K (D :: ω) α' H' σ ρ ∧
          Post K ω mg E b α1 H1 M1 ((compL g (cStep cf b pt own cond elt ρ) (its.drop (i + 1)) M').nox.bind fun r M5 => mkL m (accs ++ r) M5) (fun d _ α' H' => ∀ v, RV K ω α' H' v d → Q v H')) (upd H4 D (.lst (acc ++ [y]))) else
                    (fun H' => ∃ α' M' vs' accs, Stp α1 H1 α' H' ∧ Sim K (D :: ω) α' H' M' ∧ Pres b M1 M' ∧ H' D = some (.lst vs') ∧ RVs K (D :: ω) α' H' vs' accs ∧ accs.length ≤ i + 1 ∧
          RVs K (D :: ω) α' H' vs ds ∧ RS K (D :: ω) α' H' σ ρ ∧
          Post K ω mg E b α1 H1 M1 ((compL g (cStep cf b pt own cond elt ρ) (its.drop (i + 1)) M').nox.bind fun r M5 => mkL m (accs ++ r) M5) (fun d _ α' H' => ∀ v, RV K ω α' H' v d → Q v H')) H3) true H3 := by
                  intro he
                  show if true = true then _ else _
                  rw [if_pos rfl]
                  refine ⟨D :: ω, α3, b, ρ', M3, sm3, rσ'.step st3, Nat.le_trans (Nat.le_trans hb pr1.len) prc.len, ?_⟩
                  cases hev : evE cf b elt ρ' M3 with
                  | stuck => rw [hev] at he; cases he
                  | exc c M2 => rw [hev] at he; cases he
                  | ok v M5 =>
                    rw [hev, Res.bind_ok] at he
                    cases he
                    intro α4 H4 st4 sm4 pr4 y ry
                    have hn3 : D ∉ α3 := (sm3.hid D List.mem_cons_self).1
                    have hn4 : D ∉ α4 := (sm4.hid D List.mem_cons_self).1
                    have hD4 : H4 D = some (.lst vs') := st4.old D _ hD3 hn3
                    have racc4 : RVs K (D :: ω) α4 H4 vs' accs := RVs.step (st2.trans (st3.trans st4)) _ _ racc
                    have stall : Stp α1 H1 α4 H4 := stc.trans st4
                    refine ⟨vs', hD4, ?_, α4, _, vs' ++ [y], accs ++ [v], ?_, sm4.updHid hD4 List.mem_cons_self, prc.trans pr4, upd_same, ?_, ?_, ?_, ?_, ?_⟩
                    · rw [racc.length]; show accs.length < lim; omega
                    · refine ⟨stall.pre, fun a o e n nt => ?_, stall.new⟩
                      rw [upd_ne (fun z => by subst z; rw [hD] at e; cases e)]
                      exact stall.kept a o e n nt
                    · exact (racc4.append (.cons ry .nil)).updHid hD4 List.mem_cons_self hn4
                    · rw [List.length_append]; simp; omega
                    · exact (RVs.step (st2.trans (st3.trans st4)) _ _ rvs').updHid hD4 List.mem_cons_self hn4
                    · obtain ⟨l, rr⟩ := rs'.step (st2.trans (st3.trans st4))
                      exact ⟨l, fun j e hj => by obtain ⟨x, e1, qx⟩ := rr j e hj; exact ⟨x, e1, qx.updHid hD4 List.mem_cons_self hn4⟩⟩
                    · simpa [List.append_assoc] using q
                cases cs with
                | nil => exact .inl ⟨rfl, elt_ok hst⟩
                | cons c0 cr =>
                  cases cr with
                  | cons _ _ =>
                    cases c0 with
                    | bl bb => cases bb <;> cases hst
                    | _ => cases hst
                  | nil =>
                    cases c0 with
                    | bl c =>
                      cases c with
                      | true => exact .inr ⟨true, rfl, elt_ok hst⟩
                      | false =>
                        cases hst
                        refine .inr ⟨false, rfl, ?_⟩
                        show if false = true then _ else _
                        rw [if_neg Bool.false_ne_true]
                        refine ⟨α3, _, vs', accs, stc, sm3, prc, hD3, RVs.step (st2.trans st3) _ _ racc, by omega, RVs.step (st2.trans st3) _ _ rvs', rs'.step (st2.trans st3), ?_⟩
                        simpa using q
                    | _ => cases hst
      · -- the end
        have e : i = its.length := by omega
        subst e
        rw [List.drop_length] at q
        have hg : (∀ x, x ∈ g → Grd.ok x M') := by
          by_cases hg : (∀ x, x ∈ g → Grd.ok x M')
          · exact hg
          · simp only [compL] at q
            rw [if_neg hg] at q
            exact q.elim
        simp only [compL] at q
        rw [if_pos hg] at q
        refine .inl ⟨ok.stop _ _ _ _ _ rvs' sm hg (Nat.le_refl _) (Nat.le_refl _), ?_⟩
        simp only [Res.nox_ok, Res.bind_ok, List.append_nil] at q
        obtain ⟨hl, q⟩ := post_if q
        have wk : ∀ a, a ∈ ω → a ∈ D :: ω := fun a h => List.mem_cons_of_mem _ h
        cases m with
        | false => exact q α' Hc st (sm.weak wk) pr _ (.lst hDc hnD hwD (racc.weak wk))
        | true =>
          refine q (α' ++ [D]) Hc ⟨st.pre.trans (List.prefix_append _ _), st.kept, fun a ma na => ?_⟩ (sm.open hDc hwD racc) (pr.trans (Pres.grow _ _ _ (Nat.le_trans (Nat.le_trans hb pr1.len) pr.len))) _ (.ref ?_)
          · rcases List.mem_append.mp ma with ma | ma
            · exact st.new a ma na
            · rw [List.mem_singleton.mp ma]; intro o _ e; rw [hD] at e; cases e
          · rw [List.getElem?_append_right (by rw [sm.len]; exact Nat.le_refl _), sm.len, Nat.sub_self]; rfl
end

end CP7
section CP8
variable [TB : Tbs]

theorem boot_abs' : bootBuiltins "abs" = some (.builtin "abs") := by decide +kernel
theorem boot_all' : bootBuiltins "all" = some (.builtin "all") := by decide +kernel
theorem boot_any' : bootBuiltins "any" = some (.builtin "any") := by decide +kernel
theorem boot_min' : bootBuiltins "min" = some (.builtin "min") := by decide +kernel
theorem boot_max' : bootBuiltins "max" = some (.builtin "max") := by decide +kernel
theorem boot_sum' : bootBuiltins "sum" = some (.builtin "sum") := by decide +kernel
theorem boot_isi' : bootBuiltins "isinstance" = some (.builtin "isinstance") := by decide +kernel
theorem boot_int' : bootBuiltins "int" = some (.type "int") := by decide +kernel
theorem boot_bool' : bootBuiltins "bool" = some (.type "bool") := by decide +kernel
theorem boot_str' : bootBuiltins "str" = some (.type "str") := by decide +kernel
theorem boot_list' : bootBuiltins "list" = some (.type "list") := by decide +kernel
theorem boot_tuple' : bootBuiltins "tuple" = some (.type "tuple") := by decide +kernel

section
variable {P : Par} {fns : List Fn} {n : Nat} {E : XK} {N : List Str} {sc : Scope} {X : Cx}
theorem hu64 (g : Good P fns n E N sc X) : X.A.units + 64 < cLine := g.room.units
theorem hu65 (g : Good P fns n E N sc X) : X.A.units + 65 < cLine := by have := g.room.un; omega
theorem op_ok {op : Operator} {p : Prim} {mg : Str → Option Value} {E' : XK} (h : opOf op = some p) : OpR X (binaryOp op) (fun x y => Ap X.K mg E' p [x, y]) := by
  cases op <;> cases h
  · exact ap_add
  · exact ap_sub
  · exact ap_mul
  · exact ap_mod
  · exact ap_pow
  · exact ap_fdiv
theorem cmp_ok (g : Good P fns n E N sc X) {op : CmpOp} {p : Prim} {mg : Str → Option Value} {E' : XK} (h : cmpOf op = some p) : OpR X (compareOp op) (fun x y => Ap X.K mg E' p [x, y]) := by
  cases op <;> cases h
  · exact ap_eq (hu64 g)
  · exact ap_ne (hu64 g)
  · exact ap_lt
  · exact ap_le
  · exact ap_gt
  · exact ap_ge
  · exact ap_is
  · exact ap_isnot
  · exact ap_isin (hu65 g)
  · exact ap_notin (hu65 g)
theorem noset_mark {op : CmpOp} {b : Expr} (h : noSet b = true) : behindInMarks op b = false := by
  cases b <;> first | rfl | cases h
end
/-! ## Rows of expressions -/
inductive EsOk (X : Cx) (mg : Str → Option Value) (E : XK) (cf : Nat → List D → Mem → Res D) : List Expr → List Tm → Prop where
  | nil : EsOk X mg E cf [] []
  | cons {e : Expr} {t : Tm} {es : List Expr} {ts : List Tm} : isStar e = false → PE X e (tE X.K mg E cf t) → PT X e (tT X.K mg E cf t) → EsOk X mg E cf es ts → EsOk X mg E cf (e :: es) (t :: ts)
section
variable {X : Cx} {mg : Str → Option Value} {E : XK} {cf : Nat → List D → Mem → Res D}
theorem EsOk.pa : ∀ {es : List Expr} {ts : List Tm}, EsOk X mg E cf es ts → PA X es (tEs X.K mg E cf (toTms ts))
  | _, _, .nil => pa_imp pa_nil fun σ H Q q => nil_args q
  | _, _, .cons hs h _ r => pa_imp (pa_cons h r.pa (starEach_cons hs)) fun σ H Q q => cons_args q
theorem EsOk.stars : ∀ {es : List Expr} {ts : List Tm}, EsOk X mg E cf es ts → es.all (fun e => !isStar e) = true
  | _, _, .nil => rfl
  | _, _, .cons hs _ _ r => by rw [List.all_cons, hs, r.stars]; rfl
theorem EsOk.len : ∀ {es : List Expr} {ts : List Tm}, EsOk X mg E cf es ts → es.length = ts.length
  | _, _, .nil => rfl
  | _, _, .cons hs _ _ r => by rw [List.length_cons, List.length_cons, r.len]
theorem and_val {s t : Tm} {σ : L2.St} {H : Hp} {Q : VK} {K : PySem.W.Frag} (h : tE K mg E cf (.and s t) σ H Q) : tE K mg E cf s σ H fun x H1 => ∃ c, x = .bl c ∧ if c = true then tE K mg E cf t σ H1 Q else Q (.bl false) H1 := by
  obtain ⟨ω, α, b, ρ, M, sm, r, hb, q⟩ := h
  refine ⟨ω, α, b, ρ, M, sm, r, hb, (Post.bind (show Post K ω mg E b α H M ((evE cf b s ρ M).bind _) _ from q)).mono fun d M1 α1 H1 st sm1 pr ⟨_, _, _, q⟩ v rv => ?_⟩
  split at q
  · refine ⟨true, rv_bl rv, ?_⟩
    rw [if_pos rfl]
    exact ⟨ω, α1, b, ρ, M1, sm1, r.step st, Nat.le_trans hb pr.len, q⟩
  · refine ⟨false, rv_bl rv, ?_⟩
    rw [if_neg Bool.false_ne_true]
    exact q.ok sm1 _ (.bl false)
  · exact q.elim
theorem or_val {s t : Tm} {σ : L2.St} {H : Hp} {Q : VK} {K : PySem.W.Frag} (h : tE K mg E cf (.or s t) σ H Q) : tE K mg E cf s σ H fun x H1 => ∃ c, x = .bl c ∧ if c = true then Q (.bl true) H1 else tE K mg E cf t σ H1 Q := by
  obtain ⟨ω, α, b, ρ, M, sm, r, hb, q⟩ := h
  refine ⟨ω, α, b, ρ, M, sm, r, hb, (Post.bind (show Post K ω mg E b α H M ((evE cf b s ρ M).bind _) _ from q)).mono fun d M1 α1 H1 st sm1 pr ⟨_, _, _, q⟩ v rv => ?_⟩
  split at q
  · refine ⟨true, rv_bl rv, ?_⟩
    rw [if_pos rfl]
    exact q.ok sm1 _ (.bl true)
  · refine ⟨false, rv_bl rv, ?_⟩
    rw [if_neg Bool.false_ne_true]
    exact ⟨ω, α1, b, ρ, M1, sm1, r.step st, Nat.le_trans hb pr.len, q⟩
  · exact q.elim
theorem and_test {s t : Tm} {σ : L2.St} {H : Hp} {Q : Bool → Hp → Prop} {K : PySem.W.Frag} (h : tT K mg E cf (.and s t) σ H Q) : tT K mg E cf s σ H fun c H1 => if c = true then tT K mg E cf t σ H1 Q else Q false H1 := by
  obtain ⟨ω, α, b, ρ, M, sm, r, hb, q⟩ := h
  refine ⟨ω, α, b, ρ, M, sm, r, hb, (Post.bind (show Post K ω mg E b α H M ((evE cf b s ρ M).bind _) _ from q)).mono fun d M1 α1 H1 st sm1 pr ⟨_, _, _, q⟩ => ?_⟩
  split at q
  · refine ⟨true, rfl, iteT ?_⟩
    exact ⟨ω, α1, b, ρ, M1, sm1, r.step st, Nat.le_trans hb pr.len, q⟩
  · refine ⟨false, rfl, iteF ?_⟩
    obtain ⟨c, e, q⟩ := q.ok sm1
    cases e
    exact q
  · exact q.elim
theorem or_test {s t : Tm} {σ : L2.St} {H : Hp} {Q : Bool → Hp → Prop} {K : PySem.W.Frag} (h : tT K mg E cf (.or s t) σ H Q) : tT K mg E cf s σ H fun c H1 => if c = true then Q true H1 else tT K mg E cf t σ H1 Q := by
  obtain ⟨ω, α, b, ρ, M, sm, r, hb, q⟩ := h
  refine ⟨ω, α, b, ρ, M, sm, r, hb, (Post.bind (show Post K ω mg E b α H M ((evE cf b s ρ M).bind _) _ from q)).mono fun d M1 α1 H1 st sm1 pr ⟨_, _, _, q⟩ => ?_⟩
  split at q
  · refine ⟨true, rfl, iteT ?_⟩
    obtain ⟨c, e, q⟩ := q.ok sm1
    cases e
    exact q
  · refine ⟨false, rfl, iteF ?_⟩
    exact ⟨ω, α1, b, ρ, M1, sm1, r.step st, Nat.le_trans hb pr.len, q⟩
  · exact q.elim
theorem bool_and {pos : Pos} : ∀ {es : List Expr} {ts : List Tm} {tm : Tm}, EsOk X mg E cf es ts → cBool true ts = some tm → PE X (.BoolOp .And es pos) (tE X.K mg E cf tm) ∧ PW X (.BoolOp .And es pos) (tT X.K mg E cf tm)
  | _, _, _, .nil, h => by cases h
  | _, _, _, .cons hs h1 h2 .nil, h => by cases h; exact ⟨pe_one h1, pw_and1 h2⟩
  | _, _, tm, .cons hs h1 h2 (.cons hs' h1' h2' r), h => by
    simp only [cBool, Option.map_eq_some_iff] at h
    obtain ⟨u, h, rfl⟩ := h
    obtain ⟨i1, i2⟩ := bool_and (pos := pos) (.cons hs' h1' h2' r) (by simpa only [cBool, Option.map_eq_some_iff] using h)
    exact ⟨pe_imp (pe_and h1 i1) fun σ H Q q => and_val q, pw_imp (pw_and h2 i2) fun σ H Q q => and_test q⟩
theorem bool_or {pos : Pos} : ∀ {es : List Expr} {ts : List Tm} {tm : Tm}, EsOk X mg E cf es ts → cBool false ts = some tm → PE X (.BoolOp .Or es pos) (tE X.K mg E cf tm) ∧ PW X (.BoolOp .Or es pos) (tT X.K mg E cf tm)
  | _, _, _, .nil, h => by cases h
  | _, _, _, .cons hs h1 h2 .nil, h => by cases h; exact ⟨pe_one h1, pw_or1 h2⟩
  | _, _, tm, .cons hs h1 h2 (.cons hs' h1' h2' r), h => by
    simp only [cBool, Option.map_eq_some_iff] at h
    obtain ⟨u, h, rfl⟩ := h
    obtain ⟨i1, i2⟩ := bool_or (pos := pos) (.cons hs' h1' h2' r) (by simpa only [cBool, Option.map_eq_some_iff] using h)
    exact ⟨pe_imp (pe_or h1 i1) fun σ H Q q => or_val q, pw_imp (pw_or h2 i2) fun σ H Q q => or_test q⟩
/-! ## Calls -/
theorem blt_len {f : Str} {n : Nat} {m : Bool} {p : Prim} (h : bltOf f n m = some p) : n = 1 ∨ n = 2 := by
  unfold bltOf at h
  by_cases h1 : n = 1
  · exact .inl h1
  · by_cases h2 : n = 2
    · exact .inr h2
    · exfalso
      unfold bltOf2 at h
      simp only [h1, h2, and_false, if_false] at h
      cases h
theorem blt_ok {P : Par} {fns : List Fn} {n : Nat} {E' : XK} {N : List Str} {sc : Scope} (g : Good P fns n E' N sc X) {f : Str} {m : Bool} {p : Prim} {args : List Expr} {ts : List Tm} {po pos : Pos} (hf : isGl sc f = true) (hb : P.blt.contains f = true) (h : bltOf f args.length m = some p)
    (a : EsOk X mg E cf args ts) : PE X (.Call (.Name f po) args [] pos) (tE X.K mg E cf (.prim p (toTms ts))) := by
  have hg : Gl X f := by unfold Gl; show X.env.scope.names.lookup f = _; rw [g.hsc]; exact isGl_gl hf
  have hm := g.blt f hb
  have key : ∀ e es, args = e :: es → starEach (e :: es) X.env = (false, eval e X.env) :: starEach es X.env ∧ (backTo pos (starEach es X.env)).any (·.1) = false := fun e es ha => by
    subst ha
    have := a.stars
    simp only [List.all_cons, Bool.and_eq_true, Bool.not_eq_true'] at this
    exact ⟨starEach_cons this.1, stars_any this.2⟩
  unfold bltOf at h
  cases args with
  | nil => exact absurd (blt_len (show bltOf f 0 m = some p from h)) (by decide)
  | cons e es =>
    obtain ⟨k1, k2⟩ := key e es rfl
    have pa := a.pa
    split at h
    · rename_i hc; obtain ⟨rfl, _⟩ := hc; cases h
      exact pe_imp (pe_callB ap_len hg hm boot_len pa (by decide) (by decide) k1 k2) fun σ H Q q => prim_args q
    split at h
    · rename_i hc; obtain ⟨rfl, _⟩ := hc; cases h
      exact pe_imp (pe_callB ap_abs hg hm boot_abs' pa (by decide) (by decide) k1 k2) fun σ H Q q => prim_args q
    split at h
    · rename_i hc; obtain ⟨rfl, _⟩ := hc; cases h
      exact pe_imp (pe_callTy ap_int1 hg hm boot_int' pa (by decide) (by decide) k1 k2) fun σ H Q q => prim_args q
    split at h
    · rename_i hc; obtain ⟨rfl, _⟩ := hc; cases h
      exact pe_imp (pe_callB (ap_all g.calm) hg hm boot_all' pa (by decide) (by decide) k1 k2) fun σ H Q q => prim_args q
    split at h
    · rename_i hc; obtain ⟨rfl, _⟩ := hc; cases h
      exact pe_imp (pe_callB (ap_any g.calm) hg hm boot_any' pa (by decide) (by decide) k1 k2) fun σ H Q q => prim_args q
    split at h
    · rename_i hc; obtain ⟨rfl, _⟩ := hc; cases h
      exact pe_imp (pe_callB (ap_min2 g.calm) hg hm boot_min' pa (by decide) (by decide) k1 k2) fun σ H Q q => prim_args q
    split at h
    · rename_i hc; obtain ⟨rfl, _⟩ := hc; cases h
      exact pe_imp (pe_callB (ap_max2 g.calm) hg hm boot_max' pa (by decide) (by decide) k1 k2) fun σ H Q q => prim_args q
    split at h
    · rename_i hc; obtain ⟨rfl, _⟩ := hc; cases h
      exact pe_imp (pe_callB (ap_sum g.calm) hg hm boot_sum' pa (by decide) (by decide) k1 k2) fun σ H Q q => prim_args q
    split at h
    · rename_i hc; obtain ⟨rfl, _⟩ := hc; cases h
      exact pe_imp (pe_callTy ap_tuple1 hg hm boot_tuple' pa (by decide) (by decide) k1 k2) fun σ H Q q => prim_args q
    split at h
    · rename_i hc; obtain ⟨rfl, _⟩ := hc; cases h
      exact pe_imp (pe_callTy (ap_list1 g.calm) hg hm boot_list' pa (by decide) (by decide) k1 k2) fun σ H Q q => prim_args q
    unfold bltOf2 at h
    split at h
    · rename_i hc; obtain ⟨rfl, _⟩ := hc; cases h
      exact pe_imp (pe_callB (ap_max1 g.calm) hg hm boot_max' pa (by decide) (by decide) k1 k2) fun σ H Q q => prim_args q
    split at h
    · rename_i hc; obtain ⟨rfl, _⟩ := hc; cases h
      exact pe_imp (pe_callB (ap_min1 g.calm) hg hm boot_min' pa (by decide) (by decide) k1 k2) fun σ H Q q => prim_args q
    split at h
    · rename_i hc; obtain ⟨rfl, _⟩ := hc; cases h
      exact pe_imp (pe_callTy ap_str1 hg hm boot_str' pa (by decide) (by decide) k1 k2) fun σ H Q q => prim_args q
    · cases h
theorem meth_args {p : Prim} {o : Tm} {ts : Tms} {σ : L2.St} {H : Hp} {Q : VK} {K : PySem.W.Frag} (h : tE K mg E cf (.meth p o ts) σ H Q) : tE K mg E cf o σ H fun x H1 => tyV K "list" x H1 ∧ tEs K mg E cf ts σ H1 fun xs H2 => Ap K mg E p (x :: xs) H2 Q := by
  obtain ⟨ω, α, b, ρ, M, s, r, hb, q⟩ := h
  refine ⟨ω, α, b, ρ, M, s, r, hb, (Post.bind (show Post K ω mg E b α H M ((evE cf b o ρ M).bind _) _ from q)).mono fun d M1 α1 H1 st sm pr ⟨_, _, _, q⟩ v rv => ?_⟩
  obtain ⟨hl, q⟩ := post_if q
  obtain ⟨xs, hx⟩ := Option.isSome_iff_exists.mp hl
  obtain ⟨a, ws, rfl, ha, _⟩ := rv_look sm rv hx
  refine ⟨.inl ⟨rfl, ws, .of ha⟩, ω, α1, b, ρ, M1, sm, r.step st, Nat.le_trans hb pr.len, (Post.bind q).mono fun ds M2 α2 H2 st2 sm2 pr2 ⟨_, _, _, q⟩ vs rvs => ?_⟩
  exact ⟨ω, α2, b, M2, d :: ds, sm2, Nat.le_trans hb (pr.trans pr2).len, .cons (rv.step st2) rvs, q⟩
theorem meth_ok {m : Str} {p : Prim} {o : Expr} {t : Tm} {args : List Expr} {ts : List Tm} {apos pos : Pos} (hp : plainBase o = true) (hl : (apos.endLine == pos.line) = true) (h : methOf m args.length = some p)
    (ho : PE X o (tE X.K mg E cf t)) (a : EsOk X mg E cf args ts) : PE X (.Call (.Attribute o m apos) args [] pos) (tE X.K mg E cf (.meth p t (toTms ts))) := by
  have hbase := attr_plain (m := m) (env := X.env) (w := eval o X.env) hp
  have key : ∀ e, args = [e] → starEach [e] X.env = (false, eval e X.env) :: starEach [] X.env ∧ ((backTo pos (starEach [e] X.env)).all (fun x => !x.1) && (backToKw pos (keywordEach [] X.env)).all (fun x => x.1.isSome)
      && decide ([e].length + ([] : List Keyword).length + (if ([] : List Keyword).isEmpty then 0 else 1) < 30)) = true := fun e ha => by
    subst ha
    have := a.stars
    simp only [List.all_cons, Bool.and_eq_true, Bool.not_eq_true'] at this
    have h1 := starEach_cons (r := []) (env := X.env) this.1
    exact ⟨h1, by rw [h1]; rfl⟩
  unfold methOf at h
  split at h
  · rename_i hc; obtain ⟨rfl, hn⟩ := hc; cases h
    obtain ⟨e, rfl⟩ : ∃ e, args = [e] := by match args, hn with | [e], _ => exact ⟨e, rfl⟩
    obtain ⟨k1, k2⟩ := key e rfl
    exact pe_imp (pe_bm PySem.F.plainAttrs_list PySem.F.slot_list_append PySem.F.type_list_append ap_append ho a.pa hbase k2 hl k1 rfl) fun σ H Q q => meth_args q
  split at h
  · rename_i hc; obtain ⟨rfl, hn⟩ := hc; cases h
    obtain ⟨e, rfl⟩ : ∃ e, args = [e] := by match args, hn with | [e], _ => exact ⟨e, rfl⟩
    obtain ⟨k1, k2⟩ := key e rfl
    exact pe_imp (pe_bm PySem.F.plainAttrs_list PySem.F.slot_list_extend PySem.F.type_list_extend ap_extend ho a.pa hbase k2 hl k1 rfl) fun σ H Q q => meth_args q
  split at h
  · rename_i hc; obtain ⟨rfl, hn⟩ := hc; cases h
    obtain rfl : args = [] := List.length_eq_zero_iff.mp hn
    refine pe_imp (pe_bm0 PySem.F.plainAttrs_list PySem.F.slot_list_pop PySem.F.type_list_pop (ap_pop0 (mg := mg) (E := E)) ho hbase hl) fun σ H Q q => ?_
    cases a
    exact tE_mono (meth_args q) fun v H' ⟨h1, h2⟩ => ⟨h1, rfl, nil_args h2⟩
  split at h
  · rename_i hc; obtain ⟨rfl, hn⟩ := hc; cases h
    obtain ⟨e, rfl⟩ : ∃ e, args = [e] := by match args, hn with | [e], _ => exact ⟨e, rfl⟩
    obtain ⟨k1, k2⟩ := key e rfl
    exact pe_imp (pe_bm PySem.F.plainAttrs_list PySem.F.slot_list_pop PySem.F.type_list_pop ap_pop1 ho a.pa hbase k2 hl k1 rfl) fun σ H Q q => meth_args q
  split at h
  · rename_i hc; obtain ⟨rfl, hn⟩ := hc; cases h
    obtain rfl : args = [] := List.length_eq_zero_iff.mp hn
    refine pe_imp (pe_bm0 PySem.F.plainAttrs_list PySem.F.slot_list_reverse PySem.F.type_list_reverse (ap_reverse (mg := mg) (E := E)) ho hbase hl) fun σ H Q q => ?_
    cases a
    exact tE_mono (meth_args q) fun v H' ⟨h1, h2⟩ => ⟨h1, rfl, nil_args h2⟩
  split at h
  · rename_i hc; obtain ⟨rfl, hn⟩ := hc; cases h
    obtain ⟨e1, e2, rfl⟩ : ∃ e1 e2, args = [e1, e2] := by match args, hn with | [e1, e2], _ => exact ⟨e1, e2, rfl⟩
    have hs := a.stars
    simp only [List.all_cons, Bool.and_eq_true, Bool.not_eq_true'] at hs
    have h1 := starEach_cons (r := [e2]) (env := X.env) hs.1
    have h2 := starEach_cons (r := []) (env := X.env) hs.2.1
    exact pe_imp (pe_bm PySem.F.plainAttrs_list PySem.F.slot_list_insert PySem.F.type_list_insert ap_insert ho a.pa hbase (by rw [h1, h2]; rfl) hl h1 (by rw [h2]; rfl)) fun σ H Q q => meth_args q
  · cases h
theorem smeth_args {p : Prim} {o : Tm} {ts : Tms} {σ : L2.St} {H : Hp} {Q : VK} {K : PySem.W.Frag} (h : tE K mg E cf (.smeth p o ts) σ H Q) : tE K mg E cf o σ H fun x H1 => tyV K "str" x H1 ∧ tEs K mg E cf ts σ H1 fun xs H2 => Ap K mg E p (x :: xs) H2 Q := by
  obtain ⟨ω, α, b, ρ, M, s, r, hb, q⟩ := h
  refine ⟨ω, α, b, ρ, M, s, r, hb, (Post.bind (show Post K ω mg E b α H M ((evE cf b o ρ M).bind fun d M1 => match d with
    | .str s => (evEs cf b ts ρ M1).bind fun ds M2 => primE b p (.str s :: ds) M2
    | _ => .stuck) _ from q)).mono fun d M1 α1 H1 st sm pr hq v rv => ?_⟩
  clear q
  have q := hq.2.2.2
  clear hq
  split at q
  · rename_i z
    rw [rv_str rv]
    refine ⟨rfl, ω, α1, b, ρ, M1, sm, r.step st, Nat.le_trans hb pr.len, (Post.bind q).mono fun ds M2 α2 H2 st2 sm2 pr2 ⟨_, _, _, q⟩ vs rvs => ?_⟩
    exact ⟨ω, α2, b, M2, .str z :: ds, sm2, Nat.le_trans hb (pr.trans pr2).len, .cons (.str _) rvs, q⟩
  · exact q.elim
theorem smeth_ok {P : Par} {fns : List Fn} {n : Nat} {E' : XK} {N : List Str} {sc : Scope} (g : Good P fns n E' N sc X) {m : Str} {p : Prim} {o : Expr} {t : Tm} {args : List Expr} {ts : List Tm} {apos pos : Pos} (hp : plainBase o = true) (hl : (apos.endLine == pos.line) = true) (h : smethOf m args.length = some p)
    (ho : PE X o (tE X.K mg E cf t)) (a : EsOk X mg E cf args ts) : PE X (.Call (.Attribute o m apos) args [] pos) (tE X.K mg E cf (.smeth p t (toTms ts))) := by
  have hbase := attr_plain (m := m) (env := X.env) (w := eval o X.env) hp
  have key : ∀ e, args = [e] → starEach [e] X.env = (false, eval e X.env) :: starEach [] X.env ∧ ((backTo pos (starEach [e] X.env)).all (fun x => !x.1) && (backToKw pos (keywordEach [] X.env)).all (fun x => x.1.isSome)
      && decide ([e].length + ([] : List Keyword).length + (if ([] : List Keyword).isEmpty then 0 else 1) < 30)) = true := fun e ha => by
    subst ha
    have := a.stars
    simp only [List.all_cons, Bool.and_eq_true, Bool.not_eq_true'] at this
    have h1 := starEach_cons (r := []) (env := X.env) this.1
    exact ⟨h1, by rw [h1]; rfl⟩
  have one : args.length = 1 → ∃ e, args = [e] := fun hn => by match args, hn with | [e], _ => exact ⟨e, rfl⟩
  unfold smethOf at h
  split at h
  · rename_i hc; obtain ⟨rfl, hn⟩ := hc; cases h
    obtain ⟨e, rfl⟩ := one hn
    obtain ⟨k1, k2⟩ := key e rfl
    exact pe_imp (pe_bm PySem.F.plainAttrs_str PySem.F.slot_str_join PySem.F.type_str_join ap_join ho a.pa hbase k2 hl k1 rfl) fun σ H Q q => smeth_args q
  split at h
  · rename_i hc; obtain ⟨rfl, hn⟩ := hc; cases h
    obtain ⟨e, rfl⟩ := one hn
    obtain ⟨k1, k2⟩ := key e rfl
    exact pe_imp (pe_bm PySem.F.plainAttrs_str PySem.F.slot_str_rfind PySem.F.type_str_rfind ap_rfind ho a.pa hbase k2 hl k1 rfl) fun σ H Q q => smeth_args q
  split at h
  · rename_i hc; obtain ⟨rfl, hn⟩ := hc; cases h
    obtain ⟨e, rfl⟩ := one hn
    obtain ⟨k1, k2⟩ := key e rfl
    exact pe_imp (pe_bm PySem.F.plainAttrs_str PySem.F.slot_str_partition PySem.F.type_str_partition ap_part3 ho a.pa hbase k2 hl k1 rfl) fun σ H Q q => smeth_args q
  split at h
  · rename_i hc; obtain ⟨rfl, hn⟩ := hc; cases h
    obtain ⟨e, rfl⟩ := one hn
    obtain ⟨k1, k2⟩ := key e rfl
    exact pe_imp (pe_bmS PySem.F.plainAttrs_str PySem.F.slot_str_index PySem.F.type_str_index (ap_index1 g.calm) ho a.pa hbase k2 hl k1 rfl) fun σ H Q q => smeth_args q
  · cases h
theorem ty_boot : ∀ {x : Str} {t : Ty}, tyOf x = some t → bootBuiltins x = some (.type t.name) ∧ x ≠ "__name__" := by
  intro x t h
  unfold tyOf at h
  split at h
  · rename_i e; subst e; cases h; exact ⟨boot_int', by decide⟩
  split at h
  · rename_i e; subst e; cases h; exact ⟨boot_bool', by decide⟩
  split at h
  · rename_i e; subst e; cases h; exact ⟨boot_tuple', by decide⟩
  split at h
  · rename_i e; subst e; cases h; exact ⟨boot_list', by decide⟩
  split at h
  · rename_i e; subst e; cases h; exact ⟨boot_str', by decide⟩
  · cases h
theorem isi_ok {P : Par} {fns : List Fn} {n : Nat} {E' : XK} {N : List Str} {sc : Scope} (g : Good P fns n E' N sc X) {ty : Str} {t : Ty} {a : Expr} {s : Tm} {po po2 pos : Pos} (hf : isGl sc "isinstance" = true) (hb : P.blt.contains "isinstance" = true)
    (hty : isGl sc ty = true) (ho : okName ty = true) (hbt : P.blt.contains ty = true) (ht : tyOf ty = some t) (hs : isStar a = false) (ha : PE X a (tE X.K mg E cf s)) :
    PE X (.Call (.Name "isinstance" po) [a, .Name ty po2] [] pos) (tE X.K mg E cf (.prim (.isi t) (.cons s .nil))) := by
  have gl : ∀ {f : Str}, isGl sc f = true → Gl X f := fun {f} h => by unfold Gl; show X.env.scope.names.lookup f = _; rw [g.hsc]; exact isGl_gl h
  obtain ⟨b1, b2⟩ := ty_boot ht
  have pt : PE X (.Name ty po2) (tC (.ty t.name)) := pe_bltn (gl hty) (g.blt _ hbt) b1 rfl b2 (okName_1 ho)
  refine pe_imp (pe_callB (ap_isi (mg := mg) (E := E) (t := t)) (gl hf) (g.blt _ hb) boot_isi' (pa_cons ha (pa_cons pt pa_nil rfl) (starEach_cons hs)) (by decide) (by decide) (starEach_cons hs) rfl) fun σ H Q q => ?_
  exact tE_mono (prim1 q) fun v H' h => ⟨v, rfl, h⟩
end

end CP8
section CP9
variable [TB : Tbs]

section
variable {P : Par} {fns : List Fn} {N : List Str}
theorem newd_val {K : PySem.W.Frag} {mg : Str → Option Value} {E : XK} {cf : Nat → List D → Mem → Res D} {σ : L2.St} {H : Hp} {Q : VK} (h : tE K mg E cf (.prim .newd .nil) σ H Q) : tDNewX σ H Q := by
  obtain ⟨ω, α, b, ρ, M, sm, r, hb, q⟩ := h
  intro p hp
  replace q : Post K ω mg E b α H M (Res.ok (D.ref M.length) (M ++ [Cell.dct []]) : Res D) _ := q
  exact q (α ++ [p]) _ (Stp.cell hp) (sm.newdct hp) (Pres.grow _ _ _ hb) _ (.ref (by rw [← sm.len, List.getElem?_append_right (Nat.le_refl _), Nat.sub_self]; rfl))
theorem chain_val {K : PySem.W.Frag} {mg : Str → Option Value} {E : XK} {cf : Nat → List D → Mem → Res D} {p q : Prim} {s t u : Tm} {σ : L2.St} {H : Hp} {Q : VK} (h : tE K mg E cf (.chain p q s t u) σ H Q) :
    tChain (fun x y => Ap K mg E p [x, y]) (fun x y => Ap K mg E q [x, y]) (tE K mg E cf s) (tE K mg E cf t) (tE K mg E cf u) σ H Q := by
  obtain ⟨ω, α, b, ρ, M, sm, r, hb, h⟩ := h
  refine ⟨ω, α, b, ρ, M, sm, r, hb, (Post.bind (show Post K ω mg E b α H M ((evE cf b s ρ M).bind _) _ from h)).mono fun x M1 α1 H1 st1 sm1 pr1 ⟨_, _, _, h⟩ v rv => ?_⟩
  refine ⟨ω, α1, b, ρ, M1, sm1, r.step st1, Nat.le_trans hb pr1.len, (Post.bind h).mono fun y M2 α2 H2 st2 sm2 pr2 ⟨_, _, _, h⟩ w rw' => ?_⟩
  refine ⟨ω, α2, b, M2, [x, y], sm2, Nat.le_trans hb (pr1.trans pr2).len, .cons (rv.step st2) (.cons rw' .nil), (Post.bind h).mono fun z M3 α3 H3 st3 sm3 pr3 ⟨_, _, _, h⟩ zv rz => ?_⟩
  split at h
  · refine ⟨true, rv_bl rz, iteT ?_⟩
    refine ⟨ω, α3, b, ρ, M3, sm3, r.step (st1.trans (st2.trans st3)), Nat.le_trans hb (pr1.trans (pr2.trans pr3)).len, (Post.bind h).mono fun a M4 α4 H4 st4 sm4 pr4 ⟨_, _, _, h⟩ av ra => ?_⟩
    exact ⟨ω, α4, b, M4, [y, a], sm4, Nat.le_trans hb (pr1.trans (pr2.trans (pr3.trans pr4))).len, .cons (rw'.step (st3.trans st4)) (.cons ra .nil), h⟩
  · refine ⟨false, rv_bl rz, iteF ?_⟩
    exact h.ok sm3 _ (.bl false)
  · exact h.elim
/-- a op1 b op2 c op3 d -/
def tChain3 (r r' r'' : R2) (ta tb tc td : TE) : TE := fun σ H Q => ta σ H fun x H1 => tb σ H1 fun y H2 => r x y H2 fun z H3 => ∃ k, z = .bl k ∧
  (if k = true then tc σ H3 fun w' H4 => r' y w' H4 fun z' H5 => ∃ k', z' = .bl k' ∧ (if k' = true then td σ H5 fun v' H6 => r'' w' v' H6 Q else Q (.bl false) H5) else Q (.bl false) H3)
theorem pe_chain3 {X : Cx} {a b c d : Expr} {ta tb tc td : TE} {pos : Pos} {op op' op'' : CmpOp} {r r' r'' : R2} (ho : OpR X (compareOp op) r) (ho' : OpR X (compareOp op') r') (ho'' : OpR X (compareOp op'') r'') (ha : PE X a ta) (hb : PE X b tb) (hc : PE X c tc) (hd : PE X d td)
    (hm : lastMarks [op, op', op''] [b, c, d] = false) : PE X (.Compare a [op, op', op''] [b, c, d] pos) (tChain3 r r' r'' ta tb tc td) := by
  refine ⟨fun pins s σ H Q I h => ?_⟩
  refine Compare_chain (thn (ha.run pins s σ H _ I h) fun v s1 ⟨x, H1, I1, r1, q1⟩ => chain_link (thn (hb.run pins s1 σ H1 _ I1 q1) fun u s2 ⟨y, H2, I2, r2, q2⟩ =>
    thn (ho pins s2 σ H2 x y v u _ I2 r1 r2 q2) fun e1 s3 ⟨z, H3, I3, r3, k, e, q3⟩ => ?_)) hm
  subst e
  cases r3
  refine wpAny_truthy_bool ?_
  cases k with
  | false => exact ite_ff ⟨.bl false, H3, I3, rfl, q3⟩
  | true =>
    refine ite_tt (chain_link (r' := eval d _) (rs := []) (thn (hc.run pins s3 σ H3 _ I3 q3) fun w' s4 ⟨z', H4, I4, r4, q4⟩ =>
      thn (ho' pins s4 σ H4 y z' u w' _ I4 r2 r4 q4) fun e2 s5 ⟨zz, H5, I5, r5, k', e', q5⟩ => ?_))
    subst e'
    cases r5
    refine wpAny_truthy_bool ?_
    cases k' with
    | false => exact ite_ff ⟨.bl false, H5, I5, rfl, q5⟩
    | true => exact ite_tt (chain_last (thn (hd.run pins s5 σ H5 _ I5 q5) fun w2 s6 ⟨z2, H6, I6, r6, q6⟩ => ho'' pins s6 σ H6 z' z2 w' w2 Q I6 r4 r6 q6))
theorem pt_chain3 {X : Cx} {a b c d : Expr} {ta tb tc td : TE} {pos : Pos} {op op' op'' : CmpOp} {r r' r'' : R2} (ho : OpR X (compareOp op) r) (ho' : OpR X (compareOp op') r') (ho'' : OpR X (compareOp op'') r'') (ha : PE X a ta) (hb : PE X b tb) (hc : PE X c tc) (hd : PE X d td)
    (hm : lastMarks [op, op', op''] [b, c, d] = false) : PT X (.Compare a [op, op', op''] [b, c, d] pos) (tTest (tChain3 r r' r'' ta tb tc td)) := by
  refine ⟨fun pins s σ H Q I h => ?_⟩
  refine isTrue_chain (thn (ha.run pins s σ H _ I h) fun v s1 ⟨x, H1, I1, r1, q1⟩ => test_link (thn (hb.run pins s1 σ H1 _ I1 q1) fun u s2 ⟨y, H2, I2, r2, q2⟩ =>
    thn (ho pins s2 σ H2 x y v u _ I2 r1 r2 q2) fun e1 s3 ⟨z, H3, I3, r3, k, e, q3⟩ => ?_)) hm
  subst e
  cases r3
  refine wpAny_truthy_bool ?_
  cases k with
  | false =>
    obtain ⟨k2, e2, q2'⟩ := q3
    cases e2
    exact ite_ff ⟨H3, I3, q2'⟩
  | true =>
    refine ite_tt (test_link (r' := eval d _) (rs := []) (thn (hc.run pins s3 σ H3 _ I3 q3) fun w' s4 ⟨z', H4, I4, r4, q4⟩ =>
      thn (ho' pins s4 σ H4 y z' u w' _ I4 r2 r4 q4) fun e2 s5 ⟨zz, H5, I5, r5, k', e', q5⟩ => ?_))
    subst e'
    cases r5
    refine wpAny_truthy_bool ?_
    cases k' with
    | false =>
      obtain ⟨k2, e2, q2'⟩ := q5
      cases e2
      exact ite_ff ⟨H5, I5, q2'⟩
    | true => exact ite_tt (test_last (thn (hd.run pins s5 σ H5 _ I5 q5) fun w2 s6 ⟨z2, H6, I6, r6, q6⟩ => thn (ho'' pins s6 σ H6 z' z2 w' w2 _ I6 r4 r6 q6) fun c2 s7 ⟨z7, H7, I7, r7, k7, e7, q7⟩ => by
        subst e7
        cases r7
        exact wpAny_truthy_bool ⟨H7, I7, q7⟩))
theorem chain3_val {K : PySem.W.Frag} {mg : Str → Option Value} {E : XK} {cf : Nat → List D → Mem → Res D} {p q r : Prim} {s t u v : Tm} {σ : L2.St} {H : Hp} {Q : VK} (h : tE K mg E cf (.chain3 p q r s t u v) σ H Q) :
    tChain3 (fun x y => Ap K mg E p [x, y]) (fun x y => Ap K mg E q [x, y]) (fun x y => Ap K mg E r [x, y]) (tE K mg E cf s) (tE K mg E cf t) (tE K mg E cf u) (tE K mg E cf v) σ H Q := by
  obtain ⟨ω, α, b, ρ, M, sm, r, hb, h⟩ := h
  refine ⟨ω, α, b, ρ, M, sm, r, hb, (Post.bind (show Post K ω mg E b α H M ((evE cf b s ρ M).bind _) _ from h)).mono fun x M1 α1 H1 st1 sm1 pr1 ⟨_, _, _, h⟩ v rv => ?_⟩
  refine ⟨ω, α1, b, ρ, M1, sm1, r.step st1, Nat.le_trans hb pr1.len, (Post.bind h).mono fun y M2 α2 H2 st2 sm2 pr2 ⟨_, _, _, h⟩ w rw' => ?_⟩
  refine ⟨ω, α2, b, M2, [x, y], sm2, Nat.le_trans hb (pr1.trans pr2).len, .cons (rv.step st2) (.cons rw' .nil), (Post.bind h).mono fun z M3 α3 H3 st3 sm3 pr3 ⟨_, _, _, h⟩ zv rz => ?_⟩
  split at h
  · refine ⟨true, rv_bl rz, iteT ?_⟩
    refine ⟨ω, α3, b, ρ, M3, sm3, r.step (st1.trans (st2.trans st3)), Nat.le_trans hb (pr1.trans (pr2.trans pr3)).len, (Post.bind h).mono fun a M4 α4 H4 st4 sm4 pr4 ⟨_, _, _, h⟩ av ra => ?_⟩
    refine ⟨ω, α4, b, M4, [y, a], sm4, Nat.le_trans hb (pr1.trans (pr2.trans (pr3.trans pr4))).len, .cons (rw'.step (st3.trans st4)) (.cons ra .nil), (Post.bind h).mono fun z2 M5 α5 H5 st5 sm5 pr5 ⟨_, _, _, h⟩ zv2 rz2 => ?_⟩
    split at h
    · refine ⟨true, rv_bl rz2, iteT ?_⟩
      refine ⟨ω, α5, b, ρ, M5, sm5, r.step (st1.trans (st2.trans (st3.trans (st4.trans st5)))), Nat.le_trans hb (pr1.trans (pr2.trans (pr3.trans (pr4.trans pr5)))).len, (Post.bind h).mono fun a2 M6 α6 H6 st6 sm6 pr6 ⟨_, _, _, h⟩ av2 ra2 => ?_⟩
      exact ⟨ω, α6, b, M6, [a, a2], sm6, Nat.le_trans hb (pr1.trans (pr2.trans (pr3.trans (pr4.trans (pr5.trans pr6))))).len, .cons (ra.step (st5.trans st6)) (.cons ra2 .nil), h⟩
    · refine ⟨false, rv_bl rz2, iteF ?_⟩
      exact h.ok sm5 _ (.bl false)
    · exact h.elim
  · refine ⟨false, rv_bl rz, iteF ?_⟩
    exact h.ok sm3 _ (.bl false)
  · exact h.elim
theorem ite_val {K : PySem.W.Frag} {mg : Str → Option Value} {E : XK} {cf : Nat → List D → Mem → Res D} {c s t : Tm} {σ : L2.St} {H : Hp} {Q : VK} (h : tE K mg E cf (.ite c s t) σ H Q) : tIf (tT K mg E cf c) (tE K mg E cf s) (tE K mg E cf t) σ H Q := by
  obtain ⟨ω, α, b, ρ, M, sm, r, hb, q⟩ := h
  refine ⟨ω, α, b, ρ, M, sm, r, hb, (Post.bind (show Post K ω mg E b α H M ((evE cf b c ρ M).bind _) _ from q)).mono fun d M1 α1 H1 st sm1 pr ⟨_, _, _, q⟩ => ?_⟩
  split at q
  · exact ⟨true, rfl, iteT ⟨ω, α1, b, ρ, M1, sm1, r.step st, Nat.le_trans hb pr.len, q⟩⟩
  · exact ⟨false, rfl, iteF ⟨ω, α1, b, ρ, M1, sm1, r.step st, Nat.le_trans hb pr.len, q⟩⟩
  · exact q.elim
theorem ite_test {K : PySem.W.Frag} {mg : Str → Option Value} {E : XK} {cf : Nat → List D → Mem → Res D} {c s t : Tm} {σ : L2.St} {H : Hp} {Q : Bool → Hp → Prop} (h : tT K mg E cf (.ite c s t) σ H Q) : tT K mg E cf c σ H fun k H1 => if k = true then tT K mg E cf s σ H1 Q else tT K mg E cf t σ H1 Q := by
  obtain ⟨ω, α, b, ρ, M, sm, r, hb, q⟩ := h
  refine ⟨ω, α, b, ρ, M, sm, r, hb, (Post.bind (show Post K ω mg E b α H M ((evE cf b c ρ M).bind _) _ from q)).mono fun d M1 α1 H1 st sm1 pr ⟨_, _, _, q⟩ => ?_⟩
  split at q
  · exact ⟨true, rfl, iteT ⟨ω, α1, b, ρ, M1, sm1, r.step st, Nat.le_trans hb pr.len, q⟩⟩
  · exact ⟨false, rfl, iteF ⟨ω, α1, b, ρ, M1, sm1, r.step st, Nat.le_trans hb pr.len, q⟩⟩
  · exact q.elim
/-- not -/
theorem not_test {K : PySem.W.Frag} {mg : Str → Option Value} {E : XK} {cf : Nat → List D → Mem → Res D} {t : Tm} {σ : L2.St} {H : Hp} {Q : Bool → Hp → Prop} (h : tT K mg E cf (.prim .notb (.cons t .nil)) σ H Q) : tT K mg E cf t σ H fun k H1 => Q (!k) H1 := by
  obtain ⟨ω, α, b, ρ, M, sm, r, hb, q⟩ := h
  have q := Post.bind (show Post K ω mg E b α H M (((evE cf b t ρ M).bind fun d M1 => .ok [d] M1).bind fun ds M1 => primE b .notb ds M1) _ from q)
  refine ⟨ω, α, b, ρ, M, sm, r, hb, (Post.bind q).mono fun d M1 α1 H1 st sm1 pr ⟨_, _, _, q⟩ => ?_⟩
  obtain ⟨_, _, _, q⟩ := q.ok sm1
  replace q : Post K ω mg E b α1 H1 M1 (notE d M1) _ := q
  unfold notE at q
  split at q
  · obtain ⟨c, e, q⟩ := q.ok sm1
    cases e
    exact ⟨_, rfl, q⟩
  · exact q.elim
theorem not_val {K : PySem.W.Frag} {mg : Str → Option Value} {E : XK} {cf : Nat → List D → Mem → Res D} {t : Tm} {σ : L2.St} {H : Hp} {Q : VK} (h : tE K mg E cf (.prim .notb (.cons t .nil)) σ H Q) : tNotV (tE K mg E cf t) σ H Q := by
  refine tE_mono (prim1 h) fun v H' q => ?_
  obtain ⟨ω, α, b, M, ds, sm, hb, r, q⟩ := q
  obtain ⟨d, rfl, rv⟩ := r.one
  replace q : Post K ω mg E b α H' M (notE d M) _ := q
  unfold notE at q
  split at q
  · exact ⟨_, rv_bl rv, q.ok sm _ (.bl _)⟩
  · exact q.elim
/-- the value of a test -/
theorem test_tE {K : PySem.W.Frag} {mg : Str → Option Value} {E : XK} {cf : Nat → List D → Mem → Res D} {tm : Tm} {t : TE} {σ : L2.St} {H : Hp} {Q : Bool → Hp → Prop} (i : ∀ Q', tE K mg E cf tm σ H Q' → t σ H Q') (h : tT K mg E cf tm σ H Q) : tTest t σ H Q := i _ (test_val h)
theorem tup_val {K : PySem.W.Frag} {mg : Str → Option Value} {E : XK} {cf : Nat → List D → Mem → Res D} {ts : Tms} {σ : L2.St} {H : Hp} {Q : VK} (h : tE K mg E cf (.prim .tup ts) σ H Q) : tTup (tEs K mg E cf ts) σ H Q := by
  obtain ⟨ω, α, b, ρ, M, s, r, hb, q⟩ := prim_args h
  refine ⟨ω, α, b, ρ, M, s, r, hb, q.mono fun ds M1 α1 H1 st sm pr q vs rv => ?_⟩
  obtain ⟨ω, α, b, M, ds, sm, hb, r, q⟩ := q vs rv
  replace q : Post K ω mg E b α H1 M (tupE ds M) _ := q
  unfold tupE at q
  obtain ⟨hl, q⟩ := post_if q
  exact ⟨by rw [r.length]; exact hl, fun p hp => new_tup sm r hp q⟩
theorem lst_val {K : PySem.W.Frag} {mg : Str → Option Value} {E : XK} {cf : Nat → List D → Mem → Res D} {m : Bool} {ts : Tms} {σ : L2.St} {H : Hp} {Q : VK} (h : tE K mg E cf (.prim (.lst m) ts) σ H Q) : tLst (tEs K mg E cf ts) σ H Q := by
  obtain ⟨ω, α, b, ρ, M, s, r, hb, q⟩ := prim_args h
  refine ⟨ω, α, b, ρ, M, s, r, hb, q.mono fun ds M1 α1 H1 st sm pr q vs rv => ?_⟩
  obtain ⟨ω, α, b, M, ds, sm, hb, r, q⟩ := q vs rv
  exact new_mk sm hb r q
theorem call_val {K : PySem.W.Frag} {mg : Str → Option Value} {E : XK} {n i : Nat} {ts : Tms} {σ : L2.St} {H : Hp} {Q : VK} (h : tE K mg E (callFn fns n) (.call i ts) σ H Q) : tCall (spF K mg fns n i) [] E (tEs K mg E (callFn fns n) ts) σ H Q := by
  obtain ⟨ω, α, b, ρ, M, s, r, hb, q⟩ := h
  refine ⟨ω, α, b, ρ, M, s, r, hb, (Post.bind (show Post K ω mg E b α H M ((evEs _ b ts ρ M).bind fun ds M1 => callFn fns n i ds M1) _ from q)).mono fun ds M1 α1 H1 st sm pr ⟨_, _, _, q⟩ vs rv => ?_⟩
  obtain ⟨f, hf, hl⟩ : ∃ f, fns[i]? = some f ∧ ds.length = f.ps.length := by
    cases n with
    | zero => exact q.elim
    | succ n =>
      simp only [callFn] at q
      split at q
      · exact q.elim
      · rename_i f hf
        exact ⟨f, hf, (post_if q).1⟩
  rw [List.append_nil]
  exact ⟨ω, α1, b, M1, ds, f, sm, Nat.le_trans hb pr.len, rv, hf, by rw [rv.length]; exact hl, q⟩
theorem slc_val {K : PySem.W.Frag} {mg : Str → Option Value} {E : XK} {b : Nat} {m : Bool} {x : V} {H : Hp} {Q : VK} {a c : Bool} {r : List V} {lo hi : Option Int}
    (h : Ap K mg E (.slc a c m) (x :: r) H Q) (i : ∀ (ds : List D) (d : D) ω α M b, RVs K ω α H r ds → ∀ R, Post K ω mg E b α H M (primE b (.slc a c m) (d :: ds) M) R → Post K ω mg E b α H M (slcE m d lo hi M) R) : ApSl K mg E m x lo hi H Q := by
  obtain ⟨ω, α, b, M, ds, sm, hb, rv, q⟩ := h
  cases rv with
  | cons r1 r2 => exact ⟨ω, α, b, M, _, sm, hb, r1, i _ _ _ _ _ _ r2 _ q⟩
theorem part_int0 : True := trivial
theorem part_int {K : PySem.W.Frag} {ω α : List Addr} {H : Hp} {v : V} {d : D} {i : Int} (r : RV K ω α H v d) (h : part d = some i) : v = .int i := by
  cases d <;> first | cases h | skip
  exact rv_int r
theorem slc2_val {K : PySem.W.Frag} {mg : Str → Option Value} {E : XK} {cf : Nat → List D → Mem → Res D} {m : Bool} {s t u : Tm} {σ : L2.St} {H : Hp} {Q : VK} (h : tE K mg E cf (.slc2 m s t u) σ H Q) :
    tSl (ApSl K mg E m) (tE K mg E cf s) (tPart (tE K mg E cf t)) (tPart (tE K mg E cf u)) σ H Q := by
  obtain ⟨ω, α, b, ρ, M, sm, r, hb, h⟩ := h
  refine ⟨ω, α, b, ρ, M, sm, r, hb, (Post.bind (show Post K ω mg E b α H M ((evE cf b s ρ M).bind _) _ from h)).mono fun x M1 α1 H1 st1 sm1 pr1 ⟨_, _, _, h⟩ v rv => ?_⟩
  refine ⟨ω, α1, b, ρ, M1, sm1, r.step st1, Nat.le_trans hb pr1.len, (Post.bind h).mono fun y M2 α2 H2 st2 sm2 pr2 ⟨_, _, _, h⟩ w rw' => ?_⟩
  split at h
  · rename_i i hi
    refine ⟨i, part_int rw' hi, ω, α2, b, ρ, M2, sm2, r.step (st1.trans st2), Nat.le_trans hb (pr1.trans pr2).len, (Post.bind h).mono fun z M3 α3 H3 st3 sm3 pr3 ⟨_, _, _, h⟩ zv rz => ?_⟩
    split at h
    · rename_i j hj
      exact ⟨j, part_int rz hj, ω, α3, b, M3, x, sm3, Nat.le_trans hb (pr1.trans (pr2.trans pr3)).len, rv.step (st2.trans st3), h⟩
    · exact h.elim
  · exact h.elim
theorem relS_loc {scope sc : Scope} {x : Str} (h : isLoc scope x = true) : isLoc (relS scope sc) x = true := by
  unfold isLoc at h
  split at h
  · rename_i e; unfold isLoc; rw [show List.lookup x (relS scope sc).names = some .local from lookup_relS_keep (sc := sc) (by decide) e]
  · rename_i e; unfold isLoc; rw [show List.lookup x (relS scope sc).names = some .cell from lookup_relS_keep (sc := sc) (by decide) e]
  · cases h
theorem takes0N {X : Cx} : L2N.Takes X (fun _ _ _ _ => False) := fun _ _ x => by
  obtain ⟨_, _, _, _, _, _, _, _, _, _, _, _, _, _, _, _, z⟩ := x
  exact z.elim
theorem passLN {X : Cx} : Passes (L2N.CX X.prog X.w) X (fun _ _ _ => False) := fun _ _ _ _ _ _ _ x => by
  obtain ⟨_, _, _, _, _, _, _, _, _, _, _, _, z⟩ := x
  exact z.elim
theorem blk_good {n : Nat} {E : XK} {sc : Scope} {X : Cx} (g : Good P fns n E N sc X) (scope : Scope) (s : Shared) (H : Hp) (C : Addr) (cl : List (Str × Addr)) (fp : List Addr) :
    Good P fns n (fun _ _ _ => False) N (relS scope sc) (X.blk s H scope (compEnvC scope cl C X.env) fp) where
  hN := g.hN
  hsc := by have := g.hsc; subst this; rfl
  nd := g.nd
  room := g.room
  calm := g.calm
  pass := passLN
  takes := takes0N
  own := PassesOwn.never
  gl := g.gl
  blt := g.blt
  dct := g.dct
  fns := g.fns
  lam := fun x h => ⟨(g.lam x h).1, fun m => ⟨⟨by
    obtain ⟨c, P, a1, a2, a3, a4⟩ := ((g.lam x h).2 m).1.ex
    exact ⟨c, P, a1, a2, a3, a4⟩⟩, ((g.lam x h).2 m).2⟩⟩
theorem cE_nostar {k : Nat} {sc : Scope} {e : Expr} {t : Tm} (h : cE P N k sc e = some t) : isStar e = false := by
  cases k with
  | zero => cases h
  | succ k => cases e <;> first | rfl | (simp [cE] at h)
theorem cE_nofold {k : Nat} {sc : Scope} {e : Expr} {t : Tm} {env : PySem.Env} (h : cE P N k sc e = some t) : ∀ x, foldedSetIterable e env x = pure x := by
  cases k with
  | zero => cases h
  | succ k => cases e <;> first | (intro x; rfl) | (simp [cE] at h)
theorem comp_inv {k : Nat} {sc : Scope} {elt : Expr} {gs : List Comprehension} {scope : Scope} {po : Pos} {tm : Tm} (h : cE P N (k + 1) sc (.ListComp elt gs scope po) = some tm) : ∃ tg iter ifs own p s ts cs t, gs = [⟨tg, iter, ifs, 0⟩] ∧
    tm = .comp (P.mu po) own p s (toTms ts) (toTms cs) t ∧ blkC N sc scope (ownOf N scope) = true ∧ cP N (relS scope sc) scope tg = some p ∧ cI P N k sc (isTup tg) iter = some (s, ts) ∧ cEs P N k (relS scope sc) ifs = some cs ∧ cE P N k (relS scope sc) elt = some t ∧
    cs.length ≤ 1 ∧ own = (ownOf N scope).map (·.2) ∧ ∀ i, i ∈ p.slots → i ∈ (ownOf N scope).map (·.2) := by
  cases gs with
  | nil => simp [cE] at h
  | cons c r =>
    cases r with
    | cons _ _ => simp [cE] at h
    | nil =>
      obtain ⟨tg, iter, ifs, a⟩ := c
      simp only [cE] at h
      split at h
      · rename_i hb
        obtain ⟨ha, hb⟩ := hb
        subst ha
        split at h
        · rename_i p s ts cs t h1 h2 h3 h4
          split at h
          · rename_i hc
            cases h
            simp only [List.all_eq_true] at hc
            exact ⟨tg, iter, ifs, _, p, s, ts, cs, t, rfl, rfl, hb, h1, h2, h3, h4, hc.1, rfl, fun i hi => by simpa using hc.2 i hi⟩
          · cases h
        · cases h
      · cases h
theorem blk_fn {n : Nat} {E : XK} {sc : Scope} {X : Cx} (g : Good P fns n E N sc X) {scope : Scope} {s : Shared} {H : Hp} {C : Addr} {cl : List (Str × Addr)} {fp : List Addr} {x : Str} (h1 : isLoc scope x = true) (h2 : isLoc (relS scope sc) x = true) :
    (X.blk s H scope (compEnvC scope cl C X.env) fp).fn x = true ∨ (X.blk s H scope (compEnvC scope cl C X.env) fp).env.scope.names.lookup x = some .local := by
  unfold isLoc at h1
  split at h1
  · rename_i e
    exact .inr (lookup_relS_keep (sc := X.env.scope) (by decide) e)
  · rename_i e
    refine .inl ?_
    show (scope.names.lookup x == some .cell) = true
    rw [e]; rfl
  · cases h1
theorem conds_ok {X : Cx} {mg : Str → Option Value} {E : XK} {cf : Nat → List D → Mem → Res D} {es : List Expr} {ts : List Tm} (h : EsOk X mg E cf es ts) (hl : ts.length ≤ 1) : PTs X es (tCond X.K mg E cf (toTms ts)) := by
  cases h with
  | nil => exact pts_nil'
  | cons hs h1 h2 r =>
    cases r with
    | nil => exact pts_one' h2
    | cons _ _ _ _ => simp at hl
theorem isM1_inv {e : Expr} (h : isM1 e = true) : ∃ j p1 p2, e = .UnaryOp .USub (.Constant (.int 1) j p1) p2 := by
  unfold isM1 at h
  split at h
  · rw [beq_iff_eq] at h; subst h; exact ⟨_, _, _, rfl⟩
  · cases h
theorem lenSet_inv {f : Str} {args : List Expr} {a : Expr} (h : lenSetArg f args = some a) : ∃ gp q, f = "len" ∧ args = [.Call (.Name "set" gp) [a] [] q] := by
  unfold lenSetArg at h
  split at h
  · split at h
    · rename_i hc; obtain ⟨rfl, rfl⟩ := hc; cases h; exact ⟨_, _, rfl, rfl⟩
    · cases h
  · cases h
theorem lamArg_inv {args : List Expr} {params : Arguments} {body : Expr} {scope : Scope} (h : lamArg args = some (params, body, scope)) : ∃ lpos, args = [.Lambda params body scope lpos] := by
  unfold lamArg at h
  split at h
  · cases h; exact ⟨_, rfl⟩
  · cases h
theorem noParams_inv {p : Arguments} (h : noParams p = true) : p = ⟨[], [], none, [], [], none, []⟩ := by
  obtain ⟨a, b, c, d, e, f, g⟩ := p
  unfold noParams at h
  simp only [Bool.and_eq_true, List.isEmpty_iff, Option.isNone_iff_eq_none] at h
  obtain ⟨⟨⟨⟨⟨⟨rfl, rfl⟩, rfl⟩, rfl⟩, rfl⟩, rfl⟩, rfl⟩ := h
  rfl
/-- a lambda's context is a good one -/
theorem lam_good {n : Nat} {E E' : XK} {sc scope : Scope} {X : Cx} (g : Good P fns n E N sc X) (A : Around) (outer : List PySem.Env) (s : Shared) (H : Hp) (f c' : Addr) (hr : Room (3 * n) (A.deeper (LamX.lamEnv X scope s.heap.objs.size f c'))) :
    Good P.off fns n E' N scope (lamC X A outer s H E' scope f c') where
  hN := g.hN
  hsc := rfl
  nd := g.nd
  room := hr
  calm := rfl
  pass := L2N.passes_call (L2N.takes_of rfl rfl rfl rfl) (fun _ _ _ _ h => h)
  takes := L2N.takes_of rfl rfl rfl rfl
  own := passes_of rfl
  gl := g.gl
  blt := g.blt
  dct := g.dct
  fns := g.fns
  lam := fun x h => by cases h
/-- the heap has grown, tables too -/
theorem Sim.growT {K : PySem.W.Frag} {ω α : List Addr} {H H' : Hp} {M : Mem} (s : Sim K ω α H M) (e : ∀ b o, H b = some o → NT o → H' b = some o) (t : LamX.Tabs TB.T H') : Sim K ω α H' M ∧ Stp α H α H' := by
  have st : Stp α H α H' := ⟨List.prefix_refl _, fun a o h _ nt => e a o h nt, fun _ h n => absurd h n⟩
  refine ⟨⟨s.len, s.nd, fun a h => ⟨(s.hid a h).1, ?_⟩, fun n a c e1 e2 => ?_, t⟩, st⟩
  · obtain ⟨_, o, ho, nt⟩ := s.hid a h
    exact ⟨o, e a o ho nt, nt⟩
  · have q := s.cell n a c e1 e2
    cases c with
    | lst ds => obtain ⟨xs, h, r⟩ := q; exact ⟨xs, e _ _ h (fun ps z => by cases z), r.step st⟩
    | dct ds => obtain ⟨xs, h, r⟩ := q; exact ⟨xs, e _ _ h (fun ps z => by unfold DctO at z; cases z), r.step st⟩
theorem refus_ok {n : Nat} {E : XK} {sc scope : Scope} {X : Cx} {f : Str} {fp lpos po : Pos} {params : Arguments} {body : Expr} {t : Tm} (g : Good P fns n E N sc X) (hf : P.rf = some f) (hm : ("<lambda>" : Str) ∈ N) (hgl : Gl X f) (ho : okName f = true) (hp : noParams params = true) (hl : LamX.LamS X.env.scope scope)
    (ih : ∀ n' E' X', Good P.off fns n' E' N scope X' → PE X' body (tE X'.K X'.mg E' (callFn fns n') t) ∧ PT X' body (tT X'.K X'.mg E' (callFn fns n') t)) :
    PE X (.Call (.Name f fp) [.Lambda params body scope lpos] [] po) (tE X.K X.mg E (callFn fns n) (.refus t)) := by
  obtain ⟨rd, rl⟩ := g.lam f hf
  obtain ⟨lr, room⟩ := rl hm
  obtain ⟨gA, oc, od, an, pg, bg, sg, dV, kV, doc, pm, cdv, ct, osl, Ng, a, e1, e2, e3, e4, e5, e6, e7, e8, e9, e10, e11⟩ := rd.ex
  obtain ⟨c, Pt, t1, t2, t3, t4⟩ := lr.ex
  have hp' := noParams_inv hp
  subst hp'
  refine pe_imp (pe_lamcallN (T := TB.T) (TT := TTref X.K X.mg) (t := fun E' => tE X.K X.mg E' (callFn fns n) t) hgl e1 e2 e3 e4 e5 e6 e7 e8 (e11 X rfl rfl) t1 t2 t3 t4 room hl rfl (fun _ _ _ _ _ => rfl) (fun A outer s H E' f2 c' hr => (ih n E' _ (lam_good g A outer s H f2 c' hr)).1) (okName_1 ho) e9 e10) fun σ H Q q => ?_
  obtain ⟨ω, α, b, ρ, M, sm, rs, hb, q⟩ := q
  replace q : Post X.K ω X.mg E b α H M (refE (evE (callFn fns n) b t ρ M)) _ := q
  refine ⟨sm.tab, fun H1 eN T1 => ?_⟩
  obtain ⟨sm1, st1⟩ := sm.growT (fun b o h nt => eN b o h nt) T1
  refine ⟨ω, α, b, ρ, M, sm1, rs.step st1, hb, ?_⟩
  cases hev : evE (callFn fns n) b t ρ M with
  | stuck => rw [hev] at q; exact q.elim
  | ok d M1 =>
    rw [hev] at q
    exact fun α2 H2 st2 sm2 pr2 v _ => q α2 H2 (st1.trans st2) sm2 pr2 _ .non
  | exc c0 M1 =>
    rw [hev] at q
    have q : Post X.K ω X.mg E b α H M (if refNames.contains c0 = true then Res.ok (D.str c0) M1 else Res.stuck) _ := q
    obtain ⟨hc, q⟩ := post_if q
    have hc : c0 ∈ refNames := by simpa using hc
    intro α2 H2 C st2 sm2 pr2 hC
    obtain ⟨D, rc⟩ := rd.cls c0 hc
    have e : D = C := by
      have z := rc.at_.symm.trans hC
      cases z
      rfl
    subst e
    refine ⟨c0, D, rfl, rfl, hc, rc, fun H3 e3 => ?_⟩
    obtain ⟨sm3, st3⟩ := sm2.growT (fun b o h _ => e3 b o h) (sm2.tab.ext e3)
    exact q α2 H3 (st1.trans (st2.trans st3)) sm3 pr2 (V.str c0) (RV.str c0)
/-! a dict of texts, written or the module's -/
theorem pick_val {K : PySem.W.Frag} {mg : Str → Option Value} {E : XK} {x : V} {H : Hp} {Q : VK} {es : List (Str × Str)} (h : Ap K mg E (.pick (strD es)) [x] H Q) : ∃ z d, x = .str z ∧ es.lookup z = some d ∧ Q (.str d) H := by
  obtain ⟨ω, α, b, M, ds, s, hb, r, p⟩ := h
  obtain ⟨d, rfl, rx⟩ := r.one
  replace p : Post K ω mg E b α H M (pickE (strD es) d M) _ := p
  unfold pickE at p
  split at p
  · rename_i z
    split at p
    · rename_i w hw
      have lk : ∀ l : List (Str × Str), (strD l).lookup z = (l.lookup z).map D.str := by
        intro l
        induction l with
        | nil => rfl
        | cons q l ih =>
          unfold strD at ih ⊢
          rw [List.map_cons, List.lookup_cons, List.lookup_cons, ih]
          cases z == q.1 <;> rfl
      rw [lk, Option.map_eq_some_iff] at hw
      obtain ⟨d, hd, rfl⟩ := hw
      exact ⟨z, d, rv_str rx, hd, p.ok s _ (.str _)⟩
    · exact p.elim
  · exact p.elim
theorem tE_upd {K : PySem.W.Frag} {mg : Str → Option Value} {E : XK} {cf : Nat → List D → Mem → Res D} {t : Tm} {σ : L2.St} {H : Hp} {Q : VK} {p : Addr} {o : HO} (hp : H p = none) (nt : NT o) (h : tE K mg E cf t σ H Q) : tE K mg E cf t σ (upd H p o) fun v H' => H' p = some o ∧ Q v H' := by
  obtain ⟨ω, α, b, ρ, M, s, r, hb, q⟩ := h
  have st : Stp α H α (upd H p o) := Stp.fresh hp
  refine ⟨ω, α, b, ρ, M, s.fresh hp, r.step st, hb, ?_⟩
  cases e : evE cf b t ρ M with
  | stuck => rw [e] at q; exact q
  | exc c M' =>
    rw [e] at q
    exact fun α' H' C st' sm pr hc => q α' H' C (st.trans st') sm pr hc
  | ok d M' =>
    rw [e] at q
    exact fun α' H' st' sm pr v rv => ⟨st'.kept p o upd_same (s.notin hp) nt, q α' H' (st.trans st') sm pr v rv⟩
theorem upd_upd {H : Hp} {p : Addr} {o u : HO} : upd (upd H p o) p u = upd H p u := by
  funext a
  by_cases h : a = p
  · subst h; rw [upd_same, upd_same]
  · rw [upd_ne h, upd_ne h, upd_ne h]
theorem noSl {i : Expr} (h : isPlainIx i = true) : NoSl i := fun _ _ => by cases i <;> first | rfl | cases h
theorem pick_two {c1 c2 b1 b2 z d : Str} (hne : ¬ c1 = c2) (hd : List.lookup z [(c1, b1), (c2, b2)] = some d) : valV (mergeK [] [((Sum.inr c1 : Key), V.str b1), (Sum.inr c2, V.str b2)]) (Sum.inr z) = some (V.str d) := by
  have e1 : putK ([] : List (Key × V)) (Sum.inr c1) (V.str b1) = [(Sum.inr c1, V.str b1)] := rfl
  have e2 : putK [((Sum.inr c1 : Key), V.str b1)] (Sum.inr c2) (V.str b2) = [(Sum.inr c1, V.str b1), (Sum.inr c2, V.str b2)] := by
    unfold putK
    rw [if_neg]
    · rfl
    · simp [hne]
  unfold mergeK
  rw [List.foldl_cons, List.foldl_cons, List.foldl_nil, e1, e2]
  unfold valV
  rw [List.lookup_cons, List.lookup_cons, List.lookup_nil] at hd
  by_cases h1 : z = c1
  · subst h1
    simp only [beq_self_eq_true] at hd
    cases hd
    simp
  · rw [beq_eq_false_iff_ne.mpr h1] at hd
    by_cases h2 : z = c2
    · subst h2
      simp only [beq_self_eq_true] at hd
      cases hd
      simp [hne]
    · rw [beq_eq_false_iff_ne.mpr h2] at hd
      cases hd
theorem pick_ok {P : Par} {n : Nat} {E : XK} {sc : Scope} {X : Cx} (g : Good P fns n E N sc X) {a i : Expr} {u : Tm} {po : Pos} {es : List (Str × Str)} (h : pickOf P sc a = some es) (hp : isPlainIx i = true)
    (hi : PE X i (tE X.K X.mg E (callFn fns n) u)) : PE X (.Subscript a i po) (tE X.K X.mg E (callFn fns n) (.prim (.pick (strD es)) (.cons u .nil))) := by
  have hu : X.A.units + 1 < cLine := by have := hu65 g; omega
  unfold pickOf at h
  split at h
  · rename_i ks vs po2
    unfold dict2 at h
    split at h
    · rename_i c1 _ _ c2 _ _ b1 _ _ b2 _ _
      split at h
      · cases h
      · rename_i hne
        cases h
        refine pe_imp (pe_dget hu (pe_disp (pps_cons pe_str pe_str (pps_cons pe_str pe_str pps_nil)) rfl rfl (fun z => by cases z) (Nat.le_of_ble_eq_true rfl)) hi (noSl hp)) fun σ H Q q => ?_
        intro p hp0
        refine ⟨upd_same, [(.inr c1, .str b1), (.inr c2, .str b2)], rfl, Nat.le_of_ble_eq_true rfl, ?_⟩
        rw [upd_upd]
        refine tE_mono (tE_upd hp0 (by intro ps e; cases e) (prim1 q)) fun v H' ⟨h1, h2⟩ => ?_
        obtain ⟨z, d, rfl, hd, hq⟩ := pick_val h2
        refine ⟨p, _, rfl, ?_, hq⟩
        have := DGet.k (k := Sum.inr z) h1
        rw [show valV (mergeK [] [(Sum.inr c1, V.str b1), (Sum.inr c2, V.str b2)]) (Sum.inr z) = some (V.str d) from pick_two hne hd] at this
        exact this
    · cases h
  · rename_i x po2
    split at h
    · rename_i hn
      simp only [Bool.and_eq_true] at hn
      obtain ⟨p, e1, e2⟩ := g.dct _ _ h
      have gl : Gl X x := by unfold Gl; show X.env.scope.names.lookup x = _; rw [g.hsc]; exact isGl_gl hn.2
      refine pe_imp (pe_ix ix_kdict (pe_glob gl e1 (v := .ref p) rfl (okName_1 hn.1)) hi (plain_ix hp)) fun σ H Q q => ?_
      refine tE_mono (prim1 q) fun v H' h2 => ?_
      obtain ⟨z, d, rfl, hd, hq⟩ := pick_val h2
      exact ⟨p, z, _, rfl, rfl, e2 z d hd, hq⟩
    · cases h
  · cases h
/-- THE THEOREM of expressions -/
theorem cE_ok : ∀ (k : Nat) (P : Par), (∀ sc e tm, cE P N k sc e = some tm → ∀ n E X, Good P fns n E N sc X → PE X e (tE X.K X.mg E (callFn fns n) tm) ∧ PT X e (tT X.K X.mg E (callFn fns n) tm)) ∧
    (∀ sc es ts, cEs P N k sc es = some ts → ∀ n E X, Good P fns n E N sc X → EsOk X X.mg E (callFn fns n) es ts) ∧
    (∀ sc tp e s ts, cI P N k sc tp e = some (s, ts) → ∀ n E X tg, isTup tg = tp → Good P fns n E N sc X → PI X tg e (tI X.K X.mg E (callFn fns n) s (toTms ts)) ∧ ∀ x, foldedSetIterable e X.env x = pure x)
  | 0, P => ⟨fun _ _ _ h => (by cases h), fun _ _ _ h => (by cases h), fun _ _ _ _ _ h => (by cases h)⟩
  | k + 1, P => by
    obtain ⟨ih, ihs, ihi⟩ := cE_ok k P
    refine ⟨fun sc e tm h n E X g => ?_, fun sc es ts h n E X g => ?_, fun sc tp e s ts h n E X tg htp g => ?_⟩
    · have gl : ∀ {f : Str}, isGl sc f = true → Gl X f := fun {f} h => by unfold Gl; show X.env.scope.names.lookup f = _; rw [g.hsc]; exact isGl_gl h
      cases e with
      | Name x po =>
        suffices hp : PE X (.Name x po) (tE X.K X.mg E (callFn fns n) tm) from ⟨hp, pt_plain hp rfl⟩
        simp only [cE] at h
        split at h
        · rename_i ho
          split at h
          · rename_i hv
            rw [Option.map_eq_some_iff] at h
            obtain ⟨i, hi, rfl⟩ := h
            obtain ⟨_, hi⟩ := ixOf_get _ _ _ _ hi
            refine pe_imp (pe_var (by rw [g.hN]; simpa using hi) (by rw [g.hsc]; exact isVis_vis hv) (okName_1 ho) (okName_2 ho)) fun σ H Q q => ?_
            obtain ⟨ω, α, b, ρ, M, s, r, hb, q⟩ := q
            simp only [evE] at q
            split at q
            · rename_i d hd
              obtain ⟨v, e, rv⟩ := r.2 _ _ hd
              exact ⟨v, e, q.ok s _ rv⟩
            · exact q.elim
          · split at h
            · rename_i hg
              rw [Option.map_eq_some_iff] at h
              obtain ⟨d, hd, rfl⟩ := h
              obtain ⟨v, u, e, rv, rd⟩ := g.gl _ _ hd
              refine pe_imp (pe_glob (gl hg) e rv (okName_1 ho)) fun σ H Q q => ?_
              obtain ⟨ω, α, b, ρ, M, s, r, hb, q⟩ := q
              simp only [evE] at q
              exact q.ok s _ (rd _ _ _)
            · cases h
        · cases h
      | Constant c j po =>
        suffices hp : PE X (.Constant c j po) (tE X.K X.mg E (callFn fns n) tm) from ⟨hp, pt_plain hp rfl⟩
        cases c <;> first | (simp [cE] at h; done) | skip
        · simp only [cE] at h; cases h
          refine pe_imp pe_non fun σ H Q q => ?_
          obtain ⟨ω, α, b, ρ, M, s, r, hb, q⟩ := q
          simp only [evE] at q
          exact q.ok s _ .non
        · simp only [cE] at h; cases h
          refine pe_imp pe_bl fun σ H Q q => ?_
          obtain ⟨ω, α, b, ρ, M, s, r, hb, q⟩ := q
          simp only [evE] at q
          exact q.ok s _ (.bl _)
        · simp only [cE] at h; cases h
          refine pe_imp pe_int fun σ H Q q => ?_
          obtain ⟨ω, α, b, ρ, M, s, r, hb, q⟩ := q
          simp only [evE] at q
          exact q.ok s _ (.int _)
        · simp only [cE] at h; cases h
          refine pe_imp pe_str fun σ H Q q => ?_
          obtain ⟨ω, α, b, ρ, M, s, r, hb, q⟩ := q
          simp only [evE] at q
          exact q.ok s _ (.str _)
      | Tuple es j po =>
        suffices hp : PE X (.Tuple es j po) (tE X.K X.mg E (callFn fns n) tm) from ⟨hp, pt_plain hp rfl⟩
        simp only [cE, Option.map_eq_some_iff] at h
        obtain ⟨ts, h, rfl⟩ := h
        exact pe_imp (pe_tup (ihs _ _ _ h n E X g).pa) fun σ H Q q => tup_val q
      | List es po =>
        suffices hp : PE X (.List es po) (tE X.K X.mg E (callFn fns n) tm) from ⟨hp, pt_plain hp rfl⟩
        simp only [cE, Option.map_eq_some_iff] at h
        obtain ⟨ts, h, rfl⟩ := h
        exact pe_imp (pe_lst (ihs _ _ _ h n E X g).pa) fun σ H Q q => lst_val q
      | BinOp a op b po =>
        suffices hp : PE X (.BinOp a op b po) (tE X.K X.mg E (callFn fns n) tm) from ⟨hp, pt_plain hp rfl⟩
        simp only [cE] at h
        split at h
        · rename_i p s t h1 h2 h3
          cases h
          exact pe_imp (pe_op (op_ok h1) (ih _ _ _ h2 n E X g).1 (ih _ _ _ h3 n E X g).1) fun σ H Q q => prim2 q
        · cases h
      | UnaryOp op a po =>
        cases op <;> first | (simp [cE] at h; done) | skip
        · simp only [cE, Option.map_eq_some_iff] at h
          obtain ⟨t, h, rfl⟩ := h
          exact ⟨pe_imp (pe_not (ih _ _ _ h n E X g).1) fun σ H Q q => not_val q, pt_imp (pt_not (ih _ _ _ h n E X g).2) fun σ H Q q => not_test q⟩
        · simp only [cE, Option.map_eq_some_iff] at h
          obtain ⟨t, h, rfl⟩ := h
          have hp : PE X (.UnaryOp .USub a po) (tE X.K X.mg E (callFn fns n) (.prim .neg (.cons t .nil))) := pe_imp (pe_un ap_neg (ih _ _ _ h n E X g).1) fun σ H Q q => prim1 q
          exact ⟨hp, pt_plain hp rfl⟩
      | BoolOp op es po =>
        cases op
        · simp only [cE, Option.bind_eq_some_iff] at h
          obtain ⟨ts, h, hb⟩ := h
          obtain ⟨h1, h2⟩ := bool_and (pos := po) (ihs _ _ _ h n E X g) hb
          exact ⟨h1, h2.pt⟩
        · simp only [cE, Option.bind_eq_some_iff] at h
          obtain ⟨ts, h, hb⟩ := h
          obtain ⟨h1, h2⟩ := bool_or (pos := po) (ihs _ _ _ h n E X g) hb
          exact ⟨h1, h2.pt⟩
      | IfExp c a b po =>
        simp only [cE] at h
        split at h
        · rename_i c' s t h1 h2 h3
          cases h
          have g1 := ih _ _ _ h1 n E X g
          have g2 := ih _ _ _ h2 n E X g
          have g3 := ih _ _ _ h3 n E X g
          exact ⟨pe_imp (pe_ifExp g1.2 g2.1 g3.1) fun σ H Q q => ite_val q, pt_imp (pt_ifexp g1.2 g2.2 g3.2) fun σ H Q q => ite_test q⟩
        · cases h
      | Compare a ops bs po =>
        cases ops with
        | nil => simp [cE] at h
        | cons op r =>
          cases r with
          | nil =>
            cases bs with
            | nil => simp [cE] at h
            | cons b r2 =>
              cases r2 with
              | cons _ _ => simp [cE] at h
              | nil =>
                simp only [cE] at h
                split at h
                · rename_i hn
                  split at h
                  · rename_i p s t h1 h2 h3
                    cases h
                    have g2 := ih _ _ _ h2 n E X g
                    have g3 := ih _ _ _ h3 n E X g
                    have ho := cmp_ok (mg := X.mg) (E' := E) g h1
                    exact ⟨pe_imp (pe_cmpR ho g2.1 g3.1 (noset_mark hn)) fun σ H Q q => prim2 q, pt_imp (pt_cmpR ho g2.1 g3.1 (noset_mark hn)) fun σ H Q q => test_tE (fun Q' q => prim2 q) q⟩
                  · cases h
                · cases h
          | cons op2 r =>
            cases r with
            | cons op3 r =>
              cases r with
              | cons _ _ => simp [cE] at h
              | nil =>
                cases bs with
                | nil => simp [cE] at h
                | cons b r2 =>
                  cases r2 with
                  | nil => simp [cE] at h
                  | cons c r3 =>
                    cases r3 with
                    | nil => simp [cE] at h
                    | cons d r4 =>
                      cases r4 with
                      | cons _ _ => simp [cE] at h
                      | nil =>
                        simp only [cE] at h
                        split at h
                        · rename_i hn
                          split at h
                          · rename_i p q r s t u v h1 h1' h1'' h2 h3 h4 h5
                            cases h
                            simp only [Bool.and_eq_true] at hn
                            have g2 := ih _ _ _ h2 n E X g
                            have g3 := ih _ _ _ h3 n E X g
                            have g4 := ih _ _ _ h4 n E X g
                            have g5 := ih _ _ _ h5 n E X g
                            have ho := cmp_ok (mg := X.mg) (E' := E) g h1
                            have ho' := cmp_ok (mg := X.mg) (E' := E) g h1'
                            have ho'' := cmp_ok (mg := X.mg) (E' := E) g h1''
                            have hm : lastMarks [op, op2, op3] [b, c, d] = false := noset_mark (op := op3) hn.2
                            exact ⟨pe_imp (pe_chain3 ho ho' ho'' g2.1 g3.1 g4.1 g5.1 hm) fun σ H Q q => chain3_val q, pt_imp (pt_chain3 ho ho' ho'' g2.1 g3.1 g4.1 g5.1 hm) fun σ H Q q => test_tE (fun Q' q => chain3_val q) q⟩
                          · cases h
                        · cases h
            | nil =>
              cases bs with
              | nil => simp [cE] at h
              | cons b r2 =>
                cases r2 with
                | nil => simp [cE] at h
                | cons c r3 =>
                  cases r3 with
                  | cons _ _ => simp [cE] at h
                  | nil =>
                    simp only [cE] at h
                    split at h
                    · rename_i hn
                      split at h
                      · rename_i p q s t u h1 h1' h2 h3 h4
                        cases h
                        simp only [Bool.and_eq_true] at hn
                        have g2 := ih _ _ _ h2 n E X g
                        have g3 := ih _ _ _ h3 n E X g
                        have g4 := ih _ _ _ h4 n E X g
                        have ho := cmp_ok (mg := X.mg) (E' := E) g h1
                        have ho' := cmp_ok (mg := X.mg) (E' := E) g h1'
                        have hm : lastMarks [op, op2] [b, c] = false := noset_mark (op := op2) hn.2
                        exact ⟨pe_imp (pe_chain ho ho' g2.1 g3.1 g4.1 hm) fun σ H Q q => chain_val q, pt_imp (pt_chain ho ho' g2.1 g3.1 g4.1 hm) fun σ H Q q => test_tE (fun Q' q => chain_val q) q⟩
                      · cases h
                    · cases h
      | Call f args kws po =>
        suffices hp : PE X (.Call f args kws po) (tE X.K X.mg E (callFn fns n) tm) from ⟨hp, pt_plain hp rfl⟩
        cases kws with
        | cons _ _ => cases f <;> (simp [cE] at h)
        | nil =>
          cases f with
          | Name f fp =>
            simp only [cE] at h
            split at h
            · rename_i a hls
              split at h
              · rename_i hn
                simp only [Bool.and_eq_true] at hn
                obtain ⟨⟨⟨h1, h2⟩, h3⟩, h4⟩ := hn
                obtain ⟨t, he, rfl⟩ := Option.map_eq_some_iff.mp h
                obtain ⟨gp, q, rfl, rfl⟩ := lenSet_inv hls
                exact pe_imp (pe_lenSetD (gl h1) (g.blt _ h3) (gl h2) (g.blt _ h4) (ih _ _ _ he n E X g).1 g.calm (starEach_cons (cE_nostar he))) fun σ H Q q => tE_mono (prim1 q) fun v H' q => lenset_val q
              · cases h
            rename_i hls0; clear hls0
            split at h
            · rename_i params body scope hla
              split at h
              · rename_i hn
                simp only [Bool.and_eq_true] at hn
                obtain ⟨⟨⟨⟨⟨h1, h2⟩, h3⟩, h4⟩, h5⟩, h6⟩ := hn
                obtain ⟨t, he, rfl⟩ := Option.map_eq_some_iff.mp h
                obtain ⟨lpos, rfl⟩ := lamArg_inv hla
                have hrf : P.rf = some f := eq_of_beq h3
                exact refus_ok (g := g) (hf := hrf) (hm := by simpa using h4) (hgl := gl h1) (ho := h2) (hp := h5) (hl := by have := g.hsc; rw [this]; exact LamX.lamS_by h6) fun n' E' X' g' => (cE_ok k P.off).1 _ _ _ he n' E' X' g'
              · cases h
            rename_i hla0; clear hla0
            split at h
            · rename_i hn
              simp only [Bool.and_eq_true] at hn
              obtain ⟨hg, ho⟩ := hn
              split at h
              · rename_i i hi
                rw [Option.map_eq_some_iff] at h
                obtain ⟨ts, h, rfl⟩ := h
                obtain ⟨a, fd, ps, e1, e2, e3, F⟩ := g.fns _ _ (okName_4 ho) hi
                have es := ihs _ _ _ h n E X g
                cases args with
                | nil =>
                  cases es
                  refine pe_imp (pe_call0 F g.room (gl hg) e1 e2 e3 .nil g.pass (okName_1 ho)) fun σ H Q q => ?_
                  exact nil_args (call_val q)
                | cons e r =>
                  have hs := es.stars
                  simp only [List.all_cons, Bool.and_eq_true, Bool.not_eq_true'] at hs
                  exact pe_imp (pe_call F g.room (gl hg) e1 e2 e3 .nil g.pass es.pa (okName_1 ho) (starEach_cons hs.1) (stars_any hs.2)) fun σ H Q q => call_val q
              · split at h
                · rename_i hb
                  split at h
                  · rename_i a ty po2 hi
                    split at h
                    · rename_i hc
                      simp only [Bool.and_eq_true] at hc
                      split at h
                      · rename_i t s h1 h2
                        cases h
                        have hf : f = "isinstance" := by simpa using hi
                        subst hf
                        exact isi_ok g hg hb hc.1.1 hc.1.2 hc.2 h1 (cE_nostar h2) (ih _ _ _ h2 n E X g).1
                      · cases h
                    · cases h
                  · cases h
                  · split at h
                    · rename_i p ts h1 h2
                      cases h
                      exact blt_ok g hg hb h1 (ihs _ _ _ h2 n E X g)
                    · cases h
                · cases h
            · cases h
          | Attribute o m apos =>
            simp only [cE] at h
            split at h
            · rename_i hn
              simp only [Bool.and_eq_true] at hn
              split at h
              · rename_i p h1
                split at h
                · rename_i t ts h2 h3
                  cases h
                  exact smeth_ok g hn.1 hn.2 h1 (ih _ _ _ h2 n E X g).1 (ihs _ _ _ h3 n E X g)
                · cases h
              · split at h
                · rename_i p t ts h1 h2 h3
                  cases h
                  exact meth_ok hn.1 hn.2 h1 (ih _ _ _ h2 n E X g).1 (ihs _ _ _ h3 n E X g)
                · cases h
            · cases h
          | _ => simp [cE] at h
      | Subscript a i po =>
        suffices hp : PE X (.Subscript a i po) (tE X.K X.mg E (callFn fns n) tm) from ⟨hp, pt_plain hp rfl⟩
        have plain : isPlainIx i = true → ∀ t u, cE P N k sc a = some t → cE P N k sc i = some u → PE X (.Subscript a i po) (tE X.K X.mg E (callFn fns n) (.prim .idx (.cons t (.cons u .nil)))) := fun hp t u h1 h2 =>
          pe_imp (pe_ix (ap_idx (by have := hu65 g; omega)) (ih _ _ _ h1 n E X g).1 (ih _ _ _ h2 n E X g).1 (plain_ix hp)) fun σ H Q q => prim2 q
        cases i with
        | Slice lo hi st p2 =>
          cases st with
          | some st =>
            cases lo <;> cases hi <;> first | (simp [cE, isPlainIx] at h; done) | skip
            simp only [cE] at h
            split at h
            · rename_i hm
              obtain ⟨t, he, rfl⟩ := Option.map_eq_some_iff.mp h
              obtain ⟨j, p1, p2, rfl⟩ := isM1_inv hm
              exact pe_imp (pe_rev (ih _ _ _ he n E X g).1) fun σ H Q q => tE_mono (prim1 q) fun v H' q => rev_val q
            · cases h
          | none =>
            cases lo with
            | none =>
              cases hi with
              | none =>
                simp only [cE, Option.map_eq_some_iff] at h
                obtain ⟨t, h, rfl⟩ := h
                exact pe_imp (pe_slice (ap_slc (m := P.mu po) (mg := X.mg) (E := E)) (ih _ _ _ h n E X g).1 po_none po_none) fun σ H Q q => tE_mono (prim1 q) fun v H' q =>
                  slc_val (b := 0) q fun ds d ω α M b r R p => by cases r; exact p
              | some hi =>
                simp only [cE] at h
                split at h
                · rename_i t u h1 h2
                  cases h
                  refine pe_imp (pe_slice (ap_slc (m := P.mu po) (mg := X.mg) (E := E)) (ih _ _ _ h1 n E X g).1 po_none (po_some (ih _ _ _ h2 n E X g).1)) fun σ H Q q => tE_mono (prim2 q) fun v H' q => tE_mono q fun w H2 q => ?_
                  obtain ⟨ω, α, b, M, ds, sm, hb, r, p⟩ := q
                  obtain ⟨d, e, rfl, r1, r2⟩ := r.two
                  replace p : Post X.K ω X.mg E b α H2 M (match part e with | some i => slcE _ d none (some i) M | none => .stuck) _ := p
                  split at p
                  · rename_i i hi
                    exact ⟨i, part_int r2 hi, ω, α, b, M, d, sm, hb, r1, p⟩
                  · exact p.elim
                · cases h
            | some lo =>
              cases hi with
              | none =>
                simp only [cE] at h
                split at h
                · rename_i t u h1 h2
                  cases h
                  refine pe_imp (pe_slice (ap_slc (m := P.mu po) (mg := X.mg) (E := E)) (ih _ _ _ h1 n E X g).1 (po_some (ih _ _ _ h2 n E X g).1) po_none) fun σ H Q q => tE_mono (prim2 q) fun v H' q => tE_mono q fun w H2 q => ?_
                  obtain ⟨ω, α, b, M, ds, sm, hb, r, p⟩ := q
                  obtain ⟨d, e, rfl, r1, r2⟩ := r.two
                  replace p : Post X.K ω X.mg E b α H2 M (match part e with | some i => slcE _ d (some i) none M | none => .stuck) _ := p
                  split at p
                  · rename_i i hi
                    exact ⟨i, part_int r2 hi, ω, α, b, M, d, sm, hb, r1, p⟩
                  · exact p.elim
                · cases h
              | some hi =>
                simp only [cE] at h
                split at h
                · rename_i t u w h1 h2 h3
                  cases h
                  exact pe_imp (pe_slice (ap_slc (m := P.mu po) (mg := X.mg) (E := E)) (ih _ _ _ h1 n E X g).1 (po_some (ih _ _ _ h2 n E X g).1) (po_some (ih _ _ _ h3 n E X g).1)) fun σ H Q q => slc2_val q
                · cases h
        | _ =>
          simp only [cE, isPlainIx, if_true] at h
          split at h
          · rename_i es hpk
            obtain ⟨u, h2, rfl⟩ := Option.map_eq_some_iff.mp h
            exact pick_ok g hpk rfl (ih _ _ _ h2 n E X g).1
          split at h
          · rename_i t u h1 h2
            cases h
            exact plain rfl _ _ h1 h2
          · cases h
      | Dict ks vs po =>
        cases ks with
        | cons _ _ => simp [cE] at h
        | nil =>
          cases vs with
          | cons _ _ => simp [cE] at h
          | nil =>
            simp only [cE] at h
            cases h
            suffices hp : PE X (.Dict [] [] po) (tE X.K X.mg E (callFn fns n) (.prim .newd .nil)) from ⟨hp, pt_plain hp rfl⟩
            exact pe_imp pe_dnewX fun σ H Q q => newd_val q
      | ListComp elt gs scope po =>
        suffices hp : PE X (.ListComp elt gs scope po) (tE X.K X.mg E (callFn fns n) tm) from ⟨hp, pt_plain hp rfl⟩
        obtain ⟨tg, iter, ifs, own, p, s, ts, cs, t, rfl, rfl, hb, hp, hi, hc, ht, hl, rfl, ho⟩ := comp_inv h
        obtain ⟨hi, hs⟩ := ihi _ _ _ _ _ hi n E X tg rfl g
        have bg := blk_good g scope
        refine pe_imp (pe_lc (own := ownOf N scope) g.calm (by rw [g.hN]; exact g.nd) hi (by rw [g.hN, g.hsc]; exact blkOk_by hb) (fun s H C cl fp => ?_) (fun s H C cl fp => ?_) (fun s H C cl fp => ?_) hs) fun σ H Q q => comp_lc ho q
        · exact pg_pat (bg s H C cl fp).hN g.nd (bg s H C cl fp).hsc g.calm (fun x h1 h2 => blk_fn g h1 h2) _ _ hp
        · exact conds_ok (ihs _ _ _ hc n _ _ (bg s H C cl fp)) hl
        · exact (ih _ _ _ ht n _ _ (bg s H C cl fp)).1
      | _ => simp [cE] at h
    · cases es with
      | nil => simp only [cEs] at h; cases h; exact .nil
      | cons e r =>
        simp only [cEs] at h
        split at h
        · cases h
        · rename_i hs
          split at h
          · rename_i t ts h1 h2
            cases h
            have := ih _ _ _ h1 n E X g
            exact .cons (by simpa using hs) this.1 this.2 (ihs _ _ _ h2 n E X g)
          · cases h
    · have plain : (cE P N k sc e).map (fun t => (Src.seq, [t])) = some (s, ts) → PI X tg e (tI X.K X.mg E (callFn fns n) s (toTms ts)) ∧ ∀ x, foldedSetIterable e X.env x = pure x := fun h => by
        clear ihi ihs
        rw [Option.map_eq_some_iff] at h
        obtain ⟨t, hq, e1⟩ := h
        injection e1 with e1 e2
        subst e1 e2
        exact ⟨pi_seq (ih _ _ _ hq n E X g).1, cE_nofold hq⟩
      cases e with
      | Call f args kws po =>
        refine ⟨?_, fun x => rfl⟩
        cases f with
        | Name f fp =>
          cases kws with
          | cons _ _ => exact (plain (by simpa only [cI] using h)).1
          | nil =>
            simp only [cI] at h
            cases hso : srcOf P sc tp f args.length with
            | none =>
              rw [hso] at h
              exact (plain h).1
            | some s' =>
              rw [hso] at h
              obtain ⟨ts', hc, e1⟩ := Option.map_eq_some_iff.mp h
              injection e1 with e1 e2
              subst e1 e2
              have es := ihs _ _ _ hc n E X g
              have hs := es.stars
              unfold srcOf at hso
              split at hso
              · rename_i hn
                simp only [Bool.and_eq_true] at hn
                obtain ⟨h1, h4⟩ := hn
                have hg : Gl X f := by unfold Gl; show X.env.scope.names.lookup _ = _; rw [g.hsc]; exact isGl_gl h1
                have tup : tp = true → ∃ el kk tp', tg = .Tuple el kk tp' := fun h5 => by
                  cases tg <;> first | exact ⟨_, _, _, rfl⟩ | (rw [← htp] at h5; cases h5)
                split at hso
                · rename_i hc1
                  obtain ⟨rfl, hl⟩ := hc1
                  cases hso
                  obtain ⟨a, rfl⟩ : ∃ a, args = [a] := by match args, hl with | [a], _ => exact ⟨a, rfl⟩
                  simp only [List.all_cons, Bool.and_eq_true, Bool.not_eq_true'] at hs
                  exact pi_rng1 hg (g.blt _ h4) es.pa hs.1
                split at hso
                · rename_i hc1
                  obtain ⟨rfl, hl⟩ := hc1
                  cases hso
                  obtain ⟨a, b, rfl⟩ : ∃ a b, args = [a, b] := by match args, hl with | [a, b], _ => exact ⟨a, b, rfl⟩
                  simp only [List.all_cons, Bool.and_eq_true, Bool.not_eq_true'] at hs
                  exact pi_rng2 hg (g.blt _ h4) es.pa hs.1 hs.2.1
                split at hso
                · rename_i hc1
                  obtain ⟨rfl, hl, h5⟩ := hc1
                  cases hso
                  obtain ⟨a, rfl⟩ : ∃ a, args = [a] := by match args, hl with | [a], _ => exact ⟨a, rfl⟩
                  simp only [List.all_cons, Bool.and_eq_true, Bool.not_eq_true'] at hs
                  obtain ⟨el, kk, tp', rfl⟩ := tup h5
                  exact pi_enm hg (g.blt _ h4) es.pa hs.1
                split at hso
                · rename_i hc1
                  obtain ⟨rfl, hl, h5⟩ := hc1
                  cases hso
                  obtain ⟨a, b, rfl⟩ : ∃ a b, args = [a, b] := by match args, hl with | [a, b], _ => exact ⟨a, b, rfl⟩
                  simp only [List.all_cons, Bool.and_eq_true, Bool.not_eq_true'] at hs
                  obtain ⟨el, kk, tp', rfl⟩ := tup h5
                  exact pi_zp hg (g.blt _ h4) es.pa hs.1 hs.2.1
                · cases hso
              · cases hso
        | _ => exact (plain (by simpa only [cI] using h)).1
      | _ => exact plain (by simpa only [cI] using h)
end

end CP9
section CP10
variable [TB : Tbs]

/-! ## Statements -/
section
variable (K : PySem.W.Frag) (mg : Str → Option Value) (E : XK) (cf : Nat → List D → Mem → Res D)
def FlowR (ω : List Addr) (D : Ends) (f : Flow) (α' : List Addr) (H' : Hp) : Prop := match f with
  | .next ρ' => ∀ σ', RS K ω α' H' σ' ρ' → D.nx σ' H'
  | .ret d => ∀ v, RV K ω α' H' v d → D.rt v H'
def tS (sm : Sm) : TS := fun D σ H => ∃ ω α b ρ M, Sim K ω α H M ∧ RS K ω α H σ ρ ∧ b ≤ M.length ∧ Post K ω mg E b α H M (evS cf b sm ρ M) (fun f _ α' H' => FlowR K ω D f α' H')
def tSs (sm : Sms) : TS := fun D σ H => ∃ ω α b ρ M, Sim K ω α H M ∧ RS K ω α H σ ρ ∧ b ≤ M.length ∧ Post K ω mg E b α H M (evSs cf b sm ρ M) (fun f _ α' H' => FlowR K ω D f α' H')
end
structure GoodS (P : Par) (fns : List Fn) (n : Nat) (E : XK) (N : List Str) (sc : Scope) (X : Cx) : Prop extends Good P fns n E N sc X where
  fn : ∀ x, X.fn x = true
  kind : sc.kind = .function
  exs : ∀ c, P.exs.contains c = true → ∃ C, X.mg c = some (.ref C) ∧ PySem.W.excIn X.K C [.type "ValueError", .type "Exception", .type "BaseException", .type "object"] "ValueError.__new__" = true ∧ PySem.W.keepIn X.K (.ref C) = true ∧
    PySem.W.subIn X.K (.ref C) (.type "BaseException") = some true ∧ PySem.W.typeIn X.K (.ref C) = some (.type "type")
section
variable {P : Par} {fns : List Fn} {N : List Str} {sc : Scope}
theorem sw_nocomp {e : Expr} {tg : Option Expr} {l : Nat} {env : PySem.Env} (h : isComp e = false) : swapsWith e tg l env = pure false := by
  unfold swapsWith
  cases e <;> first | rfl | cases h
theorem sw_name {elt : Expr} {gs : List Comprehension} {scope : Scope} {cpos py : Pos} {y : Str} {l : Nat} {env : PySem.Env} (hsc : env.scope = sc) (hk : sc.kind = .function) (h : swOf sc scope y py cpos = false) : swapsWith (.ListComp elt gs scope cpos) (some (.Name y py)) l env = pure false := by
  subst hsc
  have hb : env.blockKind = .function := by unfold Env.blockKind; rw [hk]; rfl
  unfold swapsWith
  simp only [hb, Expr.pos]
  have : (env.kindOf y == some NameKind.local && py.line == cpos.line && !(scope.names.any fun (n, k) => n == y && (k == .local || k == .cell))) = false := h
  show (pure _ : Sem Bool) = pure _
  congr 1
theorem sw_sub {e : Expr} {o i : Expr} {p : Pos} {l : Nat} {env : PySem.Env} : isComp e = false → swapsWith e (some (.Subscript o i p)) l env = pure false := fun h => sw_nocomp h
theorem swK_ok {env : PySem.Env} (hsc : env.scope = sc) (hk : sc.kind = .function) {ts vs : List Expr} {k k2 : Nat} {p p2 : Pos} {o : Option (List Str)} (h : swK sc ts vs = some o) : swappedStores [.Tuple ts k p] (.Tuple vs k2 p2) env = pure o := by
  subst hsc
  have hb : env.blockKind = .function := by unfold Env.blockKind; rw [hk]; rfl
  unfold swK at h
  dsimp only at h
  unfold swappedStores
  simp only [hb]
  have hb2 : (ScopeKind.function != ScopeKind.function) = false := rfl
  rw [hb2, Bool.or_false]
  split at h
  · rename_i h1; cases h; rw [if_pos h1]
  · rename_i h1
    rw [if_neg h1]
    split at h
    · rename_i h2; cases h; exact if_pos h2
    · rename_i h2
      refine (if_neg h2).trans ?_
      split at h
      · rename_i h3; cases h; exact if_pos h3
      · rename_i h3
        refine (if_neg h3).trans ?_
        split at h
        · rename_i h4; cases h; exact if_pos h4
        · rename_i h4
          refine (if_neg h4).trans ?_
          split at h
          · cases h
          · rename_i h5
            cases h
            exact if_neg h5
theorem swap_other {tg e : Expr} {env : PySem.Env} (h : isTup e = false) : swappedStores [tg] e env = pure none := by
  unfold swappedStores
  cases tg <;> cases e <;> first | rfl | cases h
theorem swap_other2 {tg e : Expr} {env : PySem.Env} (h : isTup tg = false) (h2 : ∀ ts k, tg ≠ .List ts k) : swappedStores [tg] e env = pure none := by
  unfold swappedStores
  cases tg <;> cases e <;> first | rfl | (exact absurd rfl (h2 _ _)) | cases h
end
section
variable {K : PySem.W.Frag} {mg : Str → Option Value} {E : XK} {cf : Nat → List D → Mem → Res D} {σ : L2.St} {H : Hp} {D : Ends}
theorem asg_name {i : Nat} {t : Tm} (h : tS K mg E cf (.asg (.name i) t) D σ H) : tAsg (tE K mg E cf t) (gName i) D σ H := by
  obtain ⟨ω, α, b, ρ, M, sm, r, hb, q⟩ := h
  refine ⟨ω, α, b, ρ, M, sm, r, hb, (Post.bind (show Post K ω mg E b α H M ((evE cf b t ρ M).bind _) _ from q)).mono fun d M1 α1 H1 st sm1 pr ⟨_, _, _, q⟩ v rv => ?_⟩
  exact q.ok sm1 _ ((r.step st).set rv i)
theorem asg_pat {p : Pat} {t : Tm} (h : tS K mg E cf (.asg p t) D σ H) : tAsg (tE K mg E cf t) (gP K p) D σ H := by
  obtain ⟨ω, α, b, ρ, M, sm, r, hb, q⟩ := h
  refine ⟨ω, α, b, ρ, M, sm, r, hb, (Post.bind (show Post K ω mg E b α H M ((evE cf b t ρ M).bind _) _ from q)).mono fun d M1 α1 H1 st sm1 pr ⟨_, _, _, q⟩ v rv => ?_⟩
  split at q
  · rename_i ρ' hp
    exact ⟨ω, α1, d, ρ, ρ', rv, r.step st, hp, fun σ' rs _ => q.ok sm1 _ rs⟩
  · exact q.elim
theorem asg_comp {i : Nat} {m : Bool} {own : List Nat} {pt : Pat} {k : Src} {ts cond : Tms} {elt : Tm} (ho : ∀ i, i ∈ pt.slots → i ∈ own) (h : tS K mg E cf (.asg (.name i) (.comp m own pt k ts cond elt)) D σ H) :
    tAsg (tLc (tI K mg E cf k ts) (gP K pt) (tCond K mg (fun _ _ _ => False) cf cond) (tE K mg (fun _ _ _ => False) cf elt) own) (gName i) D σ H := comp_lc ho (asg_name h)
theorem asg_two {i j : Nat} {a b : Tm} (h : tS K mg E cf (.asg (.tup [.name i, .name j]) (.prim .tup (.cons a (.cons b .nil)))) D σ H) : tPar i j (tEs K mg E cf (.cons a (.cons b .nil))) D σ H := by
  obtain ⟨ω, α, bb, ρ, M, sm, r, hb, q⟩ := h
  refine ⟨ω, α, bb, ρ, M, sm, r, hb, (Post.bind (Post.bind (show Post K ω mg E bb α H M (((evEs cf bb (.cons a (.cons b .nil)) ρ M).bind fun ds M1 => primE bb .tup ds M1).bind _) _ from q))).mono fun ds M1 α1 H1 st sm1 pr ⟨_, _, _, q⟩ vs rv => ?_⟩
  replace q : Post K ω mg E bb α1 H1 M1 (tupE ds M1) _ := q
  unfold tupE at q
  obtain ⟨_, q⟩ := post_if q
  obtain ⟨_, _, _, q⟩ := q.ok sm1
  cases rv with
  | nil => exact q.elim
  | cons r1 t =>
    cases t with
    | nil => exact q.elim
    | cons r2 t =>
      cases t with
      | cons _ _ => exact q.elim
      | nil => exact ⟨_, _, rfl, q.ok sm1 _ (((r.step st).set r1 i).set r2 j)⟩
theorem asg_three {i j l : Nat} {a b c : Tm} (h : tS K mg E cf (.asg (.tup [.name i, .name j, .name l]) (.prim .tup (.cons a (.cons b (.cons c .nil))))) D σ H) : tPar3 i j l (tEs K mg E cf (.cons a (.cons b (.cons c .nil)))) D σ H := by
  obtain ⟨ω, α, bb, ρ, M, sm, r, hb, q⟩ := h
  refine ⟨ω, α, bb, ρ, M, sm, r, hb, (Post.bind (Post.bind (show Post K ω mg E bb α H M (((evEs cf bb (.cons a (.cons b (.cons c .nil))) ρ M).bind fun ds M1 => primE bb .tup ds M1).bind _) _ from q))).mono fun ds M1 α1 H1 st sm1 pr ⟨_, _, _, q⟩ vs rv => ?_⟩
  replace q : Post K ω mg E bb α1 H1 M1 (tupE ds M1) _ := q
  unfold tupE at q
  obtain ⟨_, q⟩ := post_if q
  obtain ⟨_, _, _, q⟩ := q.ok sm1
  cases rv with
  | nil => exact q.elim
  | cons r1 t =>
    cases t with
    | nil => exact q.elim
    | cons r2 t =>
      cases t with
      | nil => exact q.elim
      | cons r3 t =>
        cases t with
        | cons _ _ => exact q.elim
        | nil => exact ⟨_, _, _, rfl, q.ok sm1 _ ((((r.step st).set r1 i).set r2 j).set r3 l)⟩
theorem set_val {o i t : Tm} (h : tS K mg E cf (.setI o i t) D σ H) : tAsg (tE K mg E cf t) (gSub (tE K mg E cf o) (tE K mg E cf i) (ApSet K mg E)) D σ H := by
  obtain ⟨ω, α, b, ρ, M, sm, r, hb, q⟩ := h
  refine ⟨ω, α, b, ρ, M, sm, r, hb, (Post.bind (show Post K ω mg E b α H M ((evE cf b t ρ M).bind _) _ from q)).mono fun d M1 α1 H1 st1 sm1 pr1 ⟨_, _, _, q⟩ v rv => ?_⟩
  refine ⟨ω, α1, b, ρ, M1, sm1, r.step st1, Nat.le_trans hb pr1.len, (Post.bind q).mono fun e M2 α2 H2 st2 sm2 pr2 ⟨_, _, _, q⟩ w rw' => ?_⟩
  refine ⟨ω, α2, b, ρ, M2, sm2, r.step (st1.trans st2), Nat.le_trans hb (pr1.trans pr2).len, (Post.bind q).mono fun f M3 α3 H3 st3 sm3 pr3 ⟨_, _, _, q⟩ z rz => ?_⟩
  refine ⟨ω, α3, b, M3, e, f, d, sm3, Nat.le_trans hb (pr1.trans (pr2.trans pr3)).len, rw'.step st3, rz, rv.step (st2.trans st3), (Post.bind q).mono fun u M4 α4 H4 st4 sm4 pr4 ⟨_, _, _, q⟩ => ?_⟩
  exact q.ok sm4 _ (r.step (st1.trans (st2.trans (st3.trans st4))))
theorem expr_val {t : Tm} (h : tS K mg E cf (.expr t) D σ H) : tDrop (tE K mg E cf t) D σ H := by
  obtain ⟨ω, α, b, ρ, M, sm, r, hb, q⟩ := h
  refine ⟨ω, α, b, ρ, M, sm, r, hb, (Post.bind (show Post K ω mg E b α H M ((evE cf b t ρ M).bind _) _ from q)).mono fun d M1 α1 H1 st sm1 pr ⟨_, _, _, q⟩ v rv => ?_⟩
  exact q.ok sm1 _ (r.step st)
theorem ret_val {t : Tm} (h : tS K mg E cf (.ret t) D σ H) : tRet (tE K mg E cf t) D σ H := by
  obtain ⟨ω, α, b, ρ, M, sm, r, hb, q⟩ := h
  refine ⟨ω, α, b, ρ, M, sm, r, hb, (Post.bind (show Post K ω mg E b α H M ((evE cf b t ρ M).bind _) _ from q)).mono fun d M1 α1 H1 st sm1 pr ⟨_, _, _, q⟩ v rv => ?_⟩
  exact q.ok sm1 _ rv
theorem if_val {c : Tm} {s t : Sms} (h : tS K mg E cf (.ite c s t) D σ H) : tIfS (tT K mg E cf c) (tSs K mg E cf s) (tSs K mg E cf t) D σ H := by
  obtain ⟨ω, α, b, ρ, M, sm, r, hb, q⟩ := h
  refine ⟨ω, α, b, ρ, M, sm, r, hb, (Post.bind (show Post K ω mg E b α H M ((evE cf b c ρ M).bind _) _ from q)).mono fun d M1 α1 H1 st sm1 pr ⟨_, _, _, q⟩ => ?_⟩
  split at q
  · exact ⟨true, rfl, iteT ⟨ω, α1, b, ρ, M1, sm1, r.step st, Nat.le_trans hb pr.len, q⟩⟩
  · exact ⟨false, rfl, iteF ⟨ω, α1, b, ρ, M1, sm1, r.step st, Nat.le_trans hb pr.len, q⟩⟩
  · exact q.elim
theorem seq_val {s : Sm} {t : Sms} (h : tSs K mg E cf (.cons s t) D σ H) : tSeq (tS K mg E cf s) (tSs K mg E cf t) D σ H := by
  obtain ⟨ω, α, b, ρ, M, sm, r, hb, q⟩ := h
  refine ⟨ω, α, b, ρ, M, sm, r, hb, (Post.bind (show Post K ω mg E b α H M ((evS cf b s ρ M).bind _) _ from q)).mono fun f M1 α1 H1 st sm1 pr ⟨_, _, _, q⟩ => ?_⟩
  cases f with
  | next ρ' => exact fun σ' rs => ⟨ω, α1, b, ρ', M1, sm1, rs, Nat.le_trans hb pr.len, q⟩
  | ret d => exact fun v rv => q.ok sm1 v rv
theorem while_val {c : Tm} {a : Sms} (h : tS K mg E cf (.whil c a) D σ H) : tWhile (tT K mg E cf c) (tSs K mg E cf a) D σ H := by
  obtain ⟨ω, α, b, ρ, M, sm, r, hb, q⟩ := h
  replace q : Post K ω mg E b α H M (whileE (evE cf b c) (evSs cf b a) ρ M) _ := q
  unfold whileE at q
  split at q
  · rename_i hk
    refine ⟨fun m σ H => ∃ ω α ρ M, Sim K ω α H M ∧ RS K ω α H σ ρ ∧ b ≤ M.length ∧ Post K ω mg E b α H M (whileN (evE cf b c) (evSs cf b a) m ρ M) (fun f _ α' H' => FlowR K ω D f α' H'), ⟨_, ω, α, ρ, M, sm, r, hb, q⟩, ?_⟩
    rintro m σ H ⟨ω, α, ρ, M, sm, r, hb, q⟩
    cases m with
    | zero => exact q.elim
    | succ m =>
      refine ⟨ω, α, b, ρ, M, sm, r, hb, (Post.bind (show Post K ω mg E b α H M ((evE cf b c ρ M).bind _) _ from q)).mono fun d M1 α1 H1 st sm1 pr ⟨_, _, _, q⟩ => ?_⟩
      split at q
      · refine ⟨true, rfl, iteT ⟨fun σ' H' => ∃ ω α ρ M, Sim K ω α H' M ∧ RS K ω α H' σ' ρ ∧ b ≤ M.length ∧ Post K ω mg E b α H' M (whileN (evE cf b c) (evSs cf b a) m ρ M) (fun f _ α' H' => FlowR K ω D f α' H'), fun σ' H' w => ⟨m, Nat.lt_succ_self m, w⟩, ?_⟩⟩
        refine ⟨ω, α1, b, ρ, M1, sm1, r.step st, Nat.le_trans hb pr.len, (Post.bind q).mono fun f M2 α2 H2 st2 sm2 pr2 ⟨_, _, _, q⟩ => ?_⟩
        cases f with
        | next ρ' => exact fun σ' rs => ⟨ω, α2, ρ', M2, sm2, rs, Nat.le_trans hb (pr.trans pr2).len, q⟩
        | ret d => exact fun v rv => q.ok sm2 v rv
      · exact ⟨false, rfl, iteF (q.ok sm1 _ (r.step st))⟩
      · exact q.elim
  · exact q.elim
theorem for_val {p : Pat} {k : Src} {ts : Tms} {a : Sms} (h : tS K mg E cf (.for_ p k ts a) D σ H) : tFor (tI K mg E cf k ts) (gP K p) (tSs K mg E cf a) D σ H := by
  obtain ⟨ω, α, b, ρ, M, sm, r, hb, q⟩ := h
  refine ⟨ω, α, b, ρ, M, sm, r, hb, (Post.bind (show Post K ω mg E b α H M ((evEs cf b ts ρ M).bind _) _ from q)).mono fun ds M1 α1 H1 st1 sm1 pr1 ⟨_, _, _, q⟩ => ?_⟩
  split at q
  · rename_i its g hsrc
    refine ⟨its, g, hsrc, fun vs rvs J ok => ?_⟩
    refine ⟨fun i m σ Hc => m = its.length - i ∧ i ≤ its.length ∧ ∃ α ρ M, Sim K ω α Hc M ∧ RS K ω α Hc σ ρ ∧ RVs K ω α Hc vs ds ∧ b ≤ M.length ∧
      Post K ω mg E b α Hc M (forL g (fun d ρ M2 => match bindP p d ρ with
        | some ρ' => evSs cf b a ρ' M2
        | none => .stuck) (its.drop i) ρ M) (fun f _ α' H' => FlowR K ω D f α' H'), ⟨its.length, by simp, Nat.zero_le _, α1, ρ, M1, sm1, r.step st1, rvs, Nat.le_trans hb pr1.len, by rw [List.drop_zero]; exact q⟩, ?_⟩
    rintro i m σ Hc ⟨rfl, hi, α, ρ, M, sm, r, rvs, hb, q⟩
    by_cases hlt : i < its.length
    · have hd : its[i]? = some its[i] := List.getElem?_eq_getElem hlt
      rw [List.drop_eq_getElem_cons hlt] at q
      simp only [forL] at q
      have hg : (∀ x, x ∈ g → Grd.ok x M) := by
        by_cases hg : (∀ x, x ∈ g → Grd.ok x M)
        · exact hg
        · rw [if_neg hg] at q; exact q.elim
      rw [if_pos hg] at q
      refine .inr ⟨ok.go _ _ _ _ _ rvs sm hg hlt, fun σ' H' => ∃ α ρ M, Sim K ω α H' M ∧ RS K ω α H' σ' ρ ∧ RVs K ω α H' vs ds ∧ b ≤ M.length ∧
        Post K ω mg E b α H' M (forL g (fun d ρ M2 => match bindP p d ρ with
          | some ρ' => evSs cf b a ρ' M2
          | none => .stuck) (its.drop (i + 1)) ρ M) (fun f _ α' H' => FlowR K ω D f α' H'), fun σ' H' w => ⟨its.length - (i + 1), by omega, rfl, hlt, w⟩, fun x H2 y => ?_⟩
      obtain ⟨st2, sm2, rx⟩ := ok.yld _ _ _ _ _ _ _ rvs sm hg y _ hd
      cases hbp : bindP p its[i] ρ with
      | none => rw [hbp] at q; exact q.elim
      | some ρ' =>
        rw [hbp] at q
        refine ⟨ω, α, its[i], ρ, ρ', rx, r.step st2, hbp, fun σ' rs _ => ?_⟩
        refine ⟨ω, α, b, ρ', M, sm2, rs, hb, ((Post.bind q).rebase st2 (Pres.refl _ _)).mono fun f M3 α3 H3 st3 sm3 pr3 ⟨_, _, _, q⟩ => ?_⟩
        cases f with
        | next ρ'' => exact fun σ'' rs' => ⟨α3, ρ'', M3, sm3, rs', RVs.step (st2.trans st3) _ _ rvs, Nat.le_trans hb pr3.len, q⟩
        | ret d => exact fun v rv => q.ok sm3 v rv
    · have e : i = its.length := by omega
      subst e
      rw [List.drop_length] at q
      simp only [forL] at q
      have hg : (∀ x, x ∈ g → Grd.ok x M) := by
        by_cases hg : (∀ x, x ∈ g → Grd.ok x M)
        · exact hg
        · rw [if_neg hg] at q; exact q.elim
      rw [if_pos hg] at q
      exact .inl ⟨ok.stop _ _ _ _ _ rvs sm hg (Nat.le_refl _) (Nat.le_refl _), q.ok sm _ r⟩
  · exact q.elim
end

end CP10
section CPS
variable [TB : Tbs]

/-! ## The def that tells the refusal's class -/
/-- ("C", isinstance(e, C)) -/
def tupC (e : Str) : Expr → Option Str
  | .Tuple [.Constant (.str s) _ _, .Call (.Name f _) [.Name e2 _, .Name c _] [] _] _ _ => if f = "isinstance" ∧ e2 = e ∧ c = s then some s else none
  | _ => none
def tupsC (e : Str) : List Expr → Option (List Str)
  | [] => some []
  | x :: r => match tupC e x, tupsC e r with
    | some s, some ss => some (s :: ss)
    | _, _ => none
theorem tupC_inv {e s : Str} {x : Expr} (h : tupC e x = some s) : ∃ j p1 p2 p3 p4 p5 k p6, x = .Tuple [.Constant (.str s) j p1, .Call (.Name "isinstance" p2) [.Name e p3, .Name s p4] [] p5] k p6 := by
  unfold tupC at h
  split at h
  · split at h
    · rename_i hc
      obtain ⟨rfl, rfl, rfl⟩ := hc
      cases h
      exact ⟨_, _, _, _, _, _, _, _, rfl⟩
    · cases h
  · cases h
inductive TuL (H : Hp) : List Addr → List (Str × Bool) → Prop where
  | nil : TuL H [] []
  | cons {p : Addr} {ps : List Addr} {s : Str} {b : Bool} {r : List (Str × Bool)} : H p = some (.tup [.str s, .bl b]) → TuL H ps r → TuL H (p :: ps) ((s, b) :: r)
theorem TuL.ext {H H' : Hp} (e : ∀ b o, H b = some o → H' b = some o) {ps : List Addr} {r : List (Str × Bool)} (h : TuL H ps r) : TuL H' ps r := by
  induction h with
  | nil => exact .nil
  | cons h1 _ ih => exact .cons (e _ _ h1) ih
theorem TuL.len {H : Hp} {ps : List Addr} {r : List (Str × Bool)} (h : TuL H ps r) : ps.length = r.length := by
  induction h with
  | nil => rfl
  | cons _ _ ih => simp [ih]
theorem TuL.get {H : Hp} {ps : List Addr} {r : List (Str × Bool)} (h : TuL H ps r) : ∀ (i : Nat) (v : V), (ps.map V.ref)[i]? = some v → ∃ p s b, v = .ref p ∧ r[i]? = some (s, b) ∧ H p = some (.tup [.str s, .bl b]) := by
  induction h with
  | nil => intro i v h; simp at h
  | cons h1 _ ih =>
    intro i v h
    cases i with
    | zero => simp at h; subst h; exact ⟨_, _, _, rfl, rfl, h1⟩
    | succ i => simpa using ih i v (by simpa using h)
theorem ext_upd {H : Hp} {p : Addr} {o : HO} (h : H p = none) : ∀ b u, H b = some u → upd H p o b = some u := fun b u e => by rw [upd_ne (ne_of_none e h)]; exact e
section
variable {Z : Cx} {ae D : Addr} {oe : Obj} {pn : List (Addr × Obj)} {e c : Str}
theorem el_ok (hz : Zc (.ref D) none oe) (hf : ∃ vs, oe.data = .fields vs) (rc : RefCls Z.K Z.mg c D) (hN : Z.N[1]? = some e) (hv : Vis Z.env.scope e) (hd : (e == ("__debug__" : Str)) = false) (hcd : (e == ("__classdict__" : Str)) = false) (gi : Gl Z "isinstance") (mi : Z.mg "isinstance" = none) :
    ∀ (es : List Expr) (ss : List Str), tupsC e es = some ss → (∀ s ∈ ss, s ∈ refNames ∧ Z.env.scope.names.lookup s = some .globalImplicit ∧ (s == ("__debug__" : Str)) = false) →
      PA (Z.suite ae ((ae, oe) :: pn)) es (fun σ H Q => σ[1]? = some (some (.ref ae)) ∧ ∀ ps H', (∀ b o, H b = some o → H' b = some o) → TuL H' ps (ss.map fun s => (s, s == c)) → Q (ps.map V.ref) H')
  | [], ss, h, _ => by
    cases h
    exact pa_imp pa_nil fun σ H Q ⟨_, q⟩ => q [] H (fun _ _ h => h) .nil
  | x :: r, ss, h, hs => by
    unfold tupsC at h
    split at h
    · rename_i s rs h1 h2
      cases h
      obtain ⟨j, p1, p2, p3, p4, p5, k, p6, rfl⟩ := tupC_inv h1
      obtain ⟨m1, g1, d1⟩ := hs s List.mem_cons_self
      obtain ⟨C, hC, hk⟩ := rc.alike s m1
      have ih := el_ok hz hf rc hN hv hd hcd gi mi r rs h2 fun s hs' => hs s (List.mem_cons_of_mem _ hs')
      have a1 : PE (Z.suite ae ((ae, oe) :: pn)) (.Call (.Name "isinstance" p2) [.Name e p3, .Name s p4] [] p5) (tCB (rIsE Z.K D ae) (tCons (tVar 1) (tCons (tC (.ref C)) tNil))) :=
        pe_callB (call_isE rc.exc hz hf) gi mi PyProof.Rows.boot_isinstance (pa_cons (pe_var (X := Z.suite ae ((ae, oe) :: pn)) (i := 1) hN hv hd hcd) (pa_cons (pe_glob (X := Z.suite ae ((ae, oe) :: pn)) (v := .ref C) g1 hC rfl d1) pa_nil))
      refine pa_imp (pa_cons (pe_tup (pa_cons pe_str (pa_cons a1 pa_nil))) ih) fun σ H Q ⟨h1, q⟩ => ?_
      refine ⟨.ref ae, h1, .ref C, .ref C, _, rfl, fun u r => r, hk, ?_⟩
      refine ⟨by show 2 ≤ sizeLine; rw [sizeLine_eq]; omega, fun p hp => ⟨h1, fun ps H' e2 t => ?_⟩⟩
      exact q (p :: ps) H' (fun b o hb => e2 _ _ (ext_upd hp _ _ hb)) (.cons (e2 _ _ upd_same) t)
    · cases h
/-- the names of those that it is of -/
def pick (r : List (Str × Bool)) : List V := r.filterMap fun x => if x.2 = true then some (.str x.1) else none
theorem pick_len : ∀ r : List (Str × Bool), (pick r).length ≤ r.length := fun r => List.length_filterMap_le _ _
theorem pick_snoc (r : List (Str × Bool)) (i : Nat) (s : Str) (b : Bool) (h : r[i]? = some (s, b)) : pick (r.take (i + 1)) = if b = true then pick (r.take i) ++ [.str s] else pick (r.take i) := by
  have hi := (List.getElem?_eq_some_iff.mp h).1
  rw [List.take_succ, h]
  unfold pick
  rw [List.filterMap_append]
  cases b <;> simp
theorem pick_one {c : Str} (h : c ∈ refNames) : pick (refNames.map fun s => (s, s == c)) = [.str c] := by
  unfold refNames at h
  simp only [List.mem_cons, List.not_mem_nil, or_false] at h
  rcases h with rfl | rfl | rfl | rfl | rfl | rfl | rfl | rfl | rfl | rfl | rfl | rfl | rfl <;> decide +kernel
theorem wipe_setR {σ : L2.St} {i : Nat} {v : Option V} : ∀ {vs : List Nat}, i ∈ vs → wipe (σ.set i v) vs = wipe σ vs
  | [], h => absurd h (by simp)
  | w :: vs, h => by
    unfold wipe
    by_cases e : i = w
    · subst e
      by_cases m : i ∈ vs
      · rw [wipe_setR m]
      · have key : ∀ (us : List Nat), i ∉ us → wipe (σ.set i v) us = (wipe σ us).set i v := by
          intro us hu
          induction us with
          | nil => rfl
          | cons u us ih =>
            simp only [List.mem_cons, not_or] at hu
            unfold wipe
            rw [ih hu.2, List.set_comm _ _ hu.1]
        rw [key vs m, List.set_set]
    · rw [wipe_setR ((List.mem_cons.mp h).resolve_left e)]
/-- the scope's facts -/
structure RefScope (a e sm nm n1 n2 : Str) (sg scope : Scope) (own : List (Str × Nat)) : Prop where
  nd : [a, e, sm, nm, n1, n2].Nodup
  la : sg.names.lookup a = some .local
  le : sg.names.lookup e = some .local
  ls : sg.names.lookup sm = some .local
  ln : sg.names.lookup nm = some .local
  gl : ∀ s : Str, s = "isinstance" ∨ s = "len" ∨ s = "FloorError" ∨ s = "ValueError" ∨ s ∈ refNames → sg.names.lookup s = some .globalImplicit
  blk : blkC [a, e, sm, nm, n1, n2] sg scope own = true
  o4 : 4 ∈ own.map (·.2)
  o5 : 5 ∈ own.map (·.2)
  o3 : 3 ∉ own.map (·.2)
  c1 : scope.names.lookup n1 = some .local
  c2 : scope.names.lookup n2 = some .local
  sw : (scope.names.any fun (n, k) => n == nm && (k == .local || k == .cell)) = false
  kind : sg.kind = .function
  dn : ∀ s, s = a ∨ s = e ∨ s = sm ∨ s = nm ∨ s = n1 ∨ s = n2 → (s == ("__debug__" : Str)) = false ∧ (s == ("__classdict__" : Str)) = false
/-- the suite -/
theorem suite_ok {a sm nm n1 n2 : Str} {sg scope : Scope} {own : List (Str × Nat)} {es : List Expr} {k j1 j2 j3 : Nat} {q1 q2 q3 q4 q5 q6 q7 q8 q9 q10 q11 q12 q13 q14 q15 q16 q17 q18 q19 q20 q21 q22 q23 q24 q25 q26 q27 q28 q29 : Pos}
    (S : RefScope a e sm nm n1 n2 sg scope own) (hZN : Z.N = [a, e, sm, nm, n1, n2]) (hZs : Z.env.scope = sg) (mi : ∀ s : Str, s = "isinstance" ∨ s = "len" ∨ s = "ValueError" → Z.mg s = none)
    (hes : tupsC e es = some refNames) (hline : (q4.line == q11.line) = true)
    (hz : L2N.Zn (.ref D) none oe) (hf : ∃ vs, oe.data = .fields vs) (rc : RefCls Z.K Z.mg c D) (hc : c ∈ refNames) :
    PSs (Z.suite ae ((ae, oe) :: pn)) [.Assign [.Name sm q1] (.List es q2) q3,
      .Assign [.Name nm q4] (.ListComp (.Name n1 q5) [⟨.Tuple [.Name n1 q6, .Name n2 q7] k q8, .Name sm q9, [.Name n2 q10], 0⟩] scope q11) q12,
      .If (.BoolOp .And [.Compare (.Call (.Name "len" q13) [.Name nm q14] [] q15) [.Eq] [.Constant (.int 1) j1 q16] q17, .Call (.Name "isinstance" q18) [.Name e q19, .Name "ValueError" q20] [] q21] q22)
        [.Return (some (.Subscript (.Name nm q23) (.Constant (.int 0) j2 q24) q25)) q26] [] q27,
      .Return (some (.Constant (.str "several") j3 q28)) q29]
      (fun De σ H => σ.length = 6 ∧ σ[1]? = some (some (.ref ae)) ∧ ∀ H', (∀ b o, H b = some o → H' b = some o) → De.rt (.str c) H') := by
  have hZN' := hZN
  have at_ : ∀ (i : Nat) (x : Str), [a, e, sm, nm, n1, n2][i]? = some x → Z.N[i]? = some x := fun i x h => by rw [hZN]; exact h
  have gl : ∀ s : Str, s = "isinstance" ∨ s = "len" ∨ s = "FloorError" ∨ s = "ValueError" ∨ s ∈ refNames → Gl Z s := fun s h => by unfold Gl; show Z.env.scope.names.lookup s = _; rw [hZs]; exact S.gl s h
  have vis : ∀ {x : Str}, sg.names.lookup x = some .local → Vis Z.env.scope x := fun {x} h => by rw [hZs]; exact .inl h
  have lo : ∀ {x : Str}, sg.names.lookup x = some .local → Z.env.scope.names.lookup x = some .local := fun {x} h => by rw [hZs]; exact h
  have hot : L2H.HotC (Z.suite ae ((ae, oe) :: pn)) := by
    obtain ⟨vs, hv⟩ := hf
    exact ⟨(ae, oe), ⟨rfl, vs, hv, hz.2.2 vs hv⟩, List.mem_cons_self⟩
  have nd : Z.N.Nodup := by rw [hZN]; exact S.nd
  have pe_nm := fun (q : Pos) => pe_var (X := Z.suite ae ((ae, oe) :: pn)) (pos := q) (i := 3) (at_ 3 nm rfl) (vis S.ln) (S.dn nm (by simp)).1 (S.dn nm (by simp)).2
  have pe_e := fun (q : Pos) => pe_var (X := Z.suite ae ((ae, oe) :: pn)) (pos := q) (i := 1) (at_ 1 e rfl) (vis S.le) (S.dn e (by simp)).1 (S.dn e (by simp)).2
  have pe_sm := fun (q : Pos) => pe_var (X := Z.suite ae ((ae, oe) :: pn)) (pos := q) (i := 2) (at_ 2 sm rfl) (vis S.ls) (S.dn sm (by simp)).1 (S.dn sm (by simp)).2
  have els := el_ok (Z := Z) (ae := ae) (oe := oe) (pn := pn) (e := e) (c := c) (D := D) hz.zc hf rc (at_ 1 e rfl) (vis S.le) (S.dn e (by simp)).1 (S.dn e (by simp)).2 (gl _ (by simp)) (mi _ (by simp)) es refNames hes fun s hs => ⟨hs, gl s (by simp [hs]), by
    unfold refNames at hs
    simp only [List.mem_cons, List.not_mem_nil, or_false] at hs
    rcases hs with rfl | rfl | rfl | rfl | rfl | rfl | rfl | rfl | rfl | rfl | rfl | rfl | rfl <;> decide +kernel⟩
  have s1 : PS (Z.suite ae ((ae, oe) :: pn)) (.Assign [.Name sm q1] (.List es q2) q3) _ := ps_set (i := 2) nd (at_ 2 sm rfl) (.inl (lo S.ls)) (pe_lst els) (hf := .inr (lo S.ls))
  have s2 : PS (Z.suite ae ((ae, oe) :: pn)) (.Assign [.Name nm q4] (.ListComp (.Name n1 q5) [⟨.Tuple [.Name n1 q6, .Name n2 q7] k q8, .Name sm q9, [.Name n2 q10], 0⟩] scope q11) q12) _ :=
    ps_setLcH (i := 3) (n := 2) (own := own) (tl := tVar 2) (te := tVar 4) (tt := tB (tVar 5)) (g := gCons (gName 4) (gCons (gName 5) gNil)) hot nd (at_ 3 nm rfl) (lo S.ln) (sw_true (show Z.env.scope.kind = _ by rw [hZs]; exact S.kind) (lo S.ln) hline S.sw) (pe_sm q9)
      (by show BlkOk Z.N Z.env.scope scope own; rw [hZN, hZs]; exact blkOk_by S.blk)
      (fun s H C cl fp => pgs_cons (pg_name nd (at_ 4 n1 rfl) (.inl (lookup_relS_keep (sc := Z.env.scope) (by decide) S.c1)) (.inr (lookup_relS_keep (sc := Z.env.scope) (by decide) S.c1))) (pgs_cons (pg_name nd (at_ 5 n2 rfl) (.inl (lookup_relS_keep (sc := Z.env.scope) (by decide) S.c2)) (.inr (lookup_relS_keep (sc := Z.env.scope) (by decide) S.c2))) pgs_nil))
      (fun s H C cl fp => pts_one (pt_val (pe_var (i := 5) (at_ 5 n2 rfl) (.inl (lookup_relS_keep (sc := Z.env.scope) (by decide) S.c2)) (S.dn n2 (by simp)).1 (S.dn n2 (by simp)).2)))
      (fun s H C cl fp => pe_var (i := 4) (at_ 4 n1 rfl) (.inl (lookup_relS_keep (sc := Z.env.scope) (by decide) S.c1)) (S.dn n1 (by simp)).1 (S.dn n1 (by simp)).2) (fun _ => rfl) (fun _ => rfl)
  have t1 : PT (Z.suite ae ((ae, oe) :: pn)) (.Compare (.Call (.Name "len" q13) [.Name nm q14] [] q15) [.Eq] [.Constant (.int 1) j1 q16] q17) _ :=
    pt_cmpR (op_eq) (pe_callB call_len (gl _ (by simp)) (mi _ (by simp)) (by decide +kernel) (pa_cons (pe_nm q14) pa_nil)) pe_int rfl
  have t2 : PE (Z.suite ae ((ae, oe) :: pn)) (.Call (.Name "isinstance" q18) [.Name e q19, .Name "ValueError" q20] [] q21) _ :=
    pe_callB (call_isE rc.exc hz.zc hf) (gl _ (by simp)) (mi _ (by simp)) PyProof.Rows.boot_isinstance (pa_cons (pe_e q19) (pa_cons (pe_bltn (v := .ty "ValueError") (gl "ValueError" (by simp)) (mi _ (by simp)) (by decide +kernel) rfl) pa_nil))
  have s3 : PS (Z.suite ae ((ae, oe) :: pn)) (.If (.BoolOp .And [.Compare (.Call (.Name "len" q13) [.Name nm q14] [] q15) [.Eq] [.Constant (.int 1) j1 q16] q17, .Call (.Name "isinstance" q18) [.Name e q19, .Name "ValueError" q20] [] q21] q22)
        [.Return (some (.Subscript (.Name nm q23) (.Constant (.int 0) j2 q24) q25)) q26] [] q27) _ :=
    ps_if (pw_and t1 (pw_and1 (pt_val t2))).pt (pss_one (ps_ret (pe_ix ix_list (pe_nm q23) pe_int (plain_ix rfl)))) pss_never
  refine pss_imp (pss_cons s1 (pss_cons s2 (pss_cons s3 (pss_never)))) fun De σ H ⟨hl, h1, q⟩ => ?_
  refine ⟨h1, fun ps H1 e1 tu => ?_⟩
  have hlen := tu.len
  rw [List.length_map] at hlen
  have hl13 : refNames.length = 13 := rfl
  refine ⟨by rw [List.length_map, hlen, sizeLine_eq]; decide, fun L hL => ?_⟩
  -- the comprehension
  have tu1 := tu.ext (ext_upd (o := .lst (ps.map V.ref)) hL)
  refine ⟨.ref L, by rw [List.getElem?_set_self (by omega)], L, rfl, ⟨_, SqL.of upd_same⟩, fun Dn hDn => ?_⟩
  have hLn : L ≠ Dn := fun z => by rw [← z, upd_same] at hDn; cases hDn
  refine lc_list (xs := ps.map V.ref) (Qd := fun H2 => _) (fun i H2 => H2 L = some (.lst (ps.map V.ref)) ∧ TuL H2 ps (refNames.map fun s => (s, s == c)) ∧ H2 Dn = some (.lst (pick ((refNames.map fun s => (s, s == c)).take i))) ∧ ∀ b o, H1 b = some o → H2 b = some o) ?_ ?_ ?_ ?_
  · exact ⟨by rw [upd_ne hLn]; exact upd_same, tu1.ext (ext_upd hDn), upd_same, fun b o h => ext_upd hDn _ _ (ext_upd hL _ _ h)⟩
  · exact fun i H2 _ p => SqL.of p.1
  · rintro i x H2 hx ⟨hL2, tu2, hD2, e2⟩
    obtain ⟨p, s, b, rfl, hr, hp⟩ := tu2.get i x hx
    have l6 : (wipe (σ.set 2 (some (.ref L))) (own.map (·.2))).length = 6 := by rw [wipe_length, List.length_set, hl]
    refine ⟨p, [.str s, .bl b], rfl, SqT.of hp, rfl, _, _, rfl, _, _, rfl, rfl, ?_⟩
    refine ⟨by rw [wipe_setR S.o5, wipe_setR S.o4, wipe_wipe], .bl b, by rw [List.getElem?_set_self (by rw [List.length_set]; omega)], b, rfl, ?_⟩
    have pks := pick_snoc _ i s b hr
    cases b with
    | false =>
      dsimp only
      rw [if_neg Bool.false_ne_true] at pks ⊢
      exact ⟨hL2, tu2, by rw [pks]; exact hD2, e2⟩
    | true =>
      dsimp only
      rw [if_pos rfl] at pks ⊢
      refine ⟨.str s, by rw [List.getElem?_set_ne (by decide), List.getElem?_set_self (by omega)], _, hD2, ?_, ?_⟩
      · have := pick_len ((refNames.map fun s => (s, s == c)).take i)
        rw [List.length_take, List.length_map, hl13] at this
        have hz2 := sizeLine_eq
        omega
      · refine ⟨by rw [upd_ne hLn]; exact hL2, ?_, by rw [pks]; exact upd_same, fun b o h => ?_⟩
        · have key : ∀ {qs : List Addr} {rs : List (Str × Bool)}, TuL H2 qs rs → TuL (upd H2 Dn (.lst (pick ((refNames.map fun s => (s, s == c)).take i) ++ [.str s]))) qs rs := fun {qs rs} t => by
            induction t with
            | nil => exact .nil
            | cons h1 _ ih => exact .cons (by rw [upd_ne (fun z => by rw [z, hD2] at h1; cases h1)]; exact h1) ih
          exact key tu2
        · by_cases z : b = Dn
          · exfalso
            rw [z] at h
            have := ext_upd (o := HO.lst (ps.map V.ref)) hL _ _ h
            rw [hDn] at this
            cases this
          · rw [upd_ne z]; exact e2 b o h
  · rintro H2 ⟨hL2, tu2, hD2, e2⟩
    rw [List.length_map, hlen, List.take_of_length_le (by rw [List.length_map]; exact Nat.le_refl _), pick_one hc] at hD2
    have g3 : ((σ.set 2 (some (V.ref L))).set 3 (some (.ref Dn)))[3]? = some (some (.ref Dn)) := List.getElem?_set_self (by rw [List.length_set]; omega)
    have g1 : ((σ.set 2 (some (V.ref L))).set 3 (some (.ref Dn)))[1]? = some (some (.ref ae)) := by rw [List.getElem?_set_ne (by decide), List.getElem?_set_ne (by decide)]; exact h1
    refine ⟨.ref Dn, g3, .ref Dn, 1, rfl, .inl ⟨_, SqL.of hD2, rfl⟩, rfl, true, rfl, ?_⟩
    dsimp only
    rw [if_pos rfl]
    refine ⟨.ref ae, g1, .ty "ValueError", .type "ValueError", true, rfl, fun u r => r, rc.val, true, rfl, ?_⟩
    dsimp only
    rw [if_pos rfl]
    exact ⟨.ref Dn, g3, Dn, _, 0, .str c, rfl, rfl, SqL.of hD2, rfl, q H2 fun b o h => e2 b o (e1 b o h)⟩
end
theorem takes0S {X : Cx} : L2N.Takes X (fun _ _ _ _ => False) := fun _ _ x => by
  obtain ⟨_, _, _, _, _, _, _, _, _, _, _, _, _, _, _, _, z⟩ := x
  exact z.elim
/-- the def's text -/
abbrev refBody (a e sm nm n1 n2 : Str) (scope : Scope) (es : List Expr) (k j1 j2 j3 j4 : Nat) (p1 p2 p3 p4 p5 p6 p7 p8 q1 q2 q3 q4 q5 q6 q7 q8 q9 q10 q11 q12 q13 q14 q15 q16 q17 q18 q19 q20 q21 q22 q23 q24 q25 q26 q27 q28 q29 : Pos) : List Stmt :=
  [.Try [.Expr (.Call (.Name a p1) [] [] p2) p3] [.ExceptHandler (some (.Name "FloorError" p4)) (some e) [.Assign [.Name sm q1] (.List es q2) q3,
      .Assign [.Name nm q4] (.ListComp (.Name n1 q5) [⟨.Tuple [.Name n1 q6, .Name n2 q7] k q8, .Name sm q9, [.Name n2 q10], 0⟩] scope q11) q12,
      .If (.BoolOp .And [.Compare (.Call (.Name "len" q13) [.Name nm q14] [] q15) [.Eq] [.Constant (.int 1) j1 q16] q17, .Call (.Name "isinstance" q18) [.Name e q19, .Name "ValueError" q20] [] q21] q22)
        [.Return (some (.Subscript (.Name nm q23) (.Constant (.int 0) j2 q24) q25)) q26] [] q27,
      .Return (some (.Constant (.str "several") j3 q28)) q29] p5] [] [] p6, .Return (some (.Constant .none j4 p7)) p8]
theorem refusal_gives {X : Cx} {x a e sm nm n1 n2 : Str} {sg scope : Scope} {own : List (Str × Nat)} {g FE : Addr} {cdg : Value} {es : List Expr} {k j1 j2 j3 j4 : Nat} {p1 p2 p3 p4 p5 p6 p7 p8 q1 q2 q3 q4 q5 q6 q7 q8 q9 q10 q11 q12 q13 q14 q15 q16 q17 q18 q19 q20 q21 q22 q23 q24 q25 q26 q27 q28 q29 : Pos}
    (S : RefScope a e sm nm n1 n2 sg scope own) (mi : ∀ s : Str, s = "isinstance" ∨ s = "len" ∨ s = "ValueError" → X.mg s = none) (hFE : X.mg "FloorError" = some (.ref FE))
    (hes : tupsC e es = some refNames) (hline : (q4.line == q11.line) = true) :
    GivesN X [a, e, sm, nm, n1, n2] x sg g cdg (refBody a e sm nm n1 n2 scope es k j1 j2 j3 j4 p1 p2 p3 p4 p5 p6 p7 p8 q1 q2 q3 q4 q5 q6 q7 q8 q9 q10 q11 q12 q13 q14 q15 q16 q17 q18 q19 q20 q21 q22 q23 q24 q25 q26 q27 q28 q29) a (TTref X.K X.mg) := by
  intro f s H Q tl act h
  have st := L2N.ps_try_as (X := (cxOf C8.CX0 X.prog X.w X.K X.mg X.base [a, e, sm, nm, n1, n2] x sg g cdg X.A X.stack s H C8.E0).nox) (c := .ref FE) (i := 1) (n := e) (x := "FloorError") (np := p4) (pos' := p5) (pos := p6) (Wout := fun _ _ _ _ => False)
    (body := [.Expr (.Call (.Name a p1) [] [] p2) p3])
    (tb := fun W D σ Hn => ∃ Ech : XK, (∀ cls d σ' H', Ech cls d H' → W cls d σ' H') ∧ σ[0]? = some (some (.ref f)) ∧ Hn = H ∧ tl Ech Hn (fun _ H1 => D.nx σ H1))
    (ts := fun ae cls d D σ H => ∃ (c : Str) (D0 : Addr) (σ0 : L2.St), cls = .ref D0 ∧ d = none ∧ c ∈ refNames ∧ RefCls X.K X.mg c D0 ∧ σ = σ0.set 1 (some (.ref ae)) ∧ ∀ H', (∀ b o, H b = some o → H' b = some o) → D.rt (.str c) H')
    rfl rfl S.nd rfl S.le ⟨S.gl "FloorError" (by simp), by decide, .inl hFE⟩ takes0S
    (fun W pn xe tk _ => ⟨fun pins s' σ H' D I ⟨Ech, hW, h1, h2, h3⟩ => (pss_one (ps_expr (act W pn xe Ech p1 p2 tk hW))).run pins s' σ H' D I ⟨h1, h2, h3⟩⟩)
    (fun ae oe cls d pn hz hf => ⟨fun pins s' σ H' D I ⟨c, D0, σ0, e1, e2, hcn, rc, e3, q⟩ => by
      subst e1 e2
      have hl : σ.length = 6 := I.len
      refine (suite_ok (Z := (cxOf C8.CX0 X.prog X.w X.K X.mg X.base [a, e, sm, nm, n1, n2] x sg g cdg X.A X.stack s H C8.E0).nox) (k := k) (j1 := j1) (j2 := j2) (j3 := j3) (q1 := q1) (q2 := q2) (q3 := q3) (q4 := q4) (q5 := q5) (q6 := q6) (q7 := q7) (q8 := q8) (q9 := q9) (q10 := q10) (q11 := q11) (q12 := q12) (q13 := q13) (q14 := q14) (q15 := q15) (q16 := q16) (q17 := q17) (q18 := q18) (q19 := q19) (q20 := q20) (q21 := q21) (q22 := q22) (q23 := q23) (q24 := q24) (q25 := q25) (q26 := q26) (q27 := q27) (q28 := q28) (q29 := q29) S rfl rfl mi hes hline hz hf rc hcn).run pins s' σ H' D I ⟨hl, ?_, q⟩
      have hl2 : σ0.length = 6 := by rw [e3, List.length_set] at hl; exact hl
      rw [e3, List.getElem?_set_self (by omega)]⟩)
  refine ⟨_, pss_cons st (pss_one (ps_ret pe_non)), ?_⟩
  refine ⟨fun (cls : Value) (d : Option Addr) (H1 : Hp) => ∃ (c : Str) (D : Addr), cls = .ref D ∧ d = none ∧ c ∈ refNames ∧ RefCls X.K X.mg c D ∧ ∀ H2 : Hp, (∀ b o, H1 b = some o → H2 b = some o) → Q (.str c) H2, ?_, rfl, rfl, h⟩
  rintro cls d σ' H' ⟨c, D, rfl, rfl, hcn, rc, q⟩
  obtain ⟨FE2, h1, h2⟩ := rc.base
  have z := h1.symm.trans hFE
  cases z
  exact ⟨true, h2, fun _ ae _ => ⟨c, D, σ', rfl, rfl, hcn, rc, rfl, q⟩, fun z => by cases z⟩

end CPS
section CPL

/-! ## Lambdas kept in a list, each handed to the def that tells what was refused -/
/-- the lambda at f, its code object at c' -/
def LamO (X : Cx) (params : Arguments) (body : Expr) (scope : Scope) (f c' : Addr) : HO := .ext fun h => ∃ pm ctv, h.get? f = some (PySem.W.kla_obj "<lambda>" (X.env.qual ++ "<lambda>") params body scope (cloFrom X.env.cells scope.names []) pm c' ctv)
theorem lamO_nt {X : Cx} {params : Arguments} {body : Expr} {scope : Scope} {f c' : Addr} : NT (LamO X params body scope f c') := fun ps e => by
  unfold LamO at e; cases e
theorem codeO_nt {c : Addr} {q : Str} : NT (LamX.CodeO c q) := fun ps e => by
  unfold LamX.CodeO at e; cases e
theorem oneHeap_at {c : Addr} {o : Obj} (h : o.data ≠ .freed) : (oneHeap c o).get? c = some o := by
  unfold Heap.get? oneHeap
  obtain ⟨a, b, d, e⟩ := o
  simp
  split
  · rename_i h2; simp at h2; exact absurd h2.2.2.1 h
  · rfl
theorem lamO_dct {X : Cx} {params : Arguments} {body : Expr} {scope : Scope} {f c' : Addr} {xs : List DEnt} : LamO X params body scope f c' ≠ DctO f xs := fun h => by
  unfold LamO DctO at h
  injection h with h
  have h2 := congrFun h (oneHeap f (PySem.W.kla_obj "<lambda>" (X.env.qual ++ "<lambda>") params body scope (cloFrom X.env.cells scope.names []) .none c' .none))
  have h3 := (show ∃ pm ctv, (oneHeap f (PySem.W.kla_obj "<lambda>" (X.env.qual ++ "<lambda>") params body scope (cloFrom X.env.cells scope.names []) .none c' .none)).get? f = some (PySem.W.kla_obj "<lambda>" (X.env.qual ++ "<lambda>") params body scope (cloFrom X.env.cells scope.names []) pm c' ctv) from ⟨.none, .none, oneHeap_at (fun z => by unfold PySem.W.kla_obj at z; cases z)⟩)
  rw [h2] at h3
  obtain ⟨_, _, _, _, o, es, ep, e1, _, e3, _⟩ := h3
  rw [oneHeap_at (fun z => by unfold PySem.W.kla_obj at z; cases z)] at e1
  cases e1
  unfold PySem.W.kla_obj at e3
  cases e3
section
variable {X : Cx} {pins : List (Addr × Obj)} {σ : L2.St} {H : Hp} {s : Shared}
/-- a lambda is made, and known from then on -/
theorem lam_make3 {T : List (Addr × Str)} {c P : Addr} {params : Arguments} {body : Expr} {scope : Scope} {pos : Pos} {Ex : Value → Shared → Prop} {Qv : Value → Shared → Prop} (I : Inv X pins σ H s) (TB : LamX.TabB X.base X.mg c P) (hcode : X.env.code = .ref c)
    (hm : (P, X.env.qual ++ "<lambda>") ∈ T) (hu : ∀ p ∈ T, p.1 = P → p.2 = X.env.qual ++ "<lambda>") (hT : LamX.Tabs T H) (hdef : defaultsOf params X.env = ([], [])) (hfree : ∀ y ∈ scope.names, y.2 = .free → ∃ c, X.env.cells.lookup y.1 = some c)
    (h : ∀ (f c' : Addr) (H1 : Hp) (s1 : Shared), Inv X pins σ H1 s1 → LamX.ExtN H H1 → LamX.Tabs T H1 → H1 f = some (LamO X params body scope f c') → H1 c' = some (LamX.CodeO c' (X.env.qual ++ "<lambda>")) → Qv (.ref f) s1) :
    wpAny (model X.prog X.w) X.A (eval (.Lambda params body scope pos) X.env) Qv Ex s := by
  obtain ⟨tb, hP, tt, among⟩ := hT _ hm
  have hPo : s.heap.get? P = some { cls := .none, data := .fields tb } := I.hok P _ hP
  refine PySem.W.kla_eval hdef ?_
  cases hc : codeAmong pos tb.toList with
  | none =>
    refine PySem.W.kla_makeFunction (mg := X.mg) (c := c) (P := P) (ps := tb) (closure_ok hfree) I.ok.glob (I.mod.glob.keeps I.bk) hcode (TB.code.keeps I.bk) hPo tt hc TB.gP (TB.bm.keeps I.bk) fun c' ctv hp tk kx ge lt hrec htab => ?_
    obtain ⟨c2, oc, vs, t, e2, hoc, hd, hv⟩ := hrec
    cases e2
    have nC : H c' = none := I.hok.fresh ge
    have szl : s.heap.objs.size ≤ hp.objs.size := Nat.le_trans ge (Nat.le_of_lt lt)
    have nF : H hp.objs.size = none := I.hok.fresh szl
    have ne1 : hp.objs.size ≠ c' := Nat.ne_of_gt lt
    have ne2 : hp.objs.size ≠ P := fun z => by rw [z, hP] at nF; cases nF
    have I1 := LamX.inv_table (t' := tk) (more := #[rawInt pos.line, rawInt pos.col, .ref c']) (h' := hp) I hP kx htab ge ⟨oc, vs, t, hoc, hd, hv⟩
    have I2 := I1.laid (t' := tk) (a := hp.objs.size) (o := LamO X params body scope hp.objs.size c') (h' := hp.push (PySem.W.kla_obj "<lambda>" (X.env.qual ++ "<lambda>") params body scope (cloFrom X.env.cells scope.names []) ((X.mg "__name__").getD .none) c' ctv)) (fun b u e => Heap.get?_push_of_some _ e) (Nat.le_refl _)
      ⟨⟨_, _, Heap.get?_push_size _ rfl⟩, ⟨_, Heap.get?_push_size _ rfl⟩, fun h1 h2 ⟨pm, ct, e⟩ st => ⟨pm, ct, st _ e⟩⟩
    have ex : LamX.ExtN H (upd (upd (upd H P (.tbl (tb ++ #[rawInt pos.line, rawInt pos.col, .ref c']))) c' (LamX.CodeO c' (X.env.qual ++ "<lambda>"))) hp.objs.size (LamO X params body scope hp.objs.size c')) := fun b o e n => by
      rw [upd_ne (ne_of_none e nF), upd_ne (ne_of_none e nC), upd_ne (fun z => n tb (Option.some.inj (e.symm.trans (by rw [z]; exact hP))))]
      exact e
    refine h hp.objs.size c' _ _ I2 ex (fun p hpm => ?_) upd_same (by rw [upd_ne (Ne.symm ne1)]; exact upd_same)
    by_cases hb : p.1 = P
    · rw [hu p hpm hb, hb]
      refine ⟨_, by rw [upd_ne (Ne.symm ne2), upd_ne (ne_of_none hP nC), upd_same], by rw [Array.toList_append]; exact PySem.TriplesOk_snoc _ _ _ _ tt, fun p' cv hcv => ?_⟩
      rw [Array.toList_append] at hcv
      rcases LamX.among_app _ tt hcv with z | z
      · obtain ⟨c0, e1, e2⟩ := among p' cv z
        exact ⟨c0, e1, ex _ _ e2 LamX.codeO_ne⟩
      · exact ⟨c', z, by rw [upd_ne (Ne.symm ne1)]; exact upd_same⟩
    · obtain ⟨tb2, a1, a2, a3⟩ := hT p hpm
      refine ⟨tb2, by rw [upd_ne (ne_of_none a1 nF), upd_ne (ne_of_none a1 nC), upd_ne hb]; exact a1, a2, fun p' cv hcv => ?_⟩
      obtain ⟨c0, e1, e2⟩ := a3 p' cv hcv
      exact ⟨c0, e1, ex _ _ e2 LamX.codeO_ne⟩
  | some cv =>
    obtain ⟨c', e, hco⟩ := among pos cv hc
    subst e
    refine PySem.W.kla_makeFunctionHit (mg := X.mg) (c := c) (P := P) (ps := tb) (closure_ok hfree) I.ok.glob (I.mod.glob.keeps I.bk) hcode (TB.code.keeps I.bk) hPo tt hc (TB.bm.keeps I.bk) fun ctv hp tk kx szl => ?_
    have nF : H hp.objs.size = none := I.hok.fresh szl
    have I1 : Inv X pins σ H { s with heap := hp, toks := tk } := I.kept kx
    have I2 := I1.laid (t' := tk) (a := hp.objs.size) (o := LamO X params body scope hp.objs.size c') (h' := hp.push (PySem.W.kla_obj "<lambda>" (X.env.qual ++ "<lambda>") params body scope (cloFrom X.env.cells scope.names []) ((X.mg "__name__").getD .none) c' ctv)) (fun b u e => Heap.get?_push_of_some _ e) (Nat.le_refl _)
      ⟨⟨_, _, Heap.get?_push_size _ rfl⟩, ⟨_, Heap.get?_push_size _ rfl⟩, fun h1 h2 ⟨pm, ct, e⟩ st => ⟨pm, ct, st _ e⟩⟩
    have ex : ∀ b o, H b = some o → upd H hp.objs.size (LamO X params body scope hp.objs.size c') b = some o := fun b o e => by
      rw [upd_ne (ne_of_none e nF)]; exact e
    exact h hp.objs.size c' _ _ I2 (LamX.ExtN.of ex) (hT.ext ex) upd_same (ex _ _ hco)
end
/-- a lambda, as a value -/
theorem pe_lamb {X : Cx} {T : List (Addr × Str)} {c P : Addr} {params : Arguments} {body : Expr} {scope : Scope} {pos : Pos} (TB : LamX.TabB X.base X.mg c P) (hcode : X.env.code = .ref c) (hm : (P, X.env.qual ++ "<lambda>") ∈ T) (hu : ∀ p ∈ T, p.1 = P → p.2 = X.env.qual ++ "<lambda>") (L : LamX.LamS X.env.scope scope) (hdef : defaultsOf params X.env = ([], [])) :
    PE X (.Lambda params body scope pos) (fun _ H Q => LamX.Tabs T H ∧ ∀ (f c' : Addr) (H1 : Hp), LamX.ExtN H H1 → LamX.Tabs T H1 → H1 f = some (LamO X params body scope f c') → H1 c' = some (LamX.CodeO c' (X.env.qual ++ "<lambda>")) → Q (.ref f) H1) :=
  ⟨fun pins s σ H Q I ⟨hT, h⟩ => lam_make3 I TB hcode hm hu hT hdef (L.has I.ok) fun f c' H1 s1 I1 e1 T1 h1 h2 => ⟨.ref f, H1, I1, rfl, h f c' H1 e1 T1 h1 h2⟩⟩
/-! a comprehension whose elements may lean on the def's own state -/
section
variable {X : Cx} {pins : List (Addr × Obj)} {σ : L2.St} {H : Hp} {s : Shared}
theorem lc_own {Q : VK} {elt tg l : Expr} {ifs : List Expr} {scope : Scope} {own : List (Str × Nat)} {pos pos2 : Pos} {wi : TI} {g : TG} {tt : TT} {te : TE} {use : Option (Value → Sem Unit)} {Qf : Value → Shared → Prop}
    (hc : X.calm = true) (hN : X.N.Nodup) (I : Inv X pins σ H s) (hl : PI X tg l wi) (ok : BlkOk X.N X.env.scope scope own)
    (hg : ∀ (s : Shared) (H : Hp) (C : Addr) (cl : List (Str × Addr)) (fp : List Addr), PG (X.blk s H scope (compEnvC scope cl C X.env) fp) tg g)
    (ht : ∀ (s : Shared) (H : Hp) (C : Addr) (cl : List (Str × Addr)) (fp : List Addr), PTs (X.blk s H scope (compEnvC scope cl C X.env) fp) ifs tt)
    (he : ∀ (s : Shared) (H : Hp) (C : Addr) (cl : List (Str × Addr)) (fp : List Addr), Inv X pins σ H s → (∀ b ∈ fp, FpOk X pins H b) → PE (X.blk s H scope (compEnvC scope cl C X.env) fp) elt te) (hs : ∀ x, foldedSetIterable l X.env x = pure x)
    (h : tLc wi g tt te (own.map (·.2)) σ H Q)
    (hRR : ∀ D C s' m H', Inv X pins σ H' s' → Q (.ref D) H' → s'.heap.Ns C m → FpOk X pins H' C → compPost (model X.prog X.w) X.A X.xe use Qf (.ref D) C (.ok .next) s') :
    wpAny (model X.prog X.w) X.A (comprehension (.ListComp elt [⟨tg, l, ifs, 0⟩] scope pos) scope X.env pos2 (newList []) false (eval l X.env) use) Qf X.xe s := by
  have has : ∀ y ∈ scope.names, y.2 = .free → ∃ c, X.env.cells.lookup y.1 = some c := fun y hy e => (ok.free y hy e).elim (fun z => I.ok.has _ (.inl z)) (fun z => I.ok.has _ (.inr z))
  refine wpAny_comprehension_free (use := use) rfl hs (closure_ok has) ok.kind (fun y hy e => by rw [ok.uniq y hy, e]) (thn (hl.run pins s σ H _ I h) fun xv s1 hx1 => thn hx1 fun itv s2 hx2 => ?_)
  obtain ⟨it, fp, tn, J, H2, e, I2, T, st2, f2, q⟩ := hx2
  subst e
  refine wpAny_newObj_type (newEnv_comp ?_) (by show 0 ≤ sizeLine; decide)
  have noD : H2 s2.heap.objs.size = none := I2.hok.fresh (Nat.le_refl _)
  obtain ⟨W, ⟨m0, w0⟩, turn⟩ := q s2.heap.objs.size noD
  have I3 : Inv X pins σ (upd H2 s2.heap.objs.size (.lst [])) { s2 with heap := s2.heap.push { cls := .type "list", data := .seq ([] : List Value).toArray } } :=
    I2.laid (t' := s2.toks) (fun b o e => Heap.get?_push_of_some _ e) (Nat.le_refl _) ⟨Nat.zero_le _, [], 0, .nil, Heap.get?_push_size _ rfl⟩
  have below : ∀ b ∈ fp, b < s2.heap.objs.size := fun b hb => by
    obtain ⟨o, e, _⟩ := T.obj _ _ st2 b hb
    exact Heap.lt_size e
  have f3 : ∀ b ∈ fp, FpOk X pins (upd H2 s2.heap.objs.size (.lst [])) b ∧ b < ({ s2 with heap := s2.heap.push { cls := .type "list", data := .seq ([] : List Value).toArray } } : Shared).heap.objs.size := fun b hb => by
    refine ⟨⟨?_, (f2 b hb).2⟩, by show b < (s2.heap.push _).objs.size; rw [Heap.size_push]; exact Nat.lt_succ_of_lt (below b hb)⟩
    rw [upd_ne (Nat.ne_of_lt (below b hb))]
    exact (f2 b hb).1
  have st3 : tn 0 ({ s2 with heap := s2.heap.push { cls := .type "list", data := .seq ([] : List Value).toArray } } : Shared).heap := T.keep _ _ _ st2 fun b _ o e => Heap.get?_push_of_some _ e
  generalize s2.heap.objs.size = D at w0 turn I3 f3 ⊢
  generalize ({ s2 with heap := s2.heap.push { cls := .type "list", data := .seq ([] : List Value).toArray } } : Shared) = s3 at I3 st3 f3 ⊢
  generalize upd H2 D (.lst []) = H3 at I3 w0 f3
  have I4 := block_start I3 ok hN f3
  have pg := hg s3 H3 s3.heap.objs.size (cellsFrom (s3.heap.objs.size + 1) scope.names (cloFrom X.env.cells scope.names [])) fp
  have pt := ht s3 H3 s3.heap.objs.size (cellsFrom (s3.heap.objs.size + 1) scope.names (cloFrom X.env.cells scope.names [])) fp
  have pe := he s3 H3 s3.heap.objs.size (cellsFrom (s3.heap.objs.size + 1) scope.names (cloFrom X.env.cells scope.names [])) fp I3 fun b hb => (f3 b hb).1
  refine (show codeAny _ _ (.compStart (.ListComp elt [⟨tg, l, ifs, 0⟩] scope pos) 0 (.ref it) (.ref D) (compEnvC scope (cellsFrom (s3.heap.objs.size + 1) scope.names (cloFrom X.env.cells scope.names [])) s3.heap.objs.size X.env)) (compPost (model X.prog X.w) X.A X.xe use Qf (.ref D) s3.heap.objs.size) { s3 with heap := pushCells (s3.heap.push { cls := .type "dict", data := .dict #[] }) scope.names } from ?_)
  generalize hce : compEnvC scope (cellsFrom (s3.heap.objs.size + 1) scope.names (cloFrom X.env.cells scope.names [])) s3.heap.objs.size X.env = ce at I4 pg pt pe ⊢
  have cL : ce.locals = s3.heap.objs.size := by rw [← hce]; rfl
  have st4 : tn 0 (pushCells (s3.heap.push { cls := .type "dict", data := .dict #[] }) scope.names) := T.keep _ _ _ st3 fun b _ o e => pushCells_keeps _ _ _ _ (Heap.get?_push_of_some _ e)
  have nfp : ∀ b ∈ fp, H3 b = none := fun b hb => (f3 b hb).1.1
  refine (show codeAny _ _ _ _ ({ s3 with heap := pushCells (s3.heap.push { cls := .type "dict", data := .dict #[] }) scope.names } : Shared) from ?_)
  generalize hs4 : ({ s3 with heap := pushCells (s3.heap.push { cls := .type "dict", data := .dict #[] }) scope.names } : Shared) = s4 at I4 ⊢
  have st4 : tn 0 s4.heap := by rw [← hs4]; exact st4
  have stat : ∀ {σ' : L2.St} {H' : Hp} {s' : Shared}, Inv (X.blk s3 H3 scope ce fp) [] σ' H' s' → (∀ b ∈ fp, H' b = none) → ∀ b ∈ fp, FpOk (X.blk s3 H3 scope ce fp) [] H' b := fun {σ' H' s'} I' hn b hb =>
    ⟨hn b hb, (I'.ok.exf b hb).1, I'.ok.exfs b hb, .inl hb, fun x c e => (I'.ok.exf b hb).2 x c e, fun p hp => absurd (show p ∈ ([] : List (Addr × Obj)) ++ [] from hp) (by simp)⟩
  have loop : codeAny (model X.prog X.w) X.A (.compLoop (.ListComp elt [⟨tg, l, ifs, 0⟩] scope pos) 0 (.ref it) (.ref D) ce) (compPost (model X.prog X.w) X.A X.xe use Qf (.ref D) s3.heap.objs.size) s4 := by
    refine compLoop_any (fun n s' => ∃ i H', Inv (X.blk s3 H3 scope ce fp) [] (wipe σ (own.map (·.2))) H' s' ∧ tn i s'.heap ∧ (∀ b ∈ fp, H' b = none) ∧ W i n H') ?_ m0 ⟨0, H3, I4, st4, nfp, w0⟩
    rintro n s5 ⟨i, H5, I5, st5, n5, w5⟩
    rcases turn i n H5 w5 with ⟨stop, qq⟩ | ⟨go, Nx, hNx, step⟩
    · refine thnF (T.done (X.blk s3 H3 scope ce fp) rfl rfl rfl hc i [] s5 _ H5 (fun _ _ => False) I5 (stat I5 n5) st5 stop) fun r s6 ⟨hr, I6⟩ => ?_
      subst hr
      have I7 : Inv X pins σ H5 s6 := I3.call' (ch := fp) I6.os I6.base I6.hok I6.bare fun b hb => ⟨(f3 b hb).1.2.2.2.1, (f3 b hb).1.2.1, (f3 b hb).1.2.2.2.2.1, (f3 b hb).1.2.2.2.2.2⟩
      obtain ⟨m, hm6, _⟩ := I6.loc
      have hm6 : Heap.Ns s6.heap ce.locals m := hm6
      have nC : H5 ce.locals = none := I6.free
      rw [cL] at hm6 nC
      exact hRR D s3.heap.objs.size s6 m H5 I7 qq hm6 (I3.fpOk (H' := H5) (Nat.le_refl _) nC)
    · refine thnF (T.item (X.blk s3 H3 scope ce fp) rfl rfl rfl hc i [] s5 _ H5 (fun _ _ => False) I5 (stat I5 n5) st5 go) fun r s6 ⟨u, hr, h6⟩ => ?_
      subst hr
      refine thnF h6 fun _ s7 ⟨x, H7, I7, r7, y7, st7, n7⟩ => ?_
      refine thnF (pg.run _ s7 _ H7 x u _ (I7.pinned (stat I7 n7) (T.obj _ _ st7)) r7 (step x H7 y7)) fun _ s8 ⟨σ8, H8, I8, hw8, q8⟩ => ?_
      refine thnF (pt.run _ s8 σ8 H8 _ I8 q8) fun b s9 ⟨H9, I9, q9⟩ => ?_
      have next : ∀ {s' : Shared} {H' : Hp}, Inv (X.blk s3 H3 scope ce fp) ([] ++ pinsAt fp s7.heap) σ8 H' s' → Nx H' → ∃ m, m < n ∧ ∃ i H', Inv (X.blk s3 H3 scope ce fp) [] (wipe σ (own.map (·.2))) H' s' ∧ tn i s'.heap ∧ (∀ b ∈ fp, H' b = none) ∧ W i m H' := fun {s' H'} I' nx => by
        obtain ⟨m2, hm, w2⟩ := hNx H' nx
        have hl2 : (wipe σ (own.map (·.2))).length = σ8.length := by rw [← hw8, wipe_length]
        have at_ : ∀ b ∈ fp, ∀ o, s7.heap.get? b = some o → s'.heap.get? b = some o ∧ H' b = none := fun b hb o e => ⟨(I'.pin (b, o) (List.mem_append_right _ (List.mem_append_right _ (mem_pinsAt hb e)))).1, (I'.pin (b, o) (List.mem_append_right _ (List.mem_append_right _ (mem_pinsAt hb e)))).2.1⟩
        refine ⟨m2, hm, i + 1, H', (I'.unpinned (pins := [])).weak hl2 (fun j v e => ?_), T.keep _ _ _ st7 fun b hb o e => (at_ b hb o e).1, fun b hb => ?_, w2⟩
        · rw [← hw8] at e
          exact (wipe_some e).1
        · obtain ⟨o, e, _⟩ := T.obj _ _ st7 b hb
          exact (at_ b hb o e).2
      cases b with
      | false =>
        rw [if_neg Bool.false_ne_true] at q9
        refine (show (if false = true then _ else _) from ?_)
        rw [if_neg Bool.false_ne_true]
        exact next I9 q9
      | true =>
        rw [if_pos rfl] at q9
        refine (show (if true = true then _ else _) from ?_)
        rw [if_pos rfl]
        refine thnF (pe.run _ s9 σ8 H9 _ I9 q9) fun z s10 ⟨yv, H10, I10, r10, acc, hD10, hz10, nx⟩ => ?_
        exact app_ok (X := X.blk s3 H3 scope ce fp) I10 hD10 hz10 r10 fun s11 I11 => next I11 nx
  exact codeAny_compStart_list loop (T.self X.A 0 _ _ _ st4 loop)
end

end CPL
section CPM
variable [TB : Tbs]

/-- a lambda's text, and what its body reads -/
structure LamOk (X : Cx) (k : Nat) (params : Arguments) (body : Expr) (scope : Scope) (t : XK → TE) : Prop where
  s : LamX.LamS X.env.scope scope
  d : defaultsOf params X.env = ([], [])
  b : ∀ (q : Str) (cl : List (Str × Addr)) (pm cv ctv : Value), bindArgs (PySem.W.kla_fn "<lambda>" q params body scope cl pm cv ctv) ⟨[], []⟩ = pure []
  r : ∀ (A : Around) (outer : List PySem.Env) (s : Shared) (H : Hp) (E : XK) (f c' : Addr), Room k (A.deeper (LamX.lamEnv X scope s.heap.objs.size f c')) → PE (lamC X A outer s H E scope f c') body (t E)
/-- x(y) within a comprehension, y's value one of the lambdas -/
def tRL (X : Cx) (k ix : Nat) (TT : (XK → Hp → VK → Prop) → Hp → VK → Prop) (σ : L2.St) : TE := fun σb Hb Q => ∃ (f c' : Addr) (params : Arguments) (body : Expr) (scope : Scope) (t : XK → TE), σb[ix]? = some (some (.ref f)) ∧ Hb f = some (LamO X params body scope f c') ∧ Hb c' = some (LamX.CodeO c' (X.env.qual ++ "<lambda>")) ∧ LamOk X k params body scope t ∧ TT (fun E H' Q' => t E σ H' Q') Hb Q
theorem pe_reflam {X : Cx} {pins : List (Addr × Obj)} {σ : L2.St} {s3 : Shared} {H3 : Hp} {TT : (XK → Hp → VK → Prop) → Hp → VK → Prop} {x a y : Str} {g C : Addr} {k ix : Nat} {pg : Arguments} {bg : List Stmt} {sg scope : Scope} {cl : List (Str × Addr)} {fp : List Addr} {dV kV doc pm cdv ct oc : Value} {an od : Option Addr} {osl : Array (Option Value)} {Ng : List Str} {p py pos : Pos}
    (I3 : Inv X pins σ H3 s3) (f3 : ∀ b ∈ fp, FpOk X pins H3 b) (hg : Gl (X.blk s3 H3 scope (compEnvC scope cl C X.env) fp) x) (hm : X.mg x = some (.ref g)) (hk : PySem.W.keepIn X.K (.ref g) = true)
    (lk : X.K.lookup g = some ⟨oc, od, .func (PySem.W.fnOf x x pg bg sg dV kV doc pm an cdv ct), osl⟩) (hcg : PySem.W.codeIn X.K cdv x = true) (hb : L2.Binds X.K (PySem.W.fnOf x x pg bg sg dV kV doc pm an cdv ct) [a] []) (Sg : FnScope Ng [a] sg) (hNg : Ng[0]? = some a) (hva : Vis sg a)
    (hG : GivesN X Ng x sg g cdv bg a TT) (hr : Room (k + 2) X.A) (hy : X.N[ix]? = some y) (hvy : Vis (X.blk s3 H3 scope (compEnvC scope cl C X.env) fp).env.scope y) (hd1 : (y == ("__debug__" : Str)) = false) (hd2 : (y == ("__classdict__" : Str)) = false)
    (hdb : (x == ("__debug__" : Str)) = false) (hd : (a == ("__debug__" : Str)) = false) (hcd : (a == ("__classdict__" : Str)) = false) :
    PE (X.blk s3 H3 scope (compEnvC scope cl C X.env) fp) (.Call (.Name x p) [.Name y py] [] pos) (tRL X k ix TT σ) := by
  refine ⟨fun pb sb σb Hb Q Ib ⟨f, c', params, body, lsc, t, hs, hf, hco, ⟨L, hdef, hbind, hbody⟩, h⟩ => ?_⟩
  refine wpAny_Call_Name_kw (ld_glob Ib hg hm (PySem.W.callWith_K (h₀ := X.base) Ib.ok.mod.kin hk ?_ (by rfl) (by rfl)) hdb)
  have pv := (pe_var (X := X.blk s3 H3 scope (compEnvC scope cl C X.env) fp) (pos := py) (i := ix) hy hvy hd1 hd2).run pb sb σb Hb (fun v H1 => v = .ref f ∧ H1 = Hb) Ib ⟨.ref f, hs, rfl, rfl⟩
  refine (show wpAny _ _ (spliced ((false, eval (.Name y py) (compEnvC scope cl C X.env)) :: backTo pos (starEach [] (compEnvC scope cl C X.env)))) _ _ sb from Calls.spliced_cons (thn pv fun u s1 ⟨v, H1, I1, r1, ev, eH⟩ => Calls.spliced_nil ⟨I1.kIn, wpAny_call ?_⟩))
  subst ev eH
  obtain rfl : u = Value.ref f := r1
  have J : Inv X pins σ H1 s1 := I3.call' (ch := fp) I1.os I1.base I1.hok I1.bare fun b hb => ⟨(f3 b hb).2.2.2.1, (f3 b hb).2.1, (f3 b hb).2.2.2.2.1, (f3 b hb).2.2.2.2.2⟩
  have rc : codeAny (model X.prog X.w) X.A (.call (.ref g) ⟨[.ref f], []⟩) (CR C8.CX0 X.stack X.prog X.w H1 s1 Q C8.E0) s1 :=
    LamX.run_ofS (N := Ng) (ps := [a]) (us := [.ref f]) (vs := [.ref f]) lk hcg Sg hr J.env0 (hb s1 [.ref f] I1.kIn rfl) (.cons rfl .nil) rfl fun hr2 => by
      obtain ⟨t2, ht2, hq2⟩ := hG f s1 H1 Q (fun E H2 Q2 => t E σ H2 Q2) (fun W pn xe E p1 p2 tk hW => pe_actE (CXg := C8.CX0) (Eg := C8.E0) (i := 0) J L (fun h' ho _ => (ho f _ hf).1) hco (fun _ _ => hbind _ _ _ _ _) tk hW hr2 (fun A outer s H hr3 => hbody A outer s H E f c' hr3) hNg hva hd hcd) h
      exact ⟨t2, ht2.nox, hq2⟩
  refine codeAny_mono rc fun r s2 hq => ?_
  match r, hq with
  | .error e, hq => exact (show False from hq).elim
  | .ok (.ret u), hq => exact I1.after hq
  | .ok .next, hq => exact False.elim hq
  | .ok .brk, hq => exact False.elim hq
  | .ok .cont, hq => exact False.elim hq

/-! ## The rows of lambdas, as written and as they stand -/
def constV : Expr → Option V
  | .Constant (.str s) _ _ => some (.str s)
  | .Constant .none _ _ => some .non
  | _ => none
theorem const_rv {K : PySem.W.Frag} {ω α : List Addr} {H : Hp} {e : Expr} {w : V} {d : D} (h : constV e = some w) (k : constD e = some d) : RV K ω α H w d := by
  unfold constV at h
  unfold constD at k
  split at h <;> cases h <;> simp at k <;> subst k
  · exact .str _
  · exact .non
theorem const_pe {X : Cx} {e : Expr} {w : V} (h : constV e = some w) : PE X e (tC w) := by
  unfold constV at h
  split at h <;> cases h
  · exact pe_str
  · exact pe_non
theorem const_star {e : Expr} {w : V} (h : constV e = some w) (r : List Expr) (env : PySem.Env) : starEach (e :: r) env = (false, eval e env) :: starEach r env := by
  unfold constV at h
  split at h <;> cases h <;> rfl
inductive LamVs (X : Cx) (H : Hp) : Bool → List Expr → List V → Prop where
  | nil {b : Bool} : LamVs X H b [] []
  | one {params : Arguments} {body : Expr} {scope : Scope} {lp : Pos} {f c' : Addr} {es : List Expr} {vs : List V} : H f = some (LamO X params body scope f c') → H c' = some (LamX.CodeO c' (X.env.qual ++ "<lambda>")) → LamVs X H false es vs → LamVs X H false (.Lambda params body scope lp :: es) (.ref f :: vs)
  | two {c : Expr} {w : V} {p : Addr} {kk : Nat} {tp : Pos} {params : Arguments} {body : Expr} {scope : Scope} {lp : Pos} {f c' : Addr} {es : List Expr} {vs : List V} : constV c = some w → H p = some (.tup [w, .ref f]) → H f = some (LamO X params body scope f c') → H c' = some (LamX.CodeO c' (X.env.qual ++ "<lambda>")) → LamVs X H true es vs →
      LamVs X H true (.Tuple [c, .Lambda params body scope lp] kk tp :: es) (.ref p :: vs)
theorem LamVs.ext {X : Cx} {H H' : Hp} (e : ∀ b o, H b = some o → NT o → H' b = some o) {b : Bool} {es : List Expr} {vs : List V} (h : LamVs X H b es vs) : LamVs X H' b es vs := by
  induction h with
  | nil => exact .nil
  | one h1 h2 _ ih => exact .one (e _ _ h1 lamO_nt) (e _ _ h2 codeO_nt) ih
  | two h0 h1 h2 h3 _ ih => exact .two h0 (e _ _ h1 (by intro ps z; cases z)) (e _ _ h2 lamO_nt) (e _ _ h3 codeO_nt) ih
theorem LamVs.len {X : Cx} {H : Hp} {b : Bool} {es : List Expr} {vs : List V} (h : LamVs X H b es vs) : vs.length = es.length := by
  induction h with
  | nil => rfl
  | one _ _ _ ih => simp only [List.length_cons, ih]
  | two _ _ _ _ _ ih => simp only [List.length_cons, ih]
inductive LamTs (X : Cx) (k : Nat) (K : PySem.W.Frag) (mg : Str → Option Value) (cf : Nat → List D → Mem → Res D) (dA : D) : Bool → List Expr → List Tm → Prop where
  | nil {b : Bool} : LamTs X k K mg cf dA b [] []
  | one {params : Arguments} {body : Expr} {scope : Scope} {lp : Pos} {t : Tm} {es : List Expr} {ts : List Tm} : LamOk X k params body scope (fun E => tE K mg E cf t) → LamTs X k K mg cf dA false es ts → LamTs X k K mg cf dA false (.Lambda params body scope lp :: es) (lamEl t dA :: ts)
  | two {c : Expr} {w : V} {d : D} {kk : Nat} {tp : Pos} {params : Arguments} {body : Expr} {scope : Scope} {lp : Pos} {t : Tm} {es : List Expr} {ts : List Tm} : constV c = some w → constD c = some d → LamOk X k params body scope (fun E => tE K mg E cf t) → LamTs X k K mg cf dA true es ts →
      LamTs X k K mg cf dA true (.Tuple [c, .Lambda params body scope lp] kk tp :: es) (lamEl t d :: ts)
section
variable {X : Cx} {k : Nat} {K : PySem.W.Frag} {mg : Str → Option Value} {cf : Nat → List D → Mem → Res D} {dA : D}
theorem LamTs.len {b : Bool} {es : List Expr} {ts : List Tm} (h : LamTs X k K mg cf dA b es ts) : ts.length = es.length := by
  induction h with
  | nil => rfl
  | one _ _ ih => simp only [List.length_cons, ih]
  | two _ _ _ _ ih => simp only [List.length_cons, ih]
/-- the row is written -/
theorem pa_lams {c P : Addr} (TBb : LamX.TabB X.base X.mg c P) (hcode : X.env.code = .ref c) (hm : (P, X.env.qual ++ "<lambda>") ∈ TB.T) (hu : ∀ p ∈ TB.T, p.1 = P → p.2 = X.env.qual ++ "<lambda>") {b : Bool} {es : List Expr} {ts : List Tm} (h : LamTs X k K mg cf dA b es ts) :
    PA X es (fun _ H Q => LamX.Tabs TB.T H ∧ ∀ (H1 : Hp) (vs : List V), LamX.ExtN H H1 → LamX.Tabs TB.T H1 → LamVs X H1 b es vs → Q vs H1) := by
  induction h with
  | nil => exact pa_imp pa_nil fun σ H Q ⟨hT, q⟩ => q H [] (LamX.ExtN.refl H) hT .nil
  | one h1 _ ih =>
    refine pa_imp (pa_cons (pe_lamb TBb hcode hm hu h1.s h1.d) ih) fun σ H Q ⟨hT, q⟩ => ?_
    refine ⟨hT, fun f c' H1 e1 T1 a1 a2 => ⟨T1, fun H2 vs e2 T2 lv => q H2 _ (e1.trans e2) T2 (.one (e2 _ _ a1 lamO_nt) (e2 _ _ a2 codeO_nt) lv)⟩⟩
  | two h0 _ h1 _ ih =>
    refine pa_imp (pa_cons (pe_tup (pa_cons (const_pe h0) (pa_cons (pe_lamb TBb hcode hm hu h1.s h1.d) pa_nil) (const_star h0 _ _))) ih) fun σ H Q ⟨hT, q⟩ => ?_
    refine ⟨hT, fun f c' H1 e1 T1 a1 a2 => ⟨by show 2 ≤ sizeLine; rw [sizeLine_eq]; omega, fun p hp => ?_⟩⟩
    exact ⟨T1.ext (ext_upd hp), fun H2 vs e2 T2 lv => q H2 _ (e1.trans ((LamX.ExtN.of (ext_upd hp)).trans e2)) T2 (.two h0 (e2 _ _ upd_same (by intro ps z; cases z)) (e2 _ _ (ext_upd hp _ _ a1) lamO_nt) (e2 _ _ (ext_upd hp _ _ a2) codeO_nt) lv)⟩
end

end CPM
section CPN
variable [TB : Tbs]

/-! ## The row of lambdas walked -/
section
variable {X : Cx} {k : Nat} {K : PySem.W.Frag} {mg : Str → Option Value} {E E0 : XK} {cf : Nat → List D → Mem → Res D} {dA : D}
theorem lam_atA {H : Hp} {es : List Expr} {fs : List V} {ts : List Tm} (hv : LamVs X H false es fs) (ht : LamTs X k K mg cf dA false es ts) : ∀ (i : Nat) (x : V), fs[i]? = some x →
    ∃ (f c' : Addr) (params : Arguments) (body : Expr) (scope : Scope) (t : Tm), x = .ref f ∧ ts[i]? = some (lamEl t dA) ∧ H f = some (LamO X params body scope f c') ∧ H c' = some (LamX.CodeO c' (X.env.qual ++ "<lambda>")) ∧ LamOk X k params body scope (fun E => tE K mg E cf t) := by
  generalize hb : false = b at hv ht
  induction hv generalizing ts with
  | nil => intro i x h; simp at h
  | one h1 h2 _ ih =>
    intro i x h
    cases ht with
    | one a1 a2 =>
      cases i with
      | zero => simp at h; subst h; exact ⟨_, _, _, _, _, _, rfl, rfl, h1, h2, a1⟩
      | succ i => exact ih rfl a2 i x (by simpa using h)
  | two => cases hb
theorem lam_atB {H : Hp} {es : List Expr} {fs : List V} {ts : List Tm} (hv : LamVs X H true es fs) (ht : LamTs X k K mg cf dA true es ts) : ∀ (i : Nat) (x : V), fs[i]? = some x →
    ∃ (p : Addr) (e : Expr) (w : V) (d : D) (f c' : Addr) (params : Arguments) (body : Expr) (scope : Scope) (t : Tm), x = .ref p ∧ H p = some (.tup [w, .ref f]) ∧ constV e = some w ∧ constD e = some d ∧ ts[i]? = some (lamEl t d) ∧ H f = some (LamO X params body scope f c') ∧ H c' = some (LamX.CodeO c' (X.env.qual ++ "<lambda>")) ∧ LamOk X k params body scope (fun E => tE K mg E cf t) := by
  generalize hb : true = b at hv ht
  induction hv generalizing ts with
  | nil => intro i x h; simp at h
  | one => cases hb
  | two h0 h1 h2 h3 _ ih =>
    intro i x h
    cases ht with
    | two a0 a00 a1 a2 =>
      cases i with
      | zero => simp at h; subst h; exact ⟨_, _, _, _, _, _, _, _, _, _, rfl, h1, h0, a00, rfl, h2, h3, a1⟩
      | succ i => exact ih rfl a2 i x (by simpa using h)
theorem LamVs.ext2 {H H' : Hp} (e : ∀ b o, H b = some o → (∀ zs, o ≠ .lst zs) → (∀ zs, o ≠ DctO b zs) → NT o → H' b = some o) {b : Bool} {es : List Expr} {vs : List V} (h : LamVs X H b es vs) : LamVs X H' b es vs := by
  have n1 : ∀ {params : Arguments} {body : Expr} {scope : Scope} {f c' : Addr} (zs : List V), LamO X params body scope f c' ≠ .lst zs := fun zs z => by unfold LamO at z; cases z
  have n2 : ∀ {c' : Addr} {qn : Str} (zs : List V), LamX.CodeO c' qn ≠ .lst zs := fun zs z => by unfold LamX.CodeO at z; cases z
  induction h with
  | nil => exact .nil
  | one h1 h2 _ ih => exact .one (e _ _ h1 n1 (fun _ => lamO_dct) lamO_nt) (e _ _ h2 n2 (fun _ => code_ne) codeO_nt) ih
  | two h0 h1 h2 h3 _ ih => exact .two h0 (e _ _ h1 (fun zs z => by cases z) (fun zs z => by unfold DctO at z; cases z) (fun ps z => by cases z)) (e _ _ h2 n1 (fun _ => lamO_dct) lamO_nt) (e _ _ h3 n2 (fun _ => code_ne) codeO_nt) ih
/-- one of them -/
theorem lam_turn (cls : ∀ c ∈ refNames, ∃ D, RefCls K mg c D) {ω α : List Addr} {b : Nat} {ρ : Env} {M M5 : Mem} {σ : L2.St} {H : Hp} {t : Tm} {d v : D} {w : V} (sm : Sim K ω α H M) (rs : RS K ω α H σ ρ) (hb : b ≤ M.length) (hw : ∀ ω α H, RV K ω α H w d) (h : evE cf b (lamEl t d) ρ M = .ok v M5) {G Qx : VK}
    (hG : ∀ α' H' y, Stp α H α' H' → Sim K ω α' H' M5 → Pres b M M5 → RV K ω α' H' y v → G y H') (hQ : ∀ x H1, Ap K mg E0 .eq [x, w] H1 G → Qx x H1) : TTref K mg (fun E' H' Q' => tE K mg E' cf t σ H' Q') H Qx := by
  refine ⟨ω, α, b, ρ, M, sm, rs, hb, ?_⟩
  have h : ((refE (evE cf b t ρ M)).bind fun x M1 => okB (eqE M1 x d) M1) = .ok v M5 := by
    rw [← h]
    show _ = ((((refE (evE cf b t ρ M)).bind fun x M1 => ((Res.ok d M1 : Res D).bind fun y M2 => (Res.ok [] M2 : Res (List D)).bind fun ds M3 => .ok (y :: ds) M3).bind fun ds M2 => .ok (x :: ds) M2)).bind fun ds M1 => primE b .eq ds M1)
    cases refE (evE cf b t ρ M) <;> rfl
  have fin : ∀ (x : D) (M1 : Mem) (α2 : List Addr) (H2 : Hp) (vx : V), okB (eqE M1 x d) M1 = .ok v M5 → Stp α H α2 H2 → Sim K ω α2 H2 M1 → Pres b M M1 → RV K ω α2 H2 vx x → Qx vx H2 := fun x M1 α2 H2 vx e st2 sm2 pr2 rx => by
    refine hQ vx H2 ⟨ω, α2, b, M1, [x, d], sm2, Nat.le_trans hb pr2.len, .cons rx (.cons (hw _ _ _) .nil), ?_⟩
    refine (show Post K ω mg E0 b α2 H2 M1 (okB (eqE M1 x d) M1) _ from ?_)
    rw [e]
    exact fun α3 H3 st3 sm3 pr3 y ry => hG α3 H3 y (st2.trans st3) sm3 (pr2.trans pr3) ry
  cases hev : evE cf b t ρ M with
  | stuck => rw [hev] at h; cases h
  | ok x M1 =>
    rw [hev] at h
    exact fun α2 H2 st2 sm2 pr2 v2 _ => fin .non M1 α2 H2 .non h st2 sm2 pr2 .non
  | exc c0 M1 =>
    rw [hev] at h
    by_cases hc : refNames.contains c0 = true
    · have h : okB (eqE M1 (.str c0) d) M1 = .ok v M5 := by
        have e : refE (.exc c0 M1 : Res D) = .ok (.str c0) M1 := if_pos hc
        rw [e] at h
        exact h
      have hc : c0 ∈ refNames := by simpa using hc
      intro α2 H2 C st2 sm2 pr2 hC
      obtain ⟨Dc, rc⟩ := cls c0 hc
      have e : Dc = C := by
        have z := rc.at_.symm.trans hC
        cases z
        rfl
      subst e
      refine ⟨c0, Dc, rfl, rfl, hc, rc, fun H3 e3 => ?_⟩
      obtain ⟨sm3, st3⟩ := sm2.growT (fun b o h _ => e3 b o h) (sm2.tab.ext e3)
      exact fin (.str c0) M1 α2 H3 (.str c0) h (st2.trans st3) sm3 pr2 (.str c0)
    · have e : refE (.exc c0 M1 : Res D) = .stuck := if_neg hc
      rw [e] at h
      cases h
/-- the target, and what each is held against -/
def gL (K : PySem.W.Frag) (ix inm : Nat) : Bool → TG
  | false => gName ix
  | true => gTup K 2 (gCons (gName inm) (gCons (gName ix) gNil))
def rhsT (wA : V) (inm : Nat) : Bool → TE
  | false => tC wA
  | true => tVar inm
theorem toTms_ev {b : Nat} {ρ : Env} {M : Mem} {t : Tm} {ts : List Tm} : evEs cf b (toTms (t :: ts)) ρ M = (evE cf b t ρ M).bind fun d M1 => (evEs cf b (toTms ts) ρ M1).bind fun ds M2 => .ok (d :: ds) M2 := rfl
theorem lams_lc (cls : ∀ c ∈ refNames, ∃ D, RefCls K mg c D) {own : List Nat} {ix inm iy : Nat} {L : Addr} {bb : Bool} {es : List Expr} {fs : List V} {ts : List Tm} {wA : V} {σ : L2.St} {H : Hp} {Q : VK} (hlv : LamVs X H bb es fs) (hL : H L = some (.lst fs)) (hy : σ[iy]? = some (some (.ref L))) (hts : LamTs X k K mg cf dA bb es ts)
    (hwA : ∀ ω α H, RV K ω α H wA dA) (ho : ix ∈ own) (hix : ix < σ.length) (hB : bb = true → inm ∈ own ∧ inm ≠ ix ∧ inm < σ.length) (hlen : es.length ≤ 1000) {ω α : List Addr} {b : Nat} {ρ : Env} {M : Mem} (sm : Sim K ω α H M) (rs : RS K ω α H σ ρ) (hb : b ≤ M.length) (hLa : L ∉ α)
    (q : Post K ω mg E b α H M (evE cf b (.prim (.lst false) (toTms ts)) ρ M) (fun d _ α' H' => ∀ v, RV K ω α' H' v d → Q v H')) :
    tLc (iList K (tVar iy)) (gL K ix inm bb) tYes (tOp (fun x y => Ap K mg E0 .eq [x, y]) (tRL X k ix (TTref K mg) σ) (rhsT wA inm bb)) own σ H Q := by
  refine ⟨.ref L, hy, L, rfl, ⟨fs, SqL.of hL⟩, fun Dn hDn => ?_⟩
  have hLn : L ≠ Dn := fun z => by rw [← z, hL] at hDn; cases hDn
  have hwD : Dn ∉ ω := sm.hidN hDn
  have nfs : fs.length = ts.length := hlv.len.trans hts.len.symm
  have ntl : ts.length ≤ 1000 := by rw [hts.len]; exact hlen
  have q : Post K ω mg E b α H M ((evEs cf b (toTms ts) ρ M).bind fun ds M1 => mkL false ds M1) (fun d _ α' H' => ∀ v, RV K ω α' H' v d → Q v H') := q
  refine lc_list (xs := fs) (Qd := fun H2 => Q (.ref Dn) H2) (fun i Hc => i ≤ ts.length ∧ ∃ α' M' vs' accs, Stp α H α' Hc ∧ Sim K (Dn :: ω) α' Hc M' ∧ Pres b M M' ∧ Hc Dn = some (.lst vs') ∧ RVs K (Dn :: ω) α' Hc vs' accs ∧ accs.length = i ∧ RS K (Dn :: ω) α' Hc σ ρ ∧ LamVs X Hc bb es fs ∧ Hc L = some (.lst fs) ∧
    Post K ω mg E b α H M ((evEs cf b (toTms (ts.drop i)) ρ M').bind fun r M5 => mkL false (accs ++ r) M5) (fun d _ α' H' => ∀ v, RV K ω α' H' v d → Q v H')) ?_ ?_ ?_ ?_
  · refine ⟨Nat.zero_le _, α, M, [], [], Stp.fresh hDn, sm.hide hDn, Pres.refl _ _, upd_same, .nil, rfl, rs.hide hDn, hlv.ext fun b o e _ => ext_upd hDn b o e, by rw [upd_ne hLn]; exact hL, ?_⟩
    simpa using q
  · rintro i Hc hi ⟨_, α', M', vs', accs, _, _, _, _, _, _, _, _, hLc, _⟩
    exact SqL.of hLc
  · rintro i x Hc hx ⟨hi, α', M', vs', accs, st, sm1, pr, hDc, racc, hal, rs1, lv, hLc, q⟩
    have hif : i < fs.length := (List.getElem?_eq_some_iff.mp hx).1
    have hit : i < ts.length := by omega
    have hnD : Dn ∉ α' := (sm1.hid Dn List.mem_cons_self).1
    have wl : (wipe σ own).length = σ.length := wipe_length _ _
    -- what a turn brings
    have main : ∀ (t : Tm) (d : D) (w : V) (Qx : VK), ts[i]? = some (lamEl t d) → (∀ ω α H, RV K ω α H w d) → (∀ x H1, Ap K mg E0 .eq [x, w] H1 (fun y H4 => ∃ acc, H4 Dn = some (.lst acc) ∧ acc.length < sizeLine ∧ (i + 1 ≤ ts.length ∧ ∃ α' M' vs' accs, Stp α H α' (upd H4 Dn (.lst (acc ++ [y]))) ∧ Sim K (Dn :: ω) α' (upd H4 Dn (.lst (acc ++ [y]))) M' ∧ Pres b M M' ∧ (upd H4 Dn (.lst (acc ++ [y]))) Dn = some (.lst vs') ∧ RVs K (Dn :: ω) α' (upd H4 Dn (.lst (acc ++ [y]))) vs' accs ∧ accs.length = i + 1 ∧ RS K (Dn :: ω) α' (upd H4 Dn (.lst (acc ++ [y]))) σ ρ ∧ LamVs X (upd H4 Dn (.lst (acc ++ [y]))) bb es fs ∧ (upd H4 Dn (.lst (acc ++ [y]))) L = some (.lst fs) ∧
        Post K ω mg E b α H M ((evEs cf b (toTms (ts.drop (i + 1))) ρ M').bind fun r M5 => mkL false (accs ++ r) M5) (fun d _ α' H' => ∀ v, RV K ω α' H' v d → Q v H'))) → Qx x H1) →
        TTref K mg (fun E' H' Q' => tE K mg E' cf t σ H' Q') Hc Qx := by
      intro t d w Qx ht hw hQ
      have hdrop : ts.drop i = lamEl t d :: ts.drop (i + 1) := by
        rw [List.drop_eq_getElem_cons hit]
        rw [List.getElem?_eq_getElem hit] at ht
        rw [Option.some.inj ht]
      rw [hdrop, toTms_ev] at q
      cases hev : evE cf b (lamEl t d) ρ M' with
      | stuck => rw [hev] at q; exact q.elim
      | exc c M2 =>
        exfalso
        have e : evE cf b (lamEl t d) ρ M' = ((refE (evE cf b t ρ M')).bind fun x M1 => okB (eqE M1 x d) M1) := by
          show ((((refE (evE cf b t ρ M')).bind fun x M1 => ((Res.ok d M1 : Res D).bind fun y M2 => (Res.ok [] M2 : Res (List D)).bind fun ds M3 => .ok (y :: ds) M3).bind fun ds M2 => .ok (x :: ds) M2)).bind fun ds M1 => primE b .eq ds M1) = _
          cases refE (evE cf b t ρ M') <;> rfl
        rw [e] at hev
        have k1 : ∀ (o : Option Bool) (M1 : Mem), okB o M1 ≠ .exc c M2 := fun o M1 z => by cases o <;> cases z
        cases hv : evE cf b t ρ M' with
        | stuck => rw [hv] at hev; cases hev
        | ok x M1 => rw [hv] at hev; exact k1 _ _ hev
        | exc c0 M1 =>
          rw [hv] at hev
          by_cases hc : refNames.contains c0 = true
          · rw [show refE (.exc c0 M1 : Res D) = .ok (.str c0) M1 from if_pos hc] at hev
            exact k1 _ _ hev
          · rw [show refE (.exc c0 M1 : Res D) = .stuck from if_neg hc] at hev
            cases hev
      | ok v M5 =>
        rw [hev] at q
        have q : Post K ω mg E b α H M (((evEs cf b (toTms (ts.drop (i + 1))) ρ M5).bind fun ds M2 => .ok (v :: ds) M2).bind fun r M5 => mkL false (accs ++ r) M5) (fun d _ α' H' => ∀ v, RV K ω α' H' v d → Q v H') := q
        refine lam_turn (E0 := E0) cls sm1 rs1 (Nat.le_trans hb pr.len) hw hev (fun α4 H4 y st4 sm4 pr4 ry => ?_) hQ
        have hn4 : Dn ∉ α4 := (sm4.hid Dn List.mem_cons_self).1
        have hD4 : H4 Dn = some (.lst vs') := st4.old Dn _ hDc hnD
        have stall : Stp α H α4 H4 := st.trans st4
        have keepN : ∀ b o, Hc b = some o → b ≠ Dn → b ∉ α' → NT o → (upd H4 Dn (.lst (vs' ++ [y]))) b = some o := fun b o e n na nt => by
          rw [upd_ne n]; exact st4.kept b o e na nt
        refine ⟨vs', hD4, ?_, hit, α4, _, vs' ++ [y], accs ++ [v], ?_, sm4.updHid hD4 List.mem_cons_self, pr.trans pr4, upd_same, ((RVs.step st4 _ _ racc).append (.cons ry .nil)).updHid hD4 List.mem_cons_self hn4, by rw [List.length_append, hal]; rfl, ?_, ?_, ?_, ?_⟩
        · rw [racc.length, hal, sizeLine_eq]; omega
        · refine ⟨stall.pre, fun a o e n nt => ?_, stall.new⟩
          rw [upd_ne (fun z => by subst z; rw [hDn] at e; cases e)]
          exact stall.kept a o e n nt
        · obtain ⟨l, rr⟩ := rs1.step st4
          exact ⟨l, fun j e hj => by obtain ⟨x, e1, qx⟩ := rr j e hj; exact ⟨x, e1, qx.updHid hD4 List.mem_cons_self hn4⟩⟩
        · refine lv.ext2 fun b o e nl nd nt => keepN b o e (fun z => nl vs' ?_) (fun m => ?_) nt
          · rw [z, hDc] at e; exact (Option.some.inj e).symm
          · obtain ⟨n, hn, e2⟩ := List.getElem_of_mem m
            rcases sm1.there' (show α'[n]? = some b by rw [List.getElem?_eq_getElem hn, e2]) with ⟨ys, e3⟩ | ⟨ys, e3⟩
            · rw [e3] at e
              exact nl ys (Option.some.inj e).symm
            · rw [e3] at e
              exact nd ys (Option.some.inj e).symm
        · rw [upd_ne hLn]
          exact st4.old L _ hLc fun m => st.no m hLa hL
        · have e3 : (((evEs cf b (toTms (ts.drop (i + 1))) ρ M5).bind fun ds M2 => .ok (v :: ds) M2).bind fun r M5 => mkL false (accs ++ r) M5) = (evEs cf b (toTms (ts.drop (i + 1))) ρ M5).bind fun r M5 => mkL false ((accs ++ [v]) ++ r) M5 := by
            cases evEs cf b (toTms (ts.drop (i + 1))) ρ M5 with
            | stuck => rfl
            | exc c M => rfl
            | ok r M => simp only [Res.bind_ok, List.append_assoc, List.singleton_append]
          rw [e3] at q
          exact q
    cases bb with
    | false =>
      obtain ⟨f, c', params, body, scope, t, rfl, ht, h1, h2, hk⟩ := lam_atA lv hts i x hx
      refine ⟨by rw [wipe_setR ho, wipe_wipe], ?_⟩
      dsimp only [tYes]
      rw [if_pos rfl]
      exact ⟨f, c', params, body, scope, _, by rw [List.getElem?_set_self (by omega)], h1, h2, hk, main t dA wA _ ht hwA fun x H1 ap => ap⟩
    | true =>
      obtain ⟨p, e, w, d, f, c', params, body, scope, t, rfl, hp, hw, hd, ht, h1, h2, hk⟩ := lam_atB lv hts i x hx
      obtain ⟨ho2, hne, hin⟩ := hB rfl
      refine ⟨p, [w, .ref f], rfl, SqT.of hp, rfl, _, _, rfl, _, _, rfl, rfl, ?_⟩
      refine ⟨by rw [wipe_setR ho, wipe_setR ho2, wipe_wipe], ?_⟩
      dsimp only [tYes]
      rw [if_pos rfl]
      exact ⟨f, c', params, body, scope, _, by rw [List.getElem?_set_self (by rw [List.length_set]; omega)], h1, h2, hk, main t d w _ ht (fun ω α H => const_rv hw hd) fun x H1 ap => ⟨w, by rw [List.getElem?_set_ne (Ne.symm hne), List.getElem?_set_self (by omega)], ap⟩⟩
  · rintro Hc ⟨_, α', M', vs', accs, st, sm1, pr, hDc, racc, hal, rs1, lv, hLc, q⟩
    rw [nfs, List.drop_length] at q
    have q : Post K ω mg E b α H M (mkL false (accs ++ []) M') (fun d _ α' H' => ∀ v, RV K ω α' H' v d → Q v H') := q
    rw [List.append_nil] at q
    unfold mkL at q
    obtain ⟨_, q⟩ := post_if q
    have hnD : Dn ∉ α' := (sm1.hid Dn List.mem_cons_self).1
    have wk : ∀ a, a ∈ ω → a ∈ Dn :: ω := fun a h => List.mem_cons_of_mem _ h
    exact q α' Hc st (sm1.weak wk) pr _ (.lst hDc hnD hwD (racc.weak wk))
end

end CPN
section CPO
variable [TB : Tbs]

/-! ## A row of lambdas, made and walked at once -/
section
variable {P : Par} {fns : List Fn} {N : List Str} {n : Nat} {E : XK} {sc : Scope} {X : Cx}
theorem lam_text (g : Good P fns n E N sc X) {k : Nat} {e : Expr} {t : Tm} (h : cLam P N k sc e = some t) : ∃ params body scope lp, e = .Lambda params body scope lp ∧ LamOk X (3 * n) params body scope (fun E => tE X.K X.mg E (callFn fns n) t) := by
  unfold cLam at h
  split at h
  · split at h
    · rename_i hc
      simp only [Bool.and_eq_true] at hc
      have hp := noParams_inv hc.1
      subst hp
      refine ⟨_, _, _, _, rfl, by rw [g.hsc]; exact LamX.lamS_by hc.2, rfl, fun _ _ _ _ _ => rfl, fun A outer s H E' f c' hr => ?_⟩
      exact ((cE_ok (fns := fns) (P := P.off) (N := N) k).1 _ _ _ h n E' _ (lam_good g A outer s H f c' hr)).1
    · cases h
  · cases h
theorem row_A (g : Good P fns n E N sc X) {k : Nat} {d : D} : ∀ {es : List Expr} {ts : List Tm}, cRowA P N k sc d es = some ts → LamTs X (3 * n) X.K X.mg (callFn fns n) d false es ts
  | [], _, h => by simp only [cRowA] at h; cases h; exact .nil
  | e :: r, _, h => by
    simp only [cRowA] at h
    split at h
    · rename_i t ts h1 h2
      cases h
      obtain ⟨_, _, _, _, rfl, hk⟩ := lam_text g h1
      exact .one hk (row_A g h2)
    · cases h
theorem const_dv {e : Expr} {d : D} (h : constD e = some d) : ∃ w, constV e = some w := by
  unfold constD at h
  split at h <;> first | cases h | skip
  · exact ⟨_, rfl⟩
  · exact ⟨_, rfl⟩
theorem row_B (g : Good P fns n E N sc X) {k : Nat} {d : D} : ∀ {es : List Expr} {ts : List Tm}, cRowB P N k sc es = some ts → LamTs X (3 * n) X.K X.mg (callFn fns n) d true es ts
  | [], _, h => by simp only [cRowB] at h; cases h; exact .nil
  | e :: r, _, h => by
    simp only [cRowB] at h
    split at h
    · split at h
      · rename_i h0 h1 h2
        cases h
        obtain ⟨_, _, _, _, rfl, hk⟩ := lam_text g h1
        obtain ⟨w, hw⟩ := const_dv h0
        exact .two hw h0 hk (row_B g h2)
      · cases h
    · cases h
/-- what has to stand where the row is walked -/
def RowAt (X : Cx) (iy : Nat) (bb : Bool) (es : List Expr) (K : PySem.W.Frag) (mg : Str → Option Value) (E : XK) (cf : Nat → List D → Mem → Res D) (tm : Tm) (σ : L2.St) (H : Hp) (Q : VK) : Prop :=
  ∃ (L : Addr) (fs : List V) (ω α : List Addr) (b : Nat) (ρ : Env) (M : Mem), σ[iy]? = some (some (.ref L)) ∧ H L = some (.lst fs) ∧ LamVs X H bb es fs ∧ L ∉ α ∧ Sim K ω α H M ∧ RS K ω α H σ ρ ∧ b ≤ M.length ∧ Post K ω mg E b α H M (evE cf b tm ρ M) (fun d _ α' H' => ∀ v, RV K ω α' H' v d → Q v H')
/-- the walk, as a value -/
theorem pe_row (g : Good P fns n E N sc X) (hkd : sc.kind = .function) {scope : Scope} {f x y : Str} {tg rhs : Expr} {bb : Bool} {es : List Expr} {ts : List Tm} {d : D} {wA : V} {ix inm iy : Nat} {p1 p2 p3 p4 p5 p6 : Pos} (hrf : P.rf = some f) (hlm : ("<lambda>" : Str) ∈ N) (hgf : isGl (relS scope sc) f = true) (hof : okName f = true) (hbk : blkC N sc scope (ownOf N scope) = true)
    (hvy : isVis sc y = true) (hoy : okName y = true) (hiy : N[iy]? = some y) (hix : N[ix]? = some x) (hlx : isLoc (relS scope sc) x = true) (hlx2 : isLoc scope x = true) (hox : okName x = true) (hts : LamTs X (3 * n) X.K X.mg (callFn fns n) d bb es ts) (hwA : ∀ ω α H, RV X.K ω α H wA d) (ho : ix ∈ (ownOf N scope).map (·.2)) (hB : bb = true → inm ∈ (ownOf N scope).map (·.2) ∧ inm ≠ ix ∧ inm < N.length) (hlen : es.length ≤ 1000) (hns : noSet rhs = true)
    (hg : ∀ (s : Shared) (H : Hp) (C : Addr) (cl : List (Str × Addr)) (fp : List Addr), PG (X.blk s H scope (compEnvC scope cl C X.env) fp) tg (gL X.K ix inm bb))
    (hr : ∀ (s : Shared) (H : Hp) (C : Addr) (cl : List (Str × Addr)) (fp : List Addr), PE (X.blk s H scope (compEnvC scope cl C X.env) fp) rhs (rhsT wA inm bb)) :
    PE X (.ListComp (.Compare (.Call (.Name f p1) [.Name x p2] [] p3) [.Eq] [rhs] p4) [⟨tg, .Name y p5, [], 0⟩] scope p6) (RowAt X iy bb es X.K X.mg E (callFn fns n) (.prim (.lst false) (toTms ts))) := by
  obtain ⟨rd, rl⟩ := g.lam f hrf
  obtain ⟨lr, room⟩ := rl hlm
  obtain ⟨gA, oc, od, an, pg, bg, sg, dV, kV, doc, pm, cdv, ct, osl, Ng, a, e1, e2, e3, e4, e5, e6, e7, e8, e9, e10, e11⟩ := rd.ex
  refine ⟨fun pins s σ H Q I ⟨L, fs, ω, α, b, ρ, M, hy, hL, hlv, hLa, sm, rs, hb, q⟩ => ?_⟩
  have hl : σ.length = N.length := by rw [I.len, g.hN]
  have bg := blk_good g scope
  rw [eval_ListComp]
  refine lc_own (own := ownOf N scope) (g := gL X.K ix inm bb) (tt := tYes) (wi := iList X.K (tVar iy)) (te := tOp (fun x y => Ap X.K X.mg (fun _ _ _ => False) .eq [x, y]) (tRL X (3 * n) ix (TTref X.K X.mg) σ) (rhsT wA inm bb)) g.calm (by rw [g.hN]; exact g.nd) I (pi_list (pe_var (by rw [g.hN]; exact hiy) (by rw [g.hsc]; exact isVis_vis hvy) (okName_1 hoy) (okName_2 hoy))) (by rw [g.hN, g.hsc]; exact blkOk_by hbk) hg (fun _ _ _ _ _ => pts_nil) (fun s H C cl fp I3 f3 => ?_) (fun _ => rfl)
    (lams_lc rd.cls hlv hL hy hts hwA ho (by rw [hl]; exact (List.getElem?_eq_some_iff.mp hix).1) (by rw [hl]; exact hB) hlen sm rs hb hLa q) fun D C s' m H' I' q hn f => ⟨m, hn, fun h2 sb => ?_⟩
  · have gb := bg s H C cl fp
    refine pe_cmpR (cmp_ok gb (op := .Eq) rfl) ?_ (hr s H C cl fp) (noset_mark hns)
    exact pe_reflam I3 f3 (by show (X.blk s H scope (compEnvC scope cl C X.env) fp).env.scope.names.lookup f = _; rw [gb.hsc]; exact isGl_gl hgf) e1 e2 e3 e4 e5 e6 e7 e8 (e11 X rfl rfl) room (by rw [g.hN]; exact hix) (by
      have z := isLoc_loc hlx
      rw [← gb.hsc] at z
      rcases z with z | z
      · exact .inl z
      · exact .inr (.inl z)) (okName_1 hox) (okName_2 hox) (okName_1 hof) e9 e10
  · obtain ⟨f0, f1, f2, f3, f4, f5⟩ := f
    exact ⟨.ref D, H', I'.turned (t' := s'.toks) (fun b o hb e => (sb.2 b hb).trans e) f0 f1 f3 f4 f5, rfl, q⟩
end

end CPO
section CPQ
variable [TB : Tbs]

section
variable {P : Par} {fns : List Fn} {N : List Str} {n : Nat} {E : XK} {sc : Scope} {X : Cx}
theorem row_all {K : PySem.W.Frag} {mg : Str → Option Value} {cf : Nat → List D → Mem → Res D} {iy : Nat} {bb : Bool} {es : List Expr} {lt : Tm} {σ : L2.St} {H : Hp} {Q : VK} (h : RowAt X iy bb es K mg E cf (.prim .all (.cons lt .nil)) σ H Q) : RowAt X iy bb es K mg E cf lt σ H fun x H1 => Ap K mg E .all [x] H1 Q := by
  obtain ⟨L, fs, ω, α, b, ρ, M, hy, hL, hlv, hLa, sm, rs, hb, q⟩ := h
  have q := Post.bind (Post.bind (show Post K ω mg E b α H M ((((evE cf b lt ρ M).bind fun d M1 => .ok [d] M1)).bind fun ds M1 => primE b .all ds M1) _ from q))
  refine ⟨L, fs, ω, α, b, ρ, M, hy, hL, hlv, hLa, sm, rs, hb, q.mono fun d M1 α1 H1 st sm1 pr ⟨_, _, _, q⟩ v rv => ?_⟩
  exact ⟨ω, α1, b, M1, [d], sm1, Nat.le_trans hb pr.len, .cons rv .nil, (q.ok sm1).2.2.2⟩
theorem pe_rowall (g : Good P fns n E N sc X) {iy : Nat} {bb : Bool} {es : List Expr} {elt : Expr} {gs : List Comprehension} {scope : Scope} {lt : Tm} {p1 p2 p3 : Pos} (hgl : isGl sc "all" = true) (hbl : P.blt.contains "all" = true)
    (h : PE X (.ListComp elt gs scope p2) (RowAt X iy bb es X.K X.mg E (callFn fns n) lt)) : PE X (.Call (.Name "all" p1) [.ListComp elt gs scope p2] [] p3) (RowAt X iy bb es X.K X.mg E (callFn fns n) (.prim .all (.cons lt .nil))) :=
  pe_imp (pe_callB (ap_all (mg := X.mg) (E := E) g.calm) (by unfold Gl; show X.env.scope.names.lookup _ = _; rw [g.hsc]; exact isGl_gl hgl) (g.blt _ hbl) boot_all' (pa_cons h pa_nil)) fun σ H Q q => row_all q
/-- what a row's call is compiled to -/
theorem row_call (g : Good P fns n E N sc X) (hkd : sc.kind = .function) {k iy : Nat} {y : Str} {es : List Expr} {e : Expr} {t : Tm} (hiy : N[iy]? = some y) (h : rowCall P N k sc y es e = some t) :
    ∃ bb d ts, LamTs X (3 * n) X.K X.mg (callFn fns n) d bb es ts ∧ PE X e (RowAt X iy bb es X.K X.mg E (callFn fns n) t) ∧ isPlainT e = true ∧ LamReady X ∧ es.length ≤ 1000 := by
  unfold rowCall at h
  split at h
  · rename_i al p1 f p2 x p3 p4 rhs p5 tg y2 p6 scope p7 p8
    split at h
    · rename_i hc
      obtain ⟨rfl, rfl, hc, hlen⟩ := hc
      simp only [Bool.and_eq_true, beq_iff_eq, List.contains_iff_mem] at hc
      obtain ⟨⟨⟨⟨⟨⟨⟨⟨⟨⟨⟨⟨c1, c2⟩, c3⟩, c4⟩, c5⟩, c6⟩, c7⟩, c8⟩, c9⟩, c10⟩, c11⟩, c12⟩, c13⟩ := hc
      have bg := blk_good g scope
      have lamr := ((g.lam f c3).2 (by simpa using c6)).1
      split at h
      · rename_i x2 xp
        split at h
        · rename_i ix d hix hd
          split at h
          · rename_i h2
            obtain ⟨rfl, ho⟩ := h2
            rw [Option.map_eq_some_iff] at h
            obtain ⟨ts, hts, rfl⟩ := h
            have lts := row_A g hts
            obtain ⟨w, hw⟩ := const_dv hd
            obtain ⟨_, hix⟩ := ixOf_get _ _ _ _ hix
            have hix : N[ix]? = some x2 := by simpa using hix
            have ho : ix ∈ (ownOf N scope).map (·.2) := by simpa using ho
            refine ⟨false, d, ts, lts, pe_rowall g c1 (by simpa using c2) (pe_row (ix := ix) (inm := ix) (wA := w) g hkd c3 (by simpa using c6) c4 c5 c7 c8 c9 hiy hix c10 c11 c12 lts (fun _ _ _ => const_rv hw hd) ho (fun z => by cases z) hlen c13 (fun s H C cl fp => ?_) (fun s H C cl fp => const_pe hw)), rfl, lamr, hlen⟩
            exact pg_name (by show X.N.Nodup; rw [g.hN]; exact g.nd) (by show X.N[ix]? = _; rw [g.hN]; exact hix) (by have z := isLoc_loc c10; rw [← (bg s H C cl fp).hsc] at z; exact z) (blk_fn g c11 c10)
          · cases h
        · cases h
      · rename_i nm np x2 xp kk tp
        split at h
        · rename_i ix inm nm2 p9 hix hinm
          split at h
          · rename_i h2
            obtain ⟨rfl, rfl, hnx, hl3, ho, ho2⟩ := h2
            simp only [Bool.and_eq_true] at hl3
            obtain ⟨⟨l1, l2⟩, l3⟩ := hl3
            rw [Option.map_eq_some_iff] at h
            obtain ⟨ts, hts, rfl⟩ := h
            have lts := row_B (d := .non) g hts
            obtain ⟨_, hix⟩ := ixOf_get _ _ _ _ hix
            obtain ⟨_, hinm⟩ := ixOf_get _ _ _ _ hinm
            have hix : N[ix]? = some x2 := by simpa using hix
            have hinm : N[inm]? = some nm2 := by simpa using hinm
            have ho : ix ∈ (ownOf N scope).map (·.2) := by simpa using ho
            have ho2 : inm ∈ (ownOf N scope).map (·.2) := by simpa using ho2
            have hne : inm ≠ ix := fun z => by rw [z, hix] at hinm; exact hnx (Option.some.inj hinm).symm
            refine ⟨true, .non, ts, lts, pe_rowall g c1 (by simpa using c2) (pe_row (ix := ix) (inm := inm) (wA := .non) g hkd c3 (by simpa using c6) c4 c5 c7 c8 c9 hiy hix c10 c11 c12 lts (fun _ _ _ => .non) ho (fun _ => ⟨ho2, hne, (List.getElem?_eq_some_iff.mp hinm).1⟩) hlen c13 (fun s H C cl fp => ?_) (fun s H C cl fp => ?_)), rfl, lamr, hlen⟩
            · have nd : (X.blk s H scope (compEnvC scope cl C X.env) fp).N.Nodup := by show X.N.Nodup; rw [g.hN]; exact g.nd
              exact pg_tup g.calm (pgs_cons (pg_name nd (by show X.N[inm]? = _; rw [g.hN]; exact hinm) (by have z := isLoc_loc l1; rw [← (bg s H C cl fp).hsc] at z; exact z) (blk_fn g l2 l1)) (pgs_cons (pg_name nd (by show X.N[ix]? = _; rw [g.hN]; exact hix) (by have z := isLoc_loc c10; rw [← (bg s H C cl fp).hsc] at z; exact z) (blk_fn g c11 c10)) pgs_nil))
            · refine pe_var (by show X.N[inm]? = _; rw [g.hN]; exact hinm) ?_ (okName_1 l3) (okName_2 l3)
              have z := isLoc_loc l1
              rw [← (bg s H C cl fp).hsc] at z
              rcases z with z | z
              · exact .inl z
              · exact .inr (.inl z)
          · cases h
        · cases h
      · cases h
    · cases h
  · cases h
/-! the two statements -/
theorem RS.unset {K : PySem.W.Frag} {ω α : List Addr} {H : Hp} {σ : L2.St} {ρ : Env} (r : RS K ω α H σ ρ) (i : Nat) (x : Option V) : RS K ω α H (σ.set i x) (ρ.set i none) := by
  refine ⟨by rw [List.length_set, List.length_set]; exact r.1, fun j d h => ?_⟩
  by_cases e : i = j
  · subst e
    by_cases hl : i < ρ.length
    · rw [List.getElem?_set_self hl] at h; cases h
    · rw [List.getElem?_eq_none (by rw [List.length_set]; omega)] at h; cases h
  · rw [List.getElem?_set_ne e] at h ⊢
    exact r.2 j d h
variable {iy : Nat} {bb : Bool} {d : D} {es : List Expr} {ts : List Tm}
/-- the row is made and kept -/
theorem row_set (g : GoodS P fns n E N sc X) {y : Str} {py lp sp : Pos} {s2 : Sm} {ss : Sms} {t2 u : TS} (lr : LamReady X) (hts : LamTs X (3 * n) X.K X.mg (callFn fns n) d bb es ts) (hlen : es.length ≤ 1000) (hly : isLoc sc y = true) (hiy : N[iy]? = some y) {st2 : Stmt} {r2 : List Stmt} (h2 : PS X st2 t2) (hr : PSs X r2 u)
    (hq : ∀ (D : Ends) (σ : L2.St) (H : Hp) (L : Addr) (fs : List V) (ω α : List Addr) (b : Nat) (ρ : Env) (M : Mem), σ[iy]? = some (some (.ref L)) → H L = some (.lst fs) → LamVs X H bb es fs → L ∉ α → Sim X.K ω α H M → RS X.K ω α H σ ρ → b ≤ M.length → Post X.K ω X.mg E b α H M (evSs (callFn fns n) b (.cons s2 ss) ρ M) (fun f _ α' H' => FlowR X.K ω D f α' H') → tSeq t2 u D σ H) :
    PSs X (.Assign [.Name y py] (.List es lp) sp :: st2 :: r2) (tSs X.K X.mg E (callFn fns n) (.cons (.wipe iy) (.cons s2 ss))) := by
  obtain ⟨c, Pt, t1, t2', t3, t4⟩ := lr.ex
  have s1 : PS X (.Assign [.Name y py] (.List es lp) sp) _ := ps_set (i := iy) (by rw [g.hN]; exact g.nd) (by rw [g.hN]; exact hiy) (by rw [g.hsc]; exact isLoc_loc hly) (pe_lst (pa_lams t1 t2' t3 t4 hts)) (sw_nocomp rfl) (.inl (g.fn y))
  refine ⟨fun pins s σ H D I q => (pss_cons s1 (pss_cons h2 hr)).run pins s σ H D I ?_⟩
  have hl : iy < σ.length := by rw [I.len, g.hN]; exact (List.getElem?_eq_some_iff.mp hiy).1
  obtain ⟨ω, α, b, ρ, M, sm, rs, hb, q⟩ := q
  have q : Post X.K ω X.mg E b α H M (evSs (callFn fns n) b (.cons s2 ss) (ρ.set iy none) M) (fun f _ α' H' => FlowR X.K ω D f α' H') := q
  refine ⟨sm.tab, fun H1 vs eN T1 lv => ⟨by rw [lv.len, sizeLine_eq]; omega, fun L hL => ?_⟩⟩
  obtain ⟨sm1, st1⟩ := sm.growT (fun b o h nt => eN b o h nt) T1
  have st2 : Stp α H α (upd H1 L (.lst vs)) := st1.trans (Stp.fresh hL)
  exact hq D _ _ L vs ω α b (ρ.set iy none) M (List.getElem?_set_self hl) upd_same (lv.ext fun b o e _ => ext_upd hL b o e) (sm1.notin hL) (sm1.fresh hL) ((rs.step st2).unset iy _) hb (q.rebase st2 (Pres.refl _ _))
theorem pair_ret (g : GoodS P fns n E N sc X) {y : Str} {py lp sp rp : Pos} {t : Tm} {ss : Sms} {e : Expr} (lr : LamReady X) (hts : LamTs X (3 * n) X.K X.mg (callFn fns n) d bb es ts) (hlen : es.length ≤ 1000) (hly : isLoc sc y = true) (hiy : N[iy]? = some y) {r2 : List Stmt} (he : PE X e (RowAt X iy bb es X.K X.mg E (callFn fns n) t)) (hr : PSs X r2 (tSs X.K X.mg E (callFn fns n) ss)) :
    PSs X (.Assign [.Name y py] (.List es lp) sp :: .Return (some e) rp :: r2) (tSs X.K X.mg E (callFn fns n) (.cons (.wipe iy) (.cons (.ret t) ss))) := by
  refine row_set g lr hts hlen hly hiy (ps_ret he) hr fun En σ H L fs ω α b ρ M h1 h2 h3 h4 sm rs hb q => ?_
  have q := Post.bind (Post.bind (show Post X.K ω X.mg E b α H M ((((evE (callFn fns n) b t ρ M).bind fun d M1 => (.ok (MF.Flow.ret d) M1 : Res MF.Flow))).bind _) _ from q))
  refine ⟨L, fs, ω, α, b, ρ, M, h1, h2, h3, h4, sm, rs, hb, q.mono fun d M1 α1 H1 st sm1 pr ⟨_, _, _, q⟩ v rv => ?_⟩
  exact (q.ok sm1).2.2.2.ok sm1 v rv
theorem pair_if (g : GoodS P fns n E N sc X) {y : Str} {py lp sp np fp : Pos} {t : Tm} {a2 ss : Sms} {e : Expr} (lr : LamReady X) (hts : LamTs X (3 * n) X.K X.mg (callFn fns n) d bb es ts) (hlen : es.length ≤ 1000) (hly : isLoc sc y = true) (hiy : N[iy]? = some y) {a r2 : List Stmt} (hp : isPlainT e = true) (he : PE X e (RowAt X iy bb es X.K X.mg E (callFn fns n) t)) (ha : PSs X a (tSs X.K X.mg E (callFn fns n) a2)) (hr : PSs X r2 (tSs X.K X.mg E (callFn fns n) ss)) (hn : PSs X [] (tSs X.K X.mg E (callFn fns n) .nil)) :
    PSs X (.Assign [.Name y py] (.List es lp) sp :: .If (.UnaryOp .Not e np) a [] fp :: r2) (tSs X.K X.mg E (callFn fns n) (.cons (.wipe iy) (.cons (.ite (.prim .notb (.cons t .nil)) a2 .nil) ss))) := by
  have pt : PT X e _ := pt_val he (plainT hp)
  refine row_set g lr hts hlen hly hiy (ps_if (pt_not pt) ha hn) hr fun En σ H L fs ω α b ρ M h1 h2 h3 h4 sm rs hb q => ?_
  have q := Post.bind (show Post X.K ω X.mg E b α H M ((evS (callFn fns n) b (.ite (.prim .notb (.cons t .nil)) a2 .nil) ρ M).bind _) _ from q)
  have q := Post.bind (Post.bind (Post.bind (show Post X.K ω X.mg E b α H M ((((evE (callFn fns n) b t ρ M).bind fun d M1 => (.ok [d] M1 : Res (List D))).bind fun ds M1 => primE b .notb ds M1).bind _) _ from q)))
  refine ⟨L, fs, ω, α, b, ρ, M, h1, h2, h3, h4, sm, rs, hb, q.mono fun d M1 α1 H1 st sm1 pr ⟨_, _, _, q⟩ v rv => ?_⟩
  obtain ⟨_, _, _, q⟩ := q.ok sm1
  replace q : Post X.K ω X.mg E b α1 H1 M1 (notE d M1) _ := q
  cases d with
  | bl c =>
    have q : Post X.K ω X.mg E b α1 H1 M1 (.ok (D.bl (!c)) M1) _ := q
    obtain ⟨_, _, _, q⟩ := q.ok sm1
    refine ⟨c, rv_bl rv, ?_⟩
    have seq : ∀ {x : Sms}, Post X.K ω X.mg E b α1 H1 M1 (evSs (callFn fns n) b x ρ M1) (fun f M' α' H' => Stp α H α' H' ∧ Sim X.K ω α' H' M' ∧ Pres b M M' ∧ Post X.K ω X.mg E b α' H' M' (match f with
        | .next ρ' => evSs (callFn fns n) b ss ρ' M'
        | .ret v => .ok (.ret v) M') (fun f _ α' H' => FlowR X.K ω En f α' H')) → tSs X.K X.mg E (callFn fns n) x { En with nx := tSs X.K X.mg E (callFn fns n) ss En } σ H1 := fun {x} q => by
      refine ⟨ω, α1, b, ρ, M1, sm1, rs.step st, Nat.le_trans hb pr.len, q.mono fun f M2 α2 H2 st2 sm2 pr2 ⟨_, _, _, q⟩ => ?_⟩
      cases f with
      | next ρ' => exact fun σ' rs' => ⟨ω, α2, b, ρ', M2, sm2, rs', Nat.le_trans hb (pr.trans pr2).len, q⟩
      | ret d => exact fun v rv => q.ok sm2 v rv
    cases c with
    | true => exact iteF (seq (x := .nil) q)
    | false => exact iteT (seq (x := a2) q)
  | _ => exact q.elim
end

end CPQ
section CP11
variable [TB : Tbs]

section
variable {P : Par} {fns : List Fn} {N : List Str} {sc : Scope}
theorem nodup_slots {X : Cx} {i j : Nat} {x y : Str} (hi : N[i]? = some x) (hj : N[j]? = some y) (h : x ≠ y) : i ≠ j := fun e => by subst e; rw [hi] at hj; exact h (Option.some.inj hj)
theorem cP_name {raw : Scope} {x : Str} {po : Pos} {p : Pat} (h : cP N sc raw (.Name x po) = some p) : ∃ i, p = .name i ∧ N[i]? = some x ∧ isLoc sc x = true := by
  simp only [cP] at h
  split at h
  · rename_i hl
    simp only [Bool.and_eq_true] at hl
    rw [Option.map_eq_some_iff] at h
    obtain ⟨i, hi, rfl⟩ := h
    obtain ⟨_, hi⟩ := ixOf_get _ _ _ _ hi
    exact ⟨i, rfl, by simpa using hi, hl.1.1⟩
  · cases h
theorem cPs_cons {raw : Scope} {e : Expr} {r : List Expr} {ps : List Pat} (h : cPs N sc raw (e :: r) = some ps) : ∃ p qs, ps = p :: qs ∧ cP N sc raw e = some p ∧ cPs N sc raw r = some qs := by
  simp only [cPs] at h
  split at h
  · rename_i p qs h1 h2; cases h; exact ⟨p, qs, rfl, h1, h2⟩
  · cases h
theorem cE_tup {k : Nat} {es : List Expr} {j : Nat} {po : Pos} {t : Tm} (h : cE P N (k + 1) sc (.Tuple es j po) = some t) : ∃ ts, t = .prim .tup (toTms ts) ∧ cEs P N k sc es = some ts := by
  simp only [cE, Option.map_eq_some_iff] at h
  obtain ⟨ts, h, rfl⟩ := h
  exact ⟨ts, rfl, h⟩
theorem EsOk.two {X : Cx} {mg : Str → Option Value} {E : XK} {cf : Nat → List D → Mem → Res D} {a b : Expr} {ts : List Tm} (h : EsOk X mg E cf [a, b] ts) : ∃ s t, ts = [s, t] := by
  cases h with
  | cons _ _ _ r => cases r with | cons _ _ _ r => cases r; exact ⟨_, _, rfl⟩
theorem EsOk.three {X : Cx} {mg : Str → Option Value} {E : XK} {cf : Nat → List D → Mem → Res D} {a b c : Expr} {ts : List Tm} (h : EsOk X mg E cf [a, b, c] ts) : ∃ s t u, ts = [s, t, u] := by
  cases h with
  | cons _ _ _ r => cases r with | cons _ _ _ r => cases r with | cons _ _ _ r => cases r; exact ⟨_, _, _, rfl⟩
theorem sw_tup {e : Expr} {ts : List Expr} {k : Nat} {p : Pos} {l : Nat} {env : PySem.Env} : swapsWithSole [.Tuple ts k p] e l env = pure false := by
  show swapsWith e (some (.Tuple ts k p)) l env = pure false
  unfold swapsWith
  cases e <;> rfl
theorem sw_sole {e tg : Expr} {l : Nat} {env : PySem.Env} (h : isComp e = false) : swapsWithSole [tg] e l env = pure false := sw_nocomp (tg := some tg) (l := l) (env := env) h
theorem pairOf_inv {st : Stmt} {r : List Stmt} {y : Str} {es : List Expr} {e : Expr} {o : Option (List Stmt)} {r2 : List Stmt} (h : pairOf st r = some (y, es, e, o, r2)) :
    ∃ py lp sp, st = .Assign [.Name y py] (.List es lp) sp ∧ ((∃ rp, r = .Return (some e) rp :: r2 ∧ o = none) ∨ ∃ a np fp, r = .If (.UnaryOp .Not e np) a [] fp :: r2 ∧ o = some a) := by
  unfold pairOf at h
  split at h
  · split at h
    · cases h; exact ⟨_, _, _, rfl, .inl ⟨_, rfl, rfl⟩⟩
    · cases h
  · split at h
    · cases h; exact ⟨_, _, _, rfl, .inr ⟨_, _, _, rfl, rfl⟩⟩
    · cases h
  · cases h
/-- THE THEOREM of statements -/
theorem cS_ok : ∀ k, (∀ st s, cS P N sc k st = some s → ∀ n E X, GoodS P fns n E N sc X → PS X st (tS X.K X.mg E (callFn fns n) s)) ∧ (∀ sts ss, cSs P N sc k sts = some ss → ∀ n E X, GoodS P fns n E N sc X → PSs X sts (tSs X.K X.mg E (callFn fns n) ss))
  | 0 => ⟨fun _ _ h => (by cases h), fun _ _ h => (by cases h)⟩
  | k + 1 => by
    obtain ⟨ih, ihs⟩ := cS_ok k
    refine ⟨fun st s h n E X g => ?_, fun sts ss h n E X g => ?_⟩
    · have ce := fun e t h => (cE_ok (fns := fns) (P := P) (N := N) k).1 sc e t h n E X g.toGood
      have ces := fun e t h => (cE_ok (fns := fns) (P := P) (N := N) k).2.1 sc e t h n E X g.toGood
      have gl : ∀ {f : Str}, isGl sc f = true → Gl X f := fun {f} h => by unfold Gl; show X.env.scope.names.lookup f = _; rw [g.hsc]; exact isGl_gl h
      have loc : ∀ {x : Str}, isLoc sc x = true → Loc X.env.scope x := fun {x} h => by rw [g.hsc]; exact isLoc_loc h
      have pat := fun e p h => pg_pat g.hN g.nd g.hsc g.calm (fun x _ _ => .inl (g.fn x)) e p (h : cP N sc sc e = some p)
      cases st with
      | Return o po =>
        cases o with
        | none =>
          simp only [cS] at h; cases h
          refine ps_imp ps_retN fun D σ H q => ?_
          obtain ⟨ω, α, b, ρ, M, sm, r, hb, q⟩ := q
          exact (show Post X.K ω X.mg E b α H M (.ok (MF.Flow.ret .non) M) _ from q).ok sm _ .non
        | some e =>
          simp only [cS, Option.map_eq_some_iff] at h
          obtain ⟨t, h, rfl⟩ := h
          exact ps_imp (ps_ret (ce _ _ h).1) fun D σ H q => ret_val q
      | Pass po =>
        simp only [cS] at h; cases h
        refine ps_imp ps_pass fun D σ H q => ?_
        obtain ⟨ω, α, b, ρ, M, sm, r, hb, q⟩ := q
        exact (show Post X.K ω X.mg E b α H M (.ok (MF.Flow.next ρ) M) _ from q).ok sm _ r
      | Expr e po =>
        simp only [cS] at h
        split at h
        · cases h
        · rename_i hc
          rw [Option.map_eq_some_iff] at h
          obtain ⟨t, h, rfl⟩ := h
          exact ps_imp (ps_expr (ce _ _ h).1 (sw_nocomp (by simpa using hc))) fun D σ H q => expr_val q
      | If c a b po =>
        simp only [cS] at h
        split at h
        · rename_i t x y h1 h2 h3
          cases h
          exact ps_imp (ps_if (ce _ _ h1).2 (ihs _ _ h2 n E X g) (ihs _ _ h3 n E X g)) fun D σ H q => if_val q
        · cases h
      | While c a b po =>
        simp only [cS] at h
        split at h
        · rename_i hb
          obtain rfl : b = [] := List.isEmpty_iff.mp hb
          split at h
          · rename_i t x h1 h2
            cases h
            exact ps_imp (ps_while g.own (ce _ _ h1).2 (ihs _ _ h2 n E X g)) fun D σ H q => while_val q
          · cases h
        · cases h
      | For tg it a b po =>
        simp only [cS] at h
        split at h
        · rename_i hb
          obtain rfl : b = [] := List.isEmpty_iff.mp hb
          split at h
          · rename_i p s ts x h1 h2 h3
            cases h
            obtain ⟨hi, hf⟩ := (cE_ok (fns := fns) (P := P) (N := N) k).2.2 sc _ it s ts h2 n E X tg rfl g.toGood
            exact ps_imp (ps_for g.own g.calm hi (pat _ _ h1) (ihs _ _ h3 n E X g) hf) fun D σ H q => for_val q
          · cases h
        · cases h
      | Raise e c po =>
        cases c with
        | some _ => cases e <;> simp [cS] at h
        | none =>
          cases e with
          | none => simp [cS] at h
          | some e =>
            cases e with
            | Call f args kws po2 =>
              simp only [cS] at h
              split at h
              · rename_i c fp m j cp
                split at h
                · rename_i hc
                  cases h
                  simp only [Bool.and_eq_true] at hc
                  obtain ⟨C, e1, e2, e3, e4, e5⟩ := g.exs _ hc.2
                  refine ps_imp (L2N.ps_raise g.calm g.takes (L2N.pmk_own PySem.F.excBase_ValueError e2 e1 e3 (raises_own e4 e5) (gl hc.1.1) (okName_1 hc.1.2))) fun D σ H q => ?_
                  obtain ⟨ω, α, b, ρ, M, sm, r, hb, q⟩ := q
                  replace q : Post X.K ω X.mg E b α H M (.exc c M : Res MF.Flow) _ := q
                  exact q α H C (Stp.refl _ _) sm (Pres.refl _ _) e1
                · cases h
              · cases h
            | _ => simp [cS] at h
      | Assign tgs e po =>
        cases tgs with
        | nil => simp [cS] at h
        | cons tg rest =>
          cases rest with
          | cons _ _ => cases tg <;> simp [cS] at h
          | nil =>
            cases tg with
            | Name y py =>
              simp only [cS] at h
              split at h
              · rename_i hl
                simp only [Bool.and_eq_true] at hl
                split at h
                · rename_i i t hi he
                  obtain ⟨_, hi⟩ := ixOf_get _ _ _ _ hi
                  have hi : X.N[i]? = some y := by rw [g.hN]; simpa using hi
                  have plain : swapsWith e (some (.Name y py)) po.line X.env = pure false → PS X (.Assign [.Name y py] e po) (tS X.K X.mg E (callFn fns n) (.asg (.name i) t)) := fun hs =>
                    ps_imp (ps_set (by rw [g.hN]; exact g.nd) hi (loc hl.1) (ce _ _ he).1 hs (.inl (g.fn y))) fun D σ H q => asg_name q
                  split at h
                  · rename_i elt gs scope cpos
                    split at h
                    · rename_i hsw
                      split at h
                      · rename_i hloc
                        cases h
                        cases k with
                        | zero => cases he
                        | succ k =>
                          obtain ⟨tg, iter, ifs, own, p, s, ts, cs, t, rfl, rfl, hb, hp, hi2, hc, ht, hl2, rfl, ho⟩ := comp_inv he
                          obtain ⟨hi2, hs⟩ := (cE_ok (fns := fns) (P := P) (N := N) k).2.2 sc _ _ _ _ hi2 n E X tg rfl g.toGood
                          have bg := blk_good g.toGood scope
                          have hloc : X.env.scope.names.lookup y = some .local := by rw [g.hsc]; simpa using hloc
                          unfold swOf at hsw
                          simp only [Bool.and_eq_true, Bool.not_eq_true'] at hsw
                          refine ps_imp (ps_setLc (own := ownOf N scope) g.calm (by rw [g.hN]; exact g.nd) hi hloc (sw_true (by rw [g.hsc]; exact g.kind) hloc hsw.1.2 hsw.2) hi2 (by rw [g.hN, g.hsc]; exact blkOk_by hb) (fun s H C cl fp => ?_) (fun s H C cl fp => ?_) (fun s H C cl fp => ?_) hs) fun D σ H q => asg_comp ho q
                          · exact pg_pat (bg s H C cl fp).hN g.nd (bg s H C cl fp).hsc g.calm (fun x h1 h2 => blk_fn g.toGood h1 h2) _ _ hp
                          · exact conds_ok ((cE_ok (fns := fns) (P := P) (N := N) k).2.1 _ _ _ hc n _ _ (bg s H C cl fp)) hl2
                          · exact ((cE_ok (fns := fns) (P := P) (N := N) k).1 _ _ _ ht n _ _ (bg s H C cl fp)).1
                      · cases h
                    · rename_i hsw
                      cases h
                      exact plain (sw_name g.hsc g.kind (by simpa using hsw))
                  · split at h
                    · cases h
                    · rename_i hc
                      cases h
                      exact plain (sw_nocomp (by simpa using hc))
                · cases h
              · cases h
            | Tuple ts j tp =>
              simp only [cS] at h
              split at h
              · rename_i ps t hps he
                · have hc : True := trivial
                  have plain : swappedStores [.Tuple ts j tp] e X.env = pure none → PS X (.Assign [.Tuple ts j tp] e po) (tS X.K X.mg E (callFn fns n) (.asg (.tup ps) t)) := fun hs =>
                    ps_imp (ps_asg (ce _ _ he).1 (pat (.Tuple ts j tp) (.tup ps) (by simp only [cP, hps, Option.map_some])) sw_tup hs rfl) fun D σ H q => asg_pat q
                  split at h
                  · rename_i vs j2 tp2
                    split at h
                    · rename_i hsw
                      cases h
                      exact plain (swK_ok g.hsc g.kind hsw)
                    · rename_i ns hsw
                      split at h
                      · rename_i x px y py a b x' y'
                        split at h
                        · rename_i hh
                          obtain ⟨rfl, rfl, hxy, hx, hy⟩ := hh
                          cases h
                          obtain ⟨p1, q1, rfl, c1, hps⟩ := cPs_cons hps
                          obtain ⟨p2, q2, rfl, c2, hps⟩ := cPs_cons hps
                          cases hps
                          obtain ⟨i1, rfl, n1, _⟩ := cP_name c1
                          obtain ⟨i2, rfl, n2, _⟩ := cP_name c2
                          cases k with
                          | zero => cases he
                          | succ k =>
                            obtain ⟨us, rfl, hus⟩ := cE_tup he
                            have es := (cE_ok (fns := fns) (P := P) (N := N) k).2.1 _ _ _ hus n E X g.toGood
                            obtain ⟨s, t, rfl⟩ := es.two
                            exact ps_imp (ps_par g.calm (by rw [g.hN]; exact g.nd) (by rw [g.hN]; exact n1) (by rw [g.hN]; exact n2) (nodup_slots (X := X) n1 n2 hxy) (by rw [g.hsc]; exact hx) (by rw [g.hsc]; exact hy) es.pa (swK_ok g.hsc g.kind hsw) rfl) fun D σ H q => asg_two q
                        · cases h
                      · rename_i x px y py z pz a b c x' y' z'
                        split at h
                        · rename_i hh
                          obtain ⟨rfl, rfl, rfl, hxy, hxz, hyz, hx, hy, hz⟩ := hh
                          cases h
                          obtain ⟨p1, q1, rfl, c1, hps⟩ := cPs_cons hps
                          obtain ⟨p2, q2, rfl, c2, hps⟩ := cPs_cons hps
                          obtain ⟨p3, q3, rfl, c3, hps⟩ := cPs_cons hps
                          cases hps
                          obtain ⟨i1, rfl, n1, _⟩ := cP_name c1
                          obtain ⟨i2, rfl, n2, _⟩ := cP_name c2
                          obtain ⟨i3, rfl, n3, _⟩ := cP_name c3
                          cases k with
                          | zero => cases he
                          | succ k =>
                            obtain ⟨us, rfl, hus⟩ := cE_tup he
                            have es := (cE_ok (fns := fns) (P := P) (N := N) k).2.1 _ _ _ hus n E X g.toGood
                            obtain ⟨s, t, u, rfl⟩ := es.three
                            exact ps_imp (ps_par3 g.calm (by rw [g.hN]; exact g.nd) (by rw [g.hN]; exact n1) (by rw [g.hN]; exact n2) (by rw [g.hN]; exact n3) (nodup_slots (X := X) n1 n2 hxy) (nodup_slots (X := X) n1 n3 hxz) (nodup_slots (X := X) n2 n3 hyz)
                              (by rw [g.hsc]; exact hx) (by rw [g.hsc]; exact hy) (by rw [g.hsc]; exact hz) es.pa (swK_ok g.hsc g.kind hsw) rfl) fun D σ H q => asg_three q
                        · cases h
                      · cases h
                    · cases h
                  · rename_i hne
                    cases h
                    refine plain (swap_other ?_)
                    cases e <;> first | rfl | exact absurd rfl (hne _ _ _)
              · cases h
            | Subscript o i sp =>
              simp only [cS] at h
              split at h
              · cases h
              · rename_i hc
                have hc : isComp e = false := by simpa using hc
                split at h
                · rename_i t u v he ho hi
                  split at h
                  · rename_i hpl
                    cases h
                    exact ps_imp (ps_asg (ce _ _ he).1 (pg_sub (ce _ _ ho).1 (ce _ _ hi).1 (ap_set (by have := hu65 g.toGood; omega)) (fun v => by cases i <;> first | rfl | cases hpl)) (sw_sole hc) (swap_other2 rfl (fun _ _ z => by cases z)) rfl) fun D σ H q => set_val q
                  · cases h
                · cases h
            | _ => simp [cS] at h
      | _ => simp [cS] at h
    · cases sts with
      | nil =>
        simp only [cSs] at h; cases h
        refine pss_imp pss_nil fun D σ H q => ?_
        obtain ⟨ω, α, b, ρ, M, sm, r, hb, q⟩ := q
        exact (show Post X.K ω X.mg E b α H M (.ok (MF.Flow.next ρ) M) _ from q).ok sm _ r
      | cons st r =>
        simp only [cSs] at h
        split at h
        · rename_i y es e o r2 hpair
          obtain ⟨py, lp, sp, hst, hrow⟩ := pairOf_inv hpair
          subst hst
          split at h
          · rename_i iy t ss hiy hrc h2
            split at h
            · rename_i hl
              simp only [Bool.and_eq_true] at hl
              obtain ⟨_, hiy⟩ := ixOf_get _ _ _ _ hiy
              have hiy : N[iy]? = some y := by simpa using hiy
              obtain ⟨bb, d, ts, lts, pe, hp, lr, hlen⟩ := row_call g.toGood g.kind hiy hrc
              rcases hrow with ⟨rp, rfl, rfl⟩ | ⟨a, np, fp, rfl, rfl⟩
              · cases h
                exact pair_ret g lr lts hlen hl.1 hiy pe (ihs _ _ h2 n E X g)
              · rw [Option.map_eq_some_iff] at h
                obtain ⟨x, hx, rfl⟩ := h
                exact pair_if g lr lts hlen hl.1 hiy hp pe (ihs _ _ hx n E X g) (ihs _ _ h2 n E X g) (by
                  refine pss_imp pss_nil fun D σ H q => ?_
                  obtain ⟨ω, α, b, ρ, M, sm, r, hb, q⟩ := q
                  exact (show Post X.K ω X.mg E b α H M (.ok (MF.Flow.next ρ) M) _ from q).ok sm _ r)
            · cases h
          · cases h
        · split at h
          · rename_i s ss h1 h2
            cases h
            exact pss_imp (pss_cons (ih _ _ h1 n E X g) (ihs _ _ h2 n E X g)) fun D σ H q => seq_val q
          · cases h
end

end CP11
section CP12
variable [TB : Tbs]

/-! ## Defs -/
mutual
theorem RV.cut {K : PySem.W.Frag} {ω α α' : List Addr} {H : Hp} (hp : α <+: α') : ∀ (d : D) (v : V), RV K ω α' H v d → d.bel α.length = true → RV K ω α H v d
  | .non, _, .non, _ => .non
  | .bl _, _, .bl b, _ => .bl b
  | .int _, _, .int b, _ => .int b
  | .str _, _, .str b, _ => .str b
  | .tup ds, _, .tup h r, hb => .tup (h.imp (fun q => ⟨q.1, fun m => q.2 (hp.subset m)⟩) id) (RVs.cut hp ds _ r (by simpa [D.bel] using hb))
  | .lst ds, _, .lst h n w r, hb => .lst h (fun m => n (hp.subset m)) w (RVs.cut hp ds _ r (by simpa [D.bel] using hb))
  | .fix ds, _, .fix h r, hb => .fix (h.imp (fun q => ⟨⟨q.1.1, fun m => q.1.2 (hp.subset m)⟩, q.2⟩) id) (RVs.cut hp ds _ r (by simpa [D.bel] using hb))
  | .ref n, _, .ref h, hb => by
    have hn : n < α.length := by simpa [D.bel] using hb
    obtain ⟨t, rfl⟩ := hp
    rw [List.getElem?_append_left hn] at h
    exact .ref h
theorem RVs.cut {K : PySem.W.Frag} {ω α α' : List Addr} {H : Hp} (hp : α <+: α') : ∀ (ds : List D) (vs : List V), RVs K ω α' H vs ds → belows α.length ds = true → RVs K ω α H vs ds
  | [], _, .nil, _ => .nil
  | d :: ds, _, .cons h r, hb => by
    simp only [belows, Bool.and_eq_true] at hb
    exact .cons (RV.cut hp d _ h hb.1) (RVs.cut hp ds _ r hb.2)
end
theorem key_bel (n : Nat) (k : List Int) : (D.tup (k.map D.int)).bel n = true := bel_of_pure n _ (by
  simp only [D.pure]
  induction k with
  | nil => rfl
  | cons x k ih => simp only [List.map_cons, pures, ih]; rfl)
theorem DRV.cut {K : PySem.W.Frag} {ω α α' : List Addr} {H : Hp} (hp : α <+: α') {xs : List DEnt} {es : List (List Int × D)} (r : DRV K ω α' H xs es) (hb : belows α.length (es.map (·.2)) = true) : DRV K ω α H xs es := by
  induction r with
  | nil => exact .nil
  | cons h _ ih =>
    simp only [List.map_cons, belows, Bool.and_eq_true] at hb
    exact .cons ⟨h.1, RV.cut hp _ _ h.2.1 (key_bel _ _), RV.cut hp _ _ h.2.2 hb.1⟩ (ih hb.2)
/-- between -/
theorem RV.mid {K : PySem.W.Frag} {ω α α' : List Addr} {H : Hp} {a : Addr} (hp : α <+: α') (sub : ∀ x, x ∈ α ++ [a] → x ∈ α') {d : D} {v : V} (h : RV K ω α' H v d) : d.bel α.length = true → RV K ω (α ++ [a]) H v d := by
  refine RV.rec (K := K) (ω := ω) (α := α') (H := H) (motive_1 := fun v d _ => d.bel α.length = true → RV K ω (α ++ [a]) H v d) (motive_2 := fun vs ds _ => belows α.length ds = true → RVs K ω (α ++ [a]) H vs ds) ?_ ?_ ?_ ?_ ?_ ?_ ?_ ?_ ?_ ?_ h
  · exact fun _ => .non
  · exact fun b _ => .bl b
  · exact fun b _ => .int b
  · exact fun b _ => .str b
  · exact fun h _ r hb => .tup (h.imp (fun q => ⟨q.1, fun m => q.2 (sub _ m)⟩) id) (r (by simpa [D.bel] using hb))
  · exact fun h n w _ r hb => .lst h (fun m => n (sub _ m)) w (r (by simpa [D.bel] using hb))
  · exact fun h _ r hb => .fix (h.imp (fun q => ⟨⟨q.1.1, fun m => q.1.2 (sub _ m)⟩, q.2⟩) id) (r (by simpa [D.bel] using hb))
  · intro a2 n2 h hb
    have hn2 : n2 < α.length := by simpa [D.bel] using hb
    obtain ⟨t, rfl⟩ := hp
    rw [List.getElem?_append_left hn2] at h
    exact .ref (by rw [List.getElem?_append_left hn2]; exact h)
  · exact fun _ => .nil
  · exact fun _ _ h r hb => by
      simp only [belows, Bool.and_eq_true] at hb
      exact .cons (h hb.1) (r hb.2)
theorem DRV.mid {K : PySem.W.Frag} {ω α α' : List Addr} {H : Hp} {a : Addr} (hp : α <+: α') (sub : ∀ x, x ∈ α ++ [a] → x ∈ α') {xs : List DEnt} {es : List (List Int × D)} (r : DRV K ω α' H xs es) (hb : belows α.length (es.map (·.2)) = true) : DRV K ω (α ++ [a]) H xs es := by
  induction r with
  | nil => exact .nil
  | cons h _ ih =>
    simp only [List.map_cons, belows, Bool.and_eq_true] at hb
    exact .cons ⟨h.1, RV.mid hp sub h.2.1 (key_bel _ _), RV.mid hp sub h.2.2 hb.1⟩ (ih hb.2)
theorem Sim.cut {K : PySem.W.Frag} {ω α α' : List Addr} {H : Hp} {M' : Mem} (hp : α <+: α') (s : Sim K ω α' H M') (hb : BelowB α.length M') : Sim K ω α H (M'.take α.length) := by
  have hl : α.length ≤ α'.length := hp.length_le
  refine ⟨by rw [List.length_take]; have := s.len; omega, ?_, fun a m => ⟨fun z => (s.hid a m).1 (hp.subset z), (s.hid a m).2⟩, fun n a c e1 e2 => ?_, s.tab⟩
  · exact s.nd.sublist hp.sublist
  · have hn : n < α.length := (List.getElem?_eq_some_iff.mp e1).1
    rw [List.getElem?_take_of_lt hn] at e2
    have e1' : α'[n]? = some a := by
      obtain ⟨t, rfl⟩ := hp
      rw [List.getElem?_append_left hn]; exact e1
    have q := s.cell n a c e1' e2
    have hc := hb n hn c e2
    cases c with
    | lst ds => obtain ⟨xs, e, r⟩ := q; exact ⟨xs, e, r.cut hp _ _ hc⟩
    | dct es => obtain ⟨xs, e, r⟩ := q; exact ⟨xs, e, r.cut hp hc⟩
theorem Pres.cut {b m : Nat} {M M' : Mem} (h : Pres m M M') (hm : m = M.length) (hb : b ≤ m) : Pres b M (M'.take m) := by
  subst hm
  refine ⟨by rw [List.length_take]; have := h.len; omega, fun b0 h0 x n hn c e => ?_⟩
  rw [List.getElem?_take_of_lt (by omega)] at e
  exact h.bel b0 (by omega) x n hn c e
theorem RVs.keep {K : PySem.W.Frag} {ω α α' : List Addr} {H : Hp} {a : Addr} (hp : α <+: α') (ha : a ∈ α') : ∀ {ds : List D} {vs : List V}, RVs K ω α' H vs ds → pures ds = true → RVs K ω (α ++ [a]) H vs ds := by
  intro ds vs h hb
  have sub : ∀ x, x ∈ α ++ [a] → x ∈ α' := fun x m => by
    rcases List.mem_append.mp m with m | m
    · exact hp.subset m
    · rw [List.mem_singleton.mp m]; exact ha
  refine RVs.rec (K := K) (ω := ω) (α := α') (H := H) (motive_1 := fun v d _ => d.pure = true → RV K ω (α ++ [a]) H v d) (motive_2 := fun vs ds _ => pures ds = true → RVs K ω (α ++ [a]) H vs ds) ?_ ?_ ?_ ?_ ?_ ?_ ?_ ?_ ?_ ?_ h hb
  · exact fun _ => .non
  · exact fun b _ => .bl b
  · exact fun b _ => .int b
  · exact fun b _ => .str b
  · exact fun h _ r hb => .tup (h.imp (fun q => ⟨q.1, fun m => q.2 (sub _ m)⟩) id) (r (by simpa [D.pure] using hb))
  · exact fun h n w _ r hb => .lst h (fun m => n (sub _ m)) w (r (by simpa [D.pure] using hb))
  · exact fun h _ r hb => .fix (h.imp (fun q => ⟨⟨q.1.1, fun m => q.1.2 (sub _ m)⟩, q.2⟩) id) (r (by simpa [D.pure] using hb))
  · exact fun h hb => by simp [D.pure] at hb
  · exact fun _ => .nil
  · exact fun _ _ h r hb => by
      simp only [pures, Bool.and_eq_true] at hb
      exact .cons (h hb.1) (r hb.2)
theorem Sim.keep {K : PySem.W.Frag} {ω α α' : List Addr} {H : Hp} {M' : Mem} {n : Nat} {a : Addr} {xs : List D} (hp : α <+: α') (s : Sim K ω α' H M') (hb : BelowB α.length M') (hn : α.length ≤ n) (ha : α'[n]? = some a) (hx : M'[n]? = some (.lst xs)) (pu : pures xs = true) :
    Sim K ω (α ++ [a]) H (M'.take α.length ++ [.lst xs]) := by
  have s0 := s.cut hp hb
  have ma : a ∈ α' := List.mem_of_getElem? ha
  have na : a ∉ α := fun m => by
    obtain ⟨k, hk, e⟩ := List.getElem_of_mem m
    obtain ⟨t, rfl⟩ := hp
    have e1 : (α ++ t)[k]? = some a := by rw [List.getElem?_append_left hk, List.getElem?_eq_getElem hk, e]
    obtain ⟨h1, g1⟩ := List.getElem?_eq_some_iff.mp e1
    obtain ⟨h2, g2⟩ := List.getElem?_eq_some_iff.mp ha
    have := (List.getElem_inj s.nd).mp (g1.trans g2.symm)
    omega
  have st : Stp α H (α ++ [a]) H → True := fun _ => trivial
  refine ⟨by have := s0.len; rw [List.length_append, List.length_append, ← this]; rfl, ?_, fun c m => ⟨fun z => ?_, (s.hid c m).2⟩, fun k c u e1 e2 => ?_, s.tab⟩
  · rw [List.nodup_append]
    exact ⟨s0.nd, by simp, fun c hc d hd e => by rw [List.mem_singleton.mp hd] at e; exact na (e ▸ hc)⟩
  · rcases List.mem_append.mp z with z | z
    · exact (s0.hid c m).1 z
    · exact (s.hid c m).1 (by rw [List.mem_singleton.mp z]; exact ma)
  · by_cases hl : k < α.length
    · rw [List.getElem?_append_left hl] at e1
      rw [List.getElem?_append_left (by rw [← s0.len]; exact hl)] at e2
      have q := s0.cell k c u e1 e2
      rw [List.getElem?_take_of_lt hl] at e2
      have hc := hb k hl u e2
      cases u with
      | dct es =>
        have e1' : α'[k]? = some c := by
          obtain ⟨t, rfl⟩ := hp
          rw [List.getElem?_append_left hl]; exact e1
        obtain ⟨zs, e', r'⟩ := s.cell k c _ e1' e2
        have sub : ∀ x, x ∈ α ++ [a] → x ∈ α' := fun x m => by
          rcases List.mem_append.mp m with m | m
          · exact hp.subset m
          · rw [List.mem_singleton.mp m]; exact ma
        exact ⟨zs, e', r'.mid hp sub hc⟩
      | lst es =>
        obtain ⟨ys, e, r⟩ := q
        refine ⟨ys, e, ?_⟩
        -- the elder cells' items at the longer list of addresses
        have e1' : α'[k]? = some c := by
          obtain ⟨t, rfl⟩ := hp
          rw [List.getElem?_append_left hl]; exact e1
        obtain ⟨zs, e', r'⟩ := s.cell k c _ e1' e2
        rw [e] at e'; cases e'
        have sub : ∀ x, x ∈ α ++ [a] → x ∈ α' := fun x m => by
          rcases List.mem_append.mp m with m | m
          · exact hp.subset m
          · rw [List.mem_singleton.mp m]; exact ma
        refine RVs.rec (K := K) (ω := ω) (α := α') (H := H) (motive_1 := fun v d _ => d.bel α.length = true → RV K ω (α ++ [a]) H v d) (motive_2 := fun vs ds _ => belows α.length ds = true → RVs K ω (α ++ [a]) H vs ds) ?_ ?_ ?_ ?_ ?_ ?_ ?_ ?_ ?_ ?_ r' hc
        · exact fun _ => .non
        · exact fun b _ => .bl b
        · exact fun b _ => .int b
        · exact fun b _ => .str b
        · exact fun h _ r hb => .tup (h.imp (fun q => ⟨q.1, fun m => q.2 (sub _ m)⟩) id) (r (by simpa [D.bel] using hb))
        · exact fun h n w _ r hb => .lst h (fun m => n (sub _ m)) w (r (by simpa [D.bel] using hb))
        · exact fun h _ r hb => .fix (h.imp (fun q => ⟨⟨q.1.1, fun m => q.1.2 (sub _ m)⟩, q.2⟩) id) (r (by simpa [D.bel] using hb))
        · intro a2 n2 h hb
          have hn2 : n2 < α.length := by simpa [D.bel] using hb
          obtain ⟨t, rfl⟩ := hp
          rw [List.getElem?_append_left hn2] at h
          exact .ref (by rw [List.getElem?_append_left hn2]; exact h)
        · exact fun _ => .nil
        · exact fun _ _ h r hb => by
            simp only [belows, Bool.and_eq_true] at hb
            exact .cons (h hb.1) (r hb.2)
    · rw [List.getElem?_append_right (by omega)] at e1
      rw [List.getElem?_append_right (by rw [← s0.len]; omega)] at e2
      rw [s0.len] at e1
      cases hk : k - (List.take α.length M').length with
      | zero =>
        rw [hk] at e1 e2
        simp at e1 e2
        subst e1 e2
        obtain ⟨ys, e, r⟩ := s.cell n a _ ha hx
        exact ⟨ys, e, r.keep hp ma pu⟩
      | succ j => rw [hk] at e1; simp at e1

/-- a def of the text, compiled -/
def lamQ (x : Str) : Str := x ++ ".<locals>." ++ "<lambda>"
/-- the def x may make lambdas: its code object and the table -/
def LamAt (K : PySem.W.Frag) (x : Str) : Prop := ∃ c Pt, PySem.W.tabIn K x = some (c, Pt) ∧ (c, Pt) ∈ TB.cs ∧ (Pt, lamQ x) ∈ TB.T ∧ ∀ p ∈ TB.T, p.1 = Pt → p.2 = lamQ x
structure DefOk (P : Par) (fns : List Fn) (K : PySem.W.Frag) (mg : Str → Option Value) (x : Str) (i : Nat) : Prop where
  ex : ∃ (f : Fn) (st : Stmt) (a : Addr) (fd : FuncData) (k : Nat), fns[i]? = some f ∧ mg x = some (.ref a) ∧ Fun K x x st a fd ∧ FnScope f.N f.ps (defScope st) ∧ (cSs P f.N (defScope st) k (defBody st) = some f.body ∨ f.body = holeB) ∧ Binds K fd f.ps [] ∧ f.ps.length ≤ f.N.length ∧ (("<lambda>" : Str) ∈ f.N → LamAt K x)
/-- the facts of the top -/
structure TopOk (P : Par) (fns : List Fn) (K : PySem.W.Frag) (mg : Str → Option Value) (w : World) : Prop where
  dct : ∀ x es, P.dcts.lookup x = some es → ∃ p, mg x = some (.ref p) ∧ ∀ z d, es.lookup z = some d → KDct K w p z (.str d)
  gl : ∀ x d, P.gls.lookup x = some d → ∃ v u, mg x = some u ∧ RelV v u ∧ ∀ ω α H, RV K ω α H v d
  blt : ∀ x, P.blt.contains x = true → mg x = none
  exs : ∀ c, P.exs.contains c = true → ∃ C, mg c = some (.ref C) ∧ PySem.W.excIn K C [.type "ValueError", .type "Exception", .type "BaseException", .type "object"] "ValueError.__new__" = true ∧ PySem.W.keepIn K (.ref C) = true ∧
    PySem.W.subIn K (.ref C) (.type "BaseException") = some true ∧ PySem.W.typeIn K (.ref C) = some (.type "type")
  defs : ∀ (x : Str) (i : Nat), x ≠ "" → ixOf P.fnm x 0 = some i → DefOk P fns K mg x i
  rf : ∀ x, P.rf = some x → RefDef K mg x
theorem rs_start {K : PySem.W.Frag} {ω α : List Addr} {H : Hp} {N : List Str} {vs : List V} {ds : List D} (r : RVs K ω α H vs ds) : RS K ω α H (L2.start N vs) (entry N ds) := by
  unfold L2.start entry
  refine ⟨by simp [r.length], fun i d h => ?_⟩
  by_cases hi : i < ds.length
  · rw [List.getElem?_append_left (by simpa using hi), List.getElem?_map] at h
    cases e : ds[i]? with
    | none => rw [e] at h; cases h
    | some x =>
      rw [e] at h
      cases h
      obtain ⟨v, hv, q⟩ := r.get e
      exact ⟨v, by rw [List.getElem?_append_left (by rw [List.length_map, r.length]; exact hi), List.getElem?_map, hv]; rfl, q⟩
  · rw [List.getElem?_append_right (by simpa using hi)] at h
    rw [List.getElem?_replicate] at h
    split at h <;> cases h
/-- what the base brings -/
structure BaseOk (K : PySem.W.Frag) (mg : Str → Option Value) (base : Heap) : Prop where
  kin : K.In base
  ns : base.Ns mainGlobals mg
  tb : ∀ p ∈ TB.cs, LamX.TabB base mg p.1 p.2
theorem fn_step {P : Par} {fns : List Fn} {Pr : Program} {w : World} {K : PySem.W.Frag} {mg : Str → Option Value} {base : Heap} (T : TopOk P fns K mg w) {n : Nat} {x : Str} {i : Nat} {f : Fn} {st : Stmt} {a : Addr} {fd : FuncData} {k : Nat}
    (hf : fns[i]? = some f) (F : Fun K x x st a fd) (S : FnScope f.N f.ps (defScope st)) (hb : cSs P f.N (defScope st) k (defBody st) = some f.body ∨ f.body = holeB) (hm : mg x = some (.ref a)) (hlam : ("<lambda>" : Str) ∈ f.N → LamAt K x) (B : BaseOk K mg base)
    (ih : ∀ (x : Str) (i : Nat), x ≠ "" → ixOf P.fnm x 0 = some i → ∃ a fd ps, mg x = some (.ref a) ∧ PySem.W.keepIn K (.ref a) = true ∧ Binds K fd ps [] ∧ FnOk Pr w K mg base (L2N.CX Pr w) (3 * n) a fd ps (spF K mg fns n i)) :
    FnOk Pr w K mg base (L2N.CX Pr w) (3 * (n + 1)) a fd f.ps (spF K mg fns (n + 1) i) := by
    obtain ⟨oc, od, kV, doc, pm, an, cdv, ct, osl, rfl, lk, hcd⟩ := F.ex
    refine (show FnOk Pr w K mg base (L2N.CX Pr w) ((3 * n + 2) + 1) a _ f.ps _ from fn_of lk hcd S (fun vs H Q E h => ?_) (fun A outer s H vs Q E hr h => ?_))
    · obtain ⟨ω, α, b, M, ds, f', _, _, _, e, hl, _⟩ := h
      rw [hf] at e; cases e; exact hl
    · obtain ⟨ω, α, b, M, ds, f', sm, hbM, rvs, e, hlen, q⟩ := h
      rw [hf] at e; cases e
      rcases hb with hb | hb
      rotate_left
      · rw [call_hole hf hb] at q
        exact (show False from q).elim
      have tk : L2N.Takes (cxOf (L2N.CX Pr w) Pr w K mg base f.N x (defScope st) a cdv A outer s H E) (fun cls d σ H => E cls d H) := L2N.takes_of rfl rfl rfl rfl
      have g : GoodS P fns n E f.N (defScope st) (cxOf (L2N.CX Pr w) Pr w K mg base f.N x (defScope st) a cdv A outer s H E) :=
        { hN := rfl, hsc := rfl, nd := S.nd, room := hr.mono (by omega), calm := rfl, pass := L2N.passes_call tk (fun _ _ _ _ h => h), takes := tk, own := passes_of rfl, gl := T.gl, blt := T.blt, dct := T.dct, fns := ih, fn := fun _ => rfl, kind := S.kind, exs := T.exs, lam := fun y hy => ⟨T.rf y hy, fun hn => ⟨⟨by
            obtain ⟨c, Pt, e1, e2, e3, e4⟩ := hlam hn
            exact ⟨c, Pt, B.tb _ e2, PySem.W.law_code B.kin B.ns e1 hm (B.kin _ _ lk) rfl, e3, e4⟩⟩, hr⟩⟩ }
      refine ⟨_, (cS_ok (N := f.N) k).2 _ _ hb n E _ g, ?_⟩
      refine ⟨ω, α, M.length, entry f.N ds, M, sm, rs_start rvs, Nat.le_refl _, ?_⟩
      simp only [callFn, hf] at q
      obtain ⟨_, q⟩ := post_if q
      have hlen : α.length = M.length := sm.len
      cases hev : evSs (callFn fns n) M.length f.body (entry f.N ds) M with
      | stuck => rw [hev] at q; exact q.elim
      | exc c M' =>
        rw [hev] at q
        intro α' H' C st' sm' pr' hC
        have hb : BelowB α.length M' := by rw [hlen]; exact pr'.bel _ (Nat.le_refl _) sm.below
        have s2 := sm'.cut st'.pre hb
        rw [hlen] at s2
        exact q α H' C ⟨List.prefix_refl _, st'.kept, fun _ h n => absurd h n⟩ s2 (pr'.cut rfl hbM) hC
      | ok fl M' =>
        rw [hev] at q
        intro α' H' st' sm' pr'
        have hb : BelowB α.length M' := by rw [hlen]; exact pr'.bel _ (Nat.le_refl _) sm.below
        have s2 := sm'.cut st'.pre hb
        rw [hlen] at s2
        have st2 : Stp α H α H' := ⟨List.prefix_refl _, st'.kept, fun _ h n => absurd h n⟩
        cases fl with
        | next ρ' => exact fun σ' _ => q α H' st2 s2 (pr'.cut rfl hbM) _ .non
        | ret d =>
          intro v rv
          replace q : Post K ω mg E b α H M (leave f.keep M.length d M') _ := q
          unfold leave at q
          split at q
          · rename_i hd
            rw [← hlen] at hd
            exact q α H' st2 s2 (pr'.cut rfl hbM) _ (rv.cut st'.pre _ _ hd)
          · rename_i hd
            split at q
            · rename_i k2
              cases hk : M'[k2]? with
              | none => rw [hk] at q; exact q.elim
              | some c =>
                cases c with
                | dct es => rw [hk] at q; exact q.elim
                | lst xs =>
                  rw [hk] at q
                  obtain ⟨pu, q⟩ := post_if q
                  have hge : M.length ≤ k2 := by
                    simp only [D.bel, decide_eq_true_eq] at hd
                    omega
                  cases rv with
                  | @ref a2 _ ha =>
                    obtain ⟨ys, hH, ry⟩ := sm'.cell _ _ _ ha hk
                    have ma : a2 ∈ α' := List.mem_of_getElem? ha
                    have na : a2 ∉ α := fun m => by
                      obtain ⟨j, hj, e⟩ := List.getElem_of_mem m
                      obtain ⟨t, rfl⟩ := st'.pre
                      have e1 : (α ++ t)[j]? = some a2 := by rw [List.getElem?_append_left hj, List.getElem?_eq_getElem hj, e]
                      obtain ⟨h1, g1⟩ := List.getElem?_eq_some_iff.mp e1
                      obtain ⟨h2, g2⟩ := List.getElem?_eq_some_iff.mp ha
                      have := (List.getElem_inj sm'.nd).mp (g1.trans g2.symm)
                      omega
                    split at q
                    · have s3 := sm'.keep st'.pre hb (by rw [hlen]; exact hge) ha hk pu
                      rw [hlen] at s3
                      have hlt : (List.take M.length M').length = M.length := by rw [List.length_take]; have := pr'.len; omega
                      refine q (α ++ [a2]) H' ⟨List.prefix_append _ _, st'.kept, fun c m n => ?_⟩ s3 ((pr'.cut rfl hbM).trans (Pres.grow _ _ _ (by rw [hlt]; exact hbM))) _ (.ref ?_)
                      · rcases List.mem_append.mp m with m | m
                        · exact absurd m n
                        · rw [List.mem_singleton.mp m]; exact st'.new _ ma na
                      · rw [List.getElem?_append_right (by omega), hlen, Nat.sub_self]; rfl
                    · exact q α H' st2 s2 (pr'.cut rfl hbM) _ (.lst hH na (fun m => (sm'.hid _ m).1 ma) (ry.cut st'.pre _ _ (bels_of_pure _ _ pu)))
            · rename_i ds2
              unfold leaveT at q
              split at q
              · rename_i x k2
                obtain ⟨hc, q⟩ := post_if q
                simp only [Bool.and_eq_true, decide_eq_true_eq] at hc
                obtain ⟨⟨_, hx⟩, hge⟩ := hc
                cases hk : M'[k2]? with
                | none => rw [hk] at q; exact q.elim
                | some c =>
                  cases c with
                  | dct es => rw [hk] at q; exact q.elim
                  | lst xs =>
                    rw [hk] at q
                    obtain ⟨pu, q⟩ := post_if q
                    cases rv with
                    | tup hob rs =>
                      cases rs with
                      | cons r1 rs =>
                        cases rs with
                        | cons r2 rs =>
                          cases rs with
                          | nil =>
                            cases r2 with
                            | @ref a2 _ ha =>
                              have ma : a2 ∈ α' := List.mem_of_getElem? ha
                              have na : a2 ∉ α := fun m => by
                                obtain ⟨j, hj, e⟩ := List.getElem_of_mem m
                                obtain ⟨t, rfl⟩ := st'.pre
                                have e1 : (α ++ t)[j]? = some a2 := by rw [List.getElem?_append_left hj, List.getElem?_eq_getElem hj, e]
                                obtain ⟨h1, g1⟩ := List.getElem?_eq_some_iff.mp e1
                                obtain ⟨h2, g2⟩ := List.getElem?_eq_some_iff.mp ha
                                have := (List.getElem_inj sm'.nd).mp (g1.trans g2.symm)
                                omega
                              have sub : ∀ c, c ∈ α ++ [a2] → c ∈ α' := fun c m => by
                                rcases List.mem_append.mp m with m | m
                                · exact st'.pre.subset m
                                · rw [List.mem_singleton.mp m]; exact ma
                              have s3 := sm'.keep st'.pre hb (by rw [hlen]; exact hge) ha hk pu
                              rw [hlen] at s3
                              have hlt : (List.take M.length M').length = M.length := by rw [List.length_take]; have := pr'.len; omega
                              refine q (α ++ [a2]) H' ⟨List.prefix_append _ _, st'.kept, fun c m n => ?_⟩ s3 ((pr'.cut rfl hbM).trans (Pres.grow _ _ _ (by rw [hlt]; exact hbM))) _ (.tup (hob.imp (fun q => ⟨q.1, fun m => q.2 (sub _ m)⟩) id) (.cons (RV.mid st'.pre sub r1 (by rw [hlen]; exact hx)) (.cons (.ref ?_) .nil)))
                              · rcases List.mem_append.mp m with m | m
                                · exact absurd m n
                                · rw [List.mem_singleton.mp m]; exact st'.new _ ma na
                              · rw [List.getElem?_append_right (by omega), hlen, Nat.sub_self]; rfl
              · exact q.elim
            · exact q.elim

theorem fns_ok {P : Par} {fns : List Fn} {Pr : Program} {w : World} {K : PySem.W.Frag} {mg : Str → Option Value} {base : Heap} (T : TopOk P fns K mg w) (B : BaseOk K mg base) :
    ∀ (n : Nat) (x : Str) (i : Nat), x ≠ "" → ixOf P.fnm x 0 = some i → ∃ a fd ps, mg x = some (.ref a) ∧ PySem.W.keepIn K (.ref a) = true ∧ Binds K fd ps [] ∧ FnOk Pr w K mg base (L2N.CX Pr w) (3 * n) a fd ps (spF K mg fns n i) := by
  intro n
  induction n with
  | zero =>
    intro x i hne hi
    obtain ⟨f, st, a, fd, k, hf, hm, F, S, hb, hB, hl, hla⟩ := (T.defs x i hne hi).ex
    refine ⟨a, fd, f.ps, hm, F.kp, hB, ⟨fun vs H Q E h => ?_, fun A outer s H args us vs Q E _ _ _ _ h => ?_⟩⟩
    · obtain ⟨ω, α, b, M, ds, f', _, _, _, e, hl, _⟩ := h
      rw [hf] at e; cases e; exact hl
    · obtain ⟨ω, α, b, M, ds, f', _, _, _, e, hl, q⟩ := h
      exact (show False from q).elim
  | succ n ih =>
    intro x i hne hi
    obtain ⟨f, st, a, fd, k, hf, hm, F, S, hb, hB, hl, hla⟩ := (T.defs x i hne hi).ex
    exact ⟨a, fd, f.ps, hm, F.kp, hB, fn_step T hf F S hb hm hla B ih⟩
/-- .. of the def at hand -/
theorem fns_ok_at {P : Par} {fns : List Fn} {Pr : Program} {w : World} {K : PySem.W.Frag} {mg : Str → Option Value} {base : Heap} (T : TopOk P fns K mg w) (B : BaseOk K mg base) (n : Nat) {x : Str} {i : Nat} (hn : x ≠ "") (hi : ixOf P.fnm x 0 = some i) {f : Fn} {st : Stmt} {a : Addr} {fd : FuncData} {k : Nat}
    (hf : fns[i]? = some f) (hm : mg x = some (.ref a)) (F : Fun K x x st a fd) (S : FnScope f.N f.ps (defScope st)) (hb : cSs P f.N (defScope st) k (defBody st) = some f.body) (hB : Binds K fd f.ps []) (hl : f.ps.length ≤ f.N.length) (hlam : ("<lambda>" : Str) ∈ f.N → LamAt K x) :
    FnOk Pr w K mg base (L2N.CX Pr w) (3 * n) a fd f.ps (spF K mg fns n i) := by
  cases n with
  | zero =>
    refine ⟨fun vs H Q E h => ?_, fun A outer s H args us vs Q E _ _ _ _ h => ?_⟩
    · obtain ⟨ω, α, b, M, ds, f', _, _, _, e, hl, _⟩ := h
      rw [hf] at e; cases e; exact hl
    · obtain ⟨ω, α, b, M, ds, f', _, _, _, e, hl, q⟩ := h
      exact (show False from q).elim
  | succ n => exact fn_step T hf F S (.inl hb) hm hlam B (fns_ok T B n)
/-! ## A law -/
def spLaw (K : PySem.W.Frag) : Sp := fun vs H Q _ => ∃ (a : Addr) (ns : List Int), vs = [.ref a] ∧ (∀ p ∈ TB.cs, H p.2 = some (.tbl #[])) ∧ SqL K H a (ns.map V.int) ∧ ns.length ≤ 63 ∧ ∀ H', Q (.bl true) H'
/-- the law's own def gives True at every script -/
def LawTrue (fns : List Fn) (n i : Nat) : Prop := ∀ ns : List Int, ns.length ≤ 63 → ∃ M, callFn fns n i [.fix (ns.map D.int)] [] = .ok (.bl true) M
theorem rvs_ints {K : PySem.W.Frag} {ω α : List Addr} {H : Hp} : ∀ ns : List Int, RVs K ω α H (ns.map V.int) (ns.map D.int)
  | [] => .nil
  | n :: r => .cons (.int n) (rvs_ints r)
theorem law_sp {P : Par} {fns : List Fn} {Pr : Program} {w : World} {K : PySem.W.Frag} {mg : Str → Option Value} {base : Heap} {n i : Nat} {x : Str} {fa : Addr} {fd : FuncData} {f : Fn} (hf : fns[i]? = some f) (hp : f.ps.length = 1) (hT : ∀ p ∈ TB.T, ∃ c, (c, p.1) ∈ TB.cs) (L : LawTrue fns n i)
    (F : FnOk Pr w K mg base (L2N.CX Pr w) (3 * n) fa fd [x] (spF K mg fns n i)) : FnOk Pr w K mg base (L2N.CX Pr w) (3 * n) fa fd [x] (spLaw K) := F.imp fun vs H Q E h => by
  obtain ⟨a, ns, rfl, htb, hs, hl, q⟩ := h
  obtain ⟨M, hM⟩ := L ns hl
  refine ⟨[], [], 0, [], [.fix (ns.map D.int)], f, ⟨rfl, List.nodup_nil, fun _ h => by simp at h, fun _ _ _ h => by simp at h, fun p hp => by
    obtain ⟨c, hc⟩ := hT p hp
    exact LamX.TabS.nil (htb (c, p.1) hc)⟩, Nat.zero_le _, .cons (.fix ?_ (rvs_ints ns)) .nil, hf, by rw [hp]; rfl, ?_⟩
  · rcases hs with h | h
    · exact .inl ⟨⟨h, by simp⟩, by simp⟩
    · exact .inr h
  · rw [hM]
    intro α' H' _ _ _ v rv
    rw [rv_bl rv]
    exact q H'
theorem cx_no {Pr : Program} {w : World} {H : Hp} {s : Shared} {e : Value} {s' : Shared} (h : L2N.CX Pr w [] H s (fun _ _ _ => False) e s') : False := by
  obtain ⟨_, _, _, _, _, _, _, _, _, _, _, _, z⟩ := h
  exact z.elim
def tabOk (fnm : List Str) (tab : List (Str × Nat)) : Bool := (List.range fnm.length).all fun i => match fnm[i]? with
  | some x => x == "" || tab.contains (x, i)
  | none => true
theorem tab_mem {fnm : List Str} {tab : List (Str × Nat)} (h : tabOk fnm tab = true) {x : Str} {i : Nat} (hn : x ≠ "") (hi : ixOf fnm x 0 = some i) : (x, i) ∈ tab := by
  obtain ⟨_, e⟩ := ixOf_get _ _ _ _ hi
  rw [Nat.sub_zero] at e
  unfold tabOk at h
  rw [List.all_eq_true] at h
  have := h i (List.mem_range.mpr (List.getElem?_eq_some_iff.mp e).1)
  rw [e] at this
  simp only [Bool.or_eq_true, beq_iff_eq] at this
  rcases this with z | z
  · exact absurd z hn
  · simpa using z
theorem top_mk {P : Par} {fns : List Fn} {K : PySem.W.Frag} {mg : Str → Option Value} {w : World} {tab : List (Str × Nat)} (ht : tabOk P.fnm tab = true)
    (gl : ∀ p, p ∈ P.gls → ∃ v u, mg p.1 = some u ∧ RelV v u ∧ ∀ ω α H, RV K ω α H v p.2) (blt : ∀ x, x ∈ P.blt → mg x = none)
    (exs : ∀ c, c ∈ P.exs → ∃ C, mg c = some (.ref C) ∧ PySem.W.excIn K C [.type "ValueError", .type "Exception", .type "BaseException", .type "object"] "ValueError.__new__" = true ∧ PySem.W.keepIn K (.ref C) = true ∧
      PySem.W.subIn K (.ref C) (.type "BaseException") = some true ∧ PySem.W.typeIn K (.ref C) = some (.type "type"))
    (defs : ∀ p, p ∈ tab → DefOk P fns K mg p.1 p.2) (rf : ∀ x, P.rf = some x → RefDef K mg x) (dct : ∀ p, p ∈ P.dcts → ∃ a, mg p.1 = some (.ref a) ∧ ∀ q, q ∈ p.2 → KDct K w a q.1 (.str q.2)) : TopOk P fns K mg w where
  dct := fun x es h => by
    obtain ⟨a, e, f⟩ := dct (x, es) (PySem.mem_of_lookup h)
    exact ⟨a, e, fun z d h2 => f (z, d) (PySem.mem_of_lookup h2)⟩
  gl := fun x d h => gl (x, d) (PySem.mem_of_lookup h)
  blt := fun x h => blt x (by simpa using h)
  exs := fun x h => exs x (by simpa using h)
  defs := fun x i hn hi => defs (x, i) (tab_mem ht hn hi)
  rf := rf
theorem def_mk {P : Par} {fns : List Fn} {K : PySem.W.Frag} {h : Heap} {mg : Str → Option Value} (KX : K.In h) (G : h.Ns mainGlobals mg) {x : Str} {i : Nat} (f : Fn) (st : Stmt) (k : Nat) {a : Addr} {oc : Value} {od an : Option Addr} {osl : Array (Option Value)} {kV doc pm cdv ct : Value}
    (hf : fns[i]? = some f) (S : FnScope f.N f.ps (defScope st)) (hb : cSs P f.N (defScope st) k (defBody st) = some f.body ∨ f.body = holeB) (hl : f.ps.length ≤ f.N.length)
    (hB : ∀ (kV doc pm : Value) (an : Option Addr) (cdv ct : Value) (us : List Value), us.length = f.ps.length → bindArgs (PySem.W.fnOf x x (defArgs st) (defBody st) (defScope st) .none kV doc pm an cdv ct) ⟨us, []⟩ = pure (f.ps.zip us))
    (e1 : PySem.W.nsIn K mainGlobals x = some (some (.ref a))) (e2 : K.lookup a = some ⟨oc, od, .func (PySem.W.fnOf x x (defArgs st) (defBody st) (defScope st) .none kV doc pm an cdv ct), osl⟩)
    (e3 : PySem.W.codeIn K cdv x = true) (e4 : PySem.W.keepIn K (.ref a) = true) (hlam : ("<lambda>" : Str) ∈ f.N → LamAt K x := by intro h; exact absurd h (by decide +kernel)) : DefOk P fns K mg x i :=
  ⟨f, st, a, _, k, hf, PySem.W.mg_of KX G e1, fun_mk e2 e3 e4, S, hb, (fun_mk e2 e3 e4).binds hB, hl, hlam⟩
/-- a law's end: the tables of the defs that make lambdas -/
theorem walk_tabs {l : PySem.W.OpenLaw} {n k : Nat} {q : Program} {loose : List Str} {XP : (Str → Option Value) → Heap → Prop} {YP : World → Heap → Prop} {d : DefRec} {K : Params → PySem.W.Frag} {CX : World → CXT} {x : Str}
    (hn : l.most = some n) (hn2 : n ≤ sizeLine) (hdf : d.params.defaults = []) (hr : Room k callerA) (hY : ∀ (w : World) (h : Heap), YP w h → (K w.params).In h)
    (F : ∀ (w : World) (mg : Str → Option Value) (fa : Addr) (h : Heap), (K w.params).In h → h.Ns mainGlobals mg → mg d.name = some (.ref fa) →
      (∀ (y : Str) (c Pt : Addr), ((recsOf q).find? fun e => e.name == y).isSome = true → PySem.W.tabIn (K w.params) y = some (c, Pt) → PySem.W.CodeHd h c Pt ∧ h.get? Pt = some { cls := .none, data := .fields #[] }) → LamX.LawAtS l w (K w.params) (CX w) k n x mg fa h)
    (hCX : ∀ (w : World) (H : Hp) (s : Shared) (e : Value) (s' : Shared), CX w [] H s (fun _ _ _ => False) e s' → False) :
    PySem.W.WalkO q loose XP YP l.row.toRowW d [] (fun f vs => PySem.call f vs) :=
  Att.attach_callB hn hdf fun w s₀ s₁ mg mb fa o pm cd doc a vs ns G Y ho hd hcd hmg hobj hints hlen hbits hg => by
    have kx := hY w _ Y
    obtain ⟨fd, cs, sp, h1, h2, h3, h4, h5, h6⟩ := F w mg fa _ kx G.T.g hmg fun y c Pt hf ht => by
      obtain ⟨e, he⟩ := Option.isSome_iff_exists.mp hf
      exact PySem.W.tab_of G.T kx he ht
    exact LamX.law_callTs kx G.T.g G.T.b G.T.builtins G.T.nolimit hg h1 h2 h3 G.T.bmain hobj hints (Nat.le_trans hlen hn2) hr h6 h4 (fun H e1 e2 => h5 H a ns hlen hbits e1 e2) fun H e s' => hCX w H s₁ e s'
/-- .. what it asks of a law -/
theorem law_at {l : PySem.W.OpenLaw} {w : World} {P : Par} {fns : List Fn} {K : PySem.W.Frag} {mg : Str → Option Value} {h : Heap} {n i : Nat} {fa : Addr} {fd : FuncData} {f : Fn} {st : Stmt} {k : Nat}
    (T : TopOk P fns K mg w) (hT : ∀ p ∈ TB.T, ∃ c, (c, p.1) ∈ TB.cs) (h1 : ∀ p ∈ TB.cs, PySem.W.CodeHd h p.1 p.2 ∧ h.get? p.2 = some { cls := .none, data := .fields #[] }) (h2 : ∀ p ∈ TB.cs, K.lookup p.2 = none) (L : LawTrue fns n i)
    (hi : ixOf P.fnm "law" 0 = some i) (hf : fns[i]? = some f) (hm : mg "law" = some (.ref fa)) (F : Fun K "law" "law" st fa fd) (S : FnScope f.N ([("_law_script" : Str)] : List Str) (defScope st)) (hb : cSs P f.N (defScope st) k (defBody st) = some f.body) (hp : f.ps = ([("_law_script" : Str)] : List Str)) (hB : Binds K fd f.ps []) (hl : f.ps.length ≤ f.N.length)
    (hlam : ("<lambda>" : Str) ∈ f.N → LamAt K "law") (hbt : ∀ (s : Shared) (v : Value), BindsTo s fd ⟨[v], []⟩ [(("_law_script" : Str), v)]) :
    LamX.LawAtS l w K (L2N.CX l.prog w) (3 * n) 63 "_law_script" mg fa h :=
  ⟨fd, TB.cs, spLaw K, fun p hp => (h1 p hp).2, h2, fun p hp => (h1 p hp).1, hbt, fun H a ns hl' _ ht hs => ⟨a, ns, rfl, ht, hs, hl', fun _ => rfl⟩, fun base hK hN hTB => by
    have F := fns_ok_at (Pr := l.prog) (w := w) T ⟨hK, hN, hTB⟩ n (x := "law") (by decide) hi hf hm F (by rw [hp]; exact S) hb hB hl hlam
    rw [hp] at F
    exact law_sp (P := P) hf (by rw [hp]; rfl) hT L F⟩

end CP12
section CPT
variable [TB : Tbs]

/-! ## The facts of the refusals' classes, reckoned -/
def isBi (s : String) : Option (Option Value) → Bool
  | some (some (.builtin n)) => n == s
  | _ => false
theorem isBi_ok {s : String} {o : Option (Option Value)} (h : isBi s o = true) : o = some (some (.builtin s)) := by
  unfold isBi at h
  split at h
  · rw [beq_iff_eq.mp h]
  · cases h
def isNo : Option (Option Value) → Bool
  | some none => true
  | _ => false
theorem isNo_ok {o : Option (Option Value)} (h : isNo o = true) : o = some none := by
  unfold isNo at h
  split at h
  · rfl
  · cases h
def isB (b : Bool) : Option Bool → Bool
  | some c => c == b
  | none => false
theorem isB_ok {b : Bool} {o : Option Bool} (h : isB b o = true) : o = some b := by
  unfold isB at h
  split at h
  · rw [beq_iff_eq.mp h]
  · cases h
def excB (K : PySem.W.Frag) (D : Addr) : Bool :=
  isBi "BaseException.__getattribute__" (PySem.W.findIn K (.ref D) "__getattribute__") && (isNo (PySem.W.findIn K (.ref D) "__getattr__") && (isB true (PySem.W.subIn K (.ref D) (.type "BaseException")) && (PySem.W.hasDictIn K D && (isBi "object.__class__" (PySem.W.findIn K (.ref D) "__class__") &&
    (isBi "getset_descriptor.__get__" (PySem.W.specialIn K (.builtin "object.__class__") "__get__") && (isB true (PySem.W.takesIn K (.builtin "object.__class__")) && isB true (PySem.W.mroIn K D (.type "object"))))))))
theorem excB_ok {K : PySem.W.Frag} {D : Addr} (h : excB K D = true) : ExcC K D := by
  unfold excB at h
  simp only [Bool.and_eq_true] at h
  obtain ⟨h1, h2, h3, h4, h5, h6, h7, h8⟩ := h
  exact ⟨isBi_ok h1, isNo_ok h2, isB_ok h3, h4, isBi_ok h5, isBi_ok h6, isB_ok h7, isB_ok h8⟩
def clsB (K : PySem.W.Frag) (FE : Addr) (cs : List (Str × Addr)) : Bool :=
  cs.all fun p => excB K p.2 && (isB true (PySem.W.exmOne K (.ref p.2) (.ref FE)) && (isB true (PySem.W.kitOne K (.ref p.2) (.type "ValueError")) && cs.all fun q => isB (q.1 == p.1) (PySem.W.kitOne K (.ref p.2) (.ref q.2))))
theorem refCls_of {K : PySem.W.Frag} {mg : Str → Option Value} {FE : Addr} {cs : List (Str × Addr)} (h : clsB K FE cs = true) (hcs : cs.map (·.1) = refNames) (hm : ∀ p, p ∈ cs → mg p.1 = some (.ref p.2)) (hF : mg "FloorError" = some (.ref FE)) :
    ∀ c ∈ refNames, ∃ D, RefCls K mg c D := by
  intro c hc
  rw [← hcs] at hc
  obtain ⟨p, hp, rfl⟩ := List.mem_map.mp hc
  have h1 := List.all_eq_true.mp h p hp
  simp only [Bool.and_eq_true] at h1
  obtain ⟨a1, a2, a3, a4⟩ := h1
  refine ⟨p.2, excB_ok a1, hm p hp, ⟨FE, hF, isB_ok a2⟩, isB_ok a3, fun s hs => ?_⟩
  rw [← hcs] at hs
  obtain ⟨q, hq, rfl⟩ := List.mem_map.mp hs
  exact ⟨q.2, hm q hq, isB_ok (List.all_eq_true.mp a4 q hq)⟩
/-- the def that tells what is refused, from the facts of the top -/
theorem refDef_mk {K : PySem.W.Frag} {h : Heap} {mg : Str → Option Value} (KX : K.In h) (G : h.Ns mainGlobals mg) {x a : Str} (st : Stmt) {N : List Str} {g FE : Addr} {cs : List (Str × Addr)} {oc : Value} {od an : Option Addr} {osl : Array (Option Value)} {kV doc pm cdv ct : Value}
    (hB : ∀ (kV doc pm : Value) (an : Option Addr) (cdv ct : Value) (us : List Value), us.length = [a].length → bindArgs (PySem.W.fnOf x x (defArgs st) (defBody st) (defScope st) .none kV doc pm an cdv ct) ⟨us, []⟩ = pure ([a].zip us))
    (e1 : PySem.W.nsIn K mainGlobals x = some (some (.ref g))) (e2 : K.lookup g = some ⟨oc, od, .func (PySem.W.fnOf x x (defArgs st) (defBody st) (defScope st) .none kV doc pm an cdv ct), osl⟩)
    (e3 : PySem.W.codeIn K cdv x = true) (e4 : PySem.W.keepIn K (.ref g) = true)
    (hC : clsB K FE cs = true) (hcs : cs.map (·.1) = refNames) (hn : ∀ p, p ∈ cs → PySem.W.nsIn K mainGlobals p.1 = some (some (.ref p.2))) (hF : PySem.W.nsIn K mainGlobals "FloorError" = some (some (.ref FE)))
    (S : FnScope N [a] (defScope st)) (h0 : N[0]? = some a) (hv : isVis (defScope st) a = true) (ha : okName a = true)
    (giv : ∀ (X : Cx), X.K = K → X.mg = mg → GivesN X N x (defScope st) g cdv (defBody st) a (TTref X.K X.mg)) : RefDef K mg x where
  cls := refCls_of hC hcs (fun p hp => PySem.W.mg_of KX G (hn p hp)) (PySem.W.mg_of KX G hF)
  ex := ⟨g, oc, od, an, defArgs st, defBody st, defScope st, .none, kV, doc, pm, cdv, ct, osl, N, a, PySem.W.mg_of KX G e1, e4, e2, e3, (fun_mk (st := st) e2 e3 e4).binds hB, S, h0, isVis_vis hv, okName_1 ha, okName_2 ha, fun X h1 h2 => by
    have z := giv X h1 h2
    rw [h1, h2] at z
    exact z⟩
/-- a table of a def that makes lambdas -/
theorem tab_in {K : PySem.W.Frag} {x : Str} {f c Pt : Addr} {oc oc2 : Value} {od od2 : Option Addr} {fd : FuncData} {osl osl2 : Array (Option Value)} {vs : Array Value}
    (e1 : PySem.W.nsIn K mainGlobals x = some (some (.ref f))) (e2 : K.lookup f = some ⟨oc, od, .func fd, osl⟩) (e3 : fd.code = .ref c) (e4 : K.lookup c = some ⟨oc2, od2, .fields vs, osl2⟩) (e5 : (vs[11]? : Option Value) = some (.ref Pt)) : PySem.W.tabIn K x = some (c, Pt) := by
  unfold PySem.W.tabIn
  rw [e1]
  dsimp only
  rw [e2]
  dsimp only
  rw [e3]
  dsimp only
  rw [e4]
  dsimp only
  rw [e5]
/-- the scope of the comprehension in the def that tells the refusal -/
def refComp (st : Stmt) : Scope := match defBody st with
  | [.Try _ [.ExceptHandler _ _ [_, .Assign _ (.ListComp _ _ s _) _, _, _] _] _ _ _, _] => s
  | _ => defScope st
theorem refScope_mk {a e sm nm n1 n2 : Str} {sg scope : Scope} {own : List (Str × Nat)} (nd : [a, e, sm, nm, n1, n2].Nodup) (lo : ∀ s ∈ [a, e, sm, nm], sg.names.lookup s = some .local)
    (gl : ∀ s ∈ ((["isinstance", "len", "FloorError", "ValueError"] : List Str) ++ refNames), sg.names.lookup s = some .globalImplicit) (blk : blkC [a, e, sm, nm, n1, n2] sg scope own = true)
    (o4 : 4 ∈ own.map (·.2)) (o5 : 5 ∈ own.map (·.2)) (o3 : 3 ∉ own.map (·.2)) (co : ∀ s ∈ [n1, n2], scope.names.lookup s = some .local)
    (sw : (scope.names.any fun (n, k) => n == nm && (k == .local || k == .cell)) = false) (kind : sg.kind = .function) (dn : ∀ s ∈ [a, e, sm, nm, n1, n2], (s == ("__debug__" : Str)) = false ∧ (s == ("__classdict__" : Str)) = false) :
    RefScope a e sm nm n1 n2 sg scope own :=
  ⟨nd, lo _ (by simp), lo _ (by simp), lo _ (by simp), lo _ (by simp), fun s h => gl s (by
    rcases h with rfl | rfl | rfl | rfl | h
    · simp
    · simp
    · simp
    · simp
    · exact List.mem_append_right _ h), blk, o4, o5, o3, co _ (by simp), co _ (by simp), sw, kind, fun s h => dn s (by rcases h with rfl | rfl | rfl | rfl | rfl | rfl <;> simp)⟩
/-- where no def makes lambdas -/
instance noTables : Tbs := ⟨[], []⟩

end CPT
/-! ## Reasoning about evaluation -/
section
variable (M : Mem) (b : Nat) (i j : Int) (p q : Bool) (xs ys : List D) (x y z : D) (ρ : Env)
theorem bindP_name (k : Nat) : bindP (.name k) x ρ = some (ρ.set k (some x)) := by simp only [bindP]
theorem bindP_tup (ps : List Pat) : bindP (.tup ps) (.tup xs) ρ = bindPs ps xs ρ := by simp only [bindP]
theorem bindP_lst (ps : List Pat) : bindP (.tup ps) (.lst xs) ρ = bindPs ps xs ρ := by simp only [bindP]
theorem bindPs_nil : bindPs [] [] ρ = some ρ := by simp only [bindPs]
theorem bindPs_cons (pt : Pat) (ps : List Pat) : bindPs (pt :: ps) (x :: xs) ρ = (bindP pt x ρ).bind fun ρ' => bindPs ps xs ρ' := by
  simp only [bindPs]
  cases bindP pt x ρ <;> rfl
theorem ap1_1 (f : D → Mem → Res D) : ap1 f [x] M = f x M := rfl
theorem ap2_2 (f : D → D → Mem → Res D) : ap2 f [x, y] M = f x y M := rfl
theorem pr_add : primE b .add xs M = ap2 addE xs M := rfl
theorem pr_newd : primE b .newd [] M = .ok (.ref M.length) (M ++ [.dct []]) := rfl
theorem pr_sub : primE b .sub xs M = ap2 (intOp fun i j => .int (i - j)) xs M := rfl
theorem pr_mul : primE b .mul xs M = ap2 mulE xs M := rfl
theorem pr_fdiv : primE b .fdiv xs M = ap2 divE xs M := rfl
theorem pr_mod : primE b .mod xs M = ap2 modE xs M := rfl
theorem pr_pow : primE b .pow xs M = ap2 powE xs M := rfl
theorem pr_neg : primE b .neg xs M = ap1 negE xs M := rfl
theorem pr_notb : primE b .notb xs M = ap1 notE xs M := rfl
theorem pr_eq : primE b .eq xs M = ap2 (fun x y M => okB (eqE M x y) M) xs M := rfl
theorem pr_ne : primE b .ne xs M = ap2 (fun x y M => okB ((eqE M x y).map (!·)) M) xs M := rfl
theorem pr_lt : primE b .lt xs M = ap2 (intOp fun i j => .bl (decide (i < j))) xs M := rfl
theorem pr_le : primE b .le xs M = ap2 (intOp fun i j => .bl (decide (i ≤ j))) xs M := rfl
theorem pr_gt : primE b .gt xs M = ap2 (intOp fun i j => .bl (decide (j < i))) xs M := rfl
theorem pr_ge : primE b .ge xs M = ap2 (intOp fun i j => .bl (decide (j ≤ i))) xs M := rfl
theorem pr_isin : primE b .isin xs M = ap2 (fun x y M => okB (inE M x y) M) xs M := rfl
theorem pr_notin : primE b .notin xs M = ap2 (fun x y M => okB ((inE M x y).map (!·)) M) xs M := rfl
theorem pr_is : primE b .is xs M = ap2 (isE false) xs M := rfl
theorem pr_isnot : primE b .isnot xs M = ap2 (isE true) xs M := rfl
theorem pr_tup : primE b .tup xs M = tupE xs M := rfl
theorem pr_lst (m : Bool) : primE b (.lst m) xs M = mkL m xs M := rfl
theorem pr_idx : primE b .idx xs M = ap2 idxE xs M := rfl
theorem pr_len : primE b .len xs M = ap1 lenE xs M := rfl
theorem pr_abs : primE b .abs xs M = ap1 absE xs M := rfl
theorem pr_int1 : primE b .int1 xs M = ap1 int1E xs M := rfl
theorem pr_isi (t : Ty) : primE b (.isi t) xs M = ap1 (fun x M => okB (isiE M t x) M) xs M := rfl
theorem pr_all : primE b .all xs M = ap1 allE xs M := rfl
theorem pr_any : primE b .any xs M = ap1 anyE xs M := rfl
theorem pr_min2 : primE b .min2 xs M = ap2 (intOp fun i j => .int (if j < i then j else i)) xs M := rfl
theorem pr_max2 : primE b .max2 xs M = ap2 (intOp fun i j => .int (if j > i then j else i)) xs M := rfl
theorem pr_sum : primE b .sum xs M = ap1 sumE xs M := rfl
theorem pr_tuple1 : primE b .tuple1 xs M = ap1 tuple1E xs M := rfl
theorem pr_list1 (m : Bool) : primE b (.list1 m) xs M = ap1 (list1E m) xs M := rfl
theorem pr_append : primE b .append xs M = ap2 (appendE b) xs M := rfl
theorem pr_extend : primE b .extend xs M = ap2 (extendE b) xs M := rfl
theorem pr_pop0 : primE b .pop0 xs M = ap1 (pop0E b) xs M := rfl
theorem pr_pop1 : primE b .pop1 xs M = ap2 (pop1E b) xs M := rfl
theorem pr_insert : primE b .insert xs M = ap3 (insertE b) xs M := rfl
theorem pr_rev (m : Bool) : primE b (.rev m) xs M = ap1 (revE m) xs M := rfl
theorem pr_max1 : primE b .max1 xs M = ap1 max1E xs M := rfl
theorem pr_min1 : primE b .min1 xs M = ap1 min1E xs M := rfl
theorem pr_lenset : primE b .lenset xs M = ap1 lensetE xs M := rfl
theorem pr_reverse : primE b .reverse xs M = ap1 (reverseE b) xs M := rfl
theorem ap3_3 (f : D → D → D → Mem → Res D) : ap3 f [x, y, z] M = f x y z M := rfl
theorem revE_tup : revE false (.tup xs) M = .ok (.tup xs.reverse) M := rfl
theorem revE_lst : revE false (.lst xs) M = mkL false xs.reverse M := rfl
theorem pr_slc00 (m : Bool) : primE b (.slc false false m) xs M = ap1 (fun o M => slcE m o none none M) xs M := rfl
theorem pr_slc10 (m : Bool) : primE b (.slc true false m) xs M = ap2 (fun o i M => match part i with
    | some i => slcE m o (some i) none M
    | none => .stuck) xs M := rfl
theorem pr_slc01 (m : Bool) : primE b (.slc false true m) xs M = ap2 (fun o i M => match part i with
    | some i => slcE m o none (some i) M
    | none => .stuck) xs M := rfl
theorem part_int' : part (.int i) = some i := rfl
theorem slcE_tup (m : Bool) (lo hi : Option Int) : slcE m (.tup xs) lo hi M = .ok (.tup (cutD xs lo hi)) M := rfl
theorem slcE_lst (lo hi : Option Int) : slcE false (.lst xs) lo hi M = mkL false (cutD xs lo hi) M := rfl
theorem addE_int : addE (.int i) (.int j) M = .ok (.int (i + j)) M := rfl
theorem addE_tup (h : xs.length + ys.length ≤ lim) : addE (.tup xs) (.tup ys) M = .ok (.tup (xs ++ ys)) M := by unfold addE; dsimp only; rw [if_pos h]
theorem addE_lst (h : xs.length + ys.length ≤ lim) : addE (.lst xs) (.lst ys) M = .ok (.lst (xs ++ ys)) M := by unfold addE; dsimp only [look]; rw [if_pos h]
theorem intOp_int (f : Int → Int → D) : intOp f (.int i) (.int j) M = .ok (f i j) M := rfl
theorem mulE_int (h : mulOk i j = true) : mulE (.int i) (.int j) M = .ok (.int (i * j)) M := by unfold mulE; dsimp only; rw [if_pos h]
theorem divE_int (h : j ≠ 0) (h2 : Builtin.divisionGoesByPylong i j = false) : divE (.int i) (.int j) M = .ok (.int (i.fdiv j)) M := by unfold divE; dsimp only; rw [if_pos ⟨h, h2⟩]
theorem modE_int (h : j ≠ 0) : modE (.int i) (.int j) M = .ok (.int (i.fmod j)) M := by unfold modE; dsimp only; rw [if_pos h]
theorem negE_int : negE (.int i) M = .ok (.int (-i)) M := rfl
theorem notE_bl : notE (.bl p) M = .ok (.bl (!p)) M := rfl
theorem absE_int : absE (.int i) M = .ok (.int i.natAbs) M := by
  unfold absE
  have : (if i < 0 then -i else i) = (i.natAbs : Int) := by split <;> omega
  dsimp only
  rw [this]
theorem int1E_bl : int1E (.bl p) M = .ok (.int (if p then 1 else 0)) M := rfl
theorem int1E_int : int1E (.int i) M = .ok (.int i) M := rfl
theorem isE_bl (n : Bool) : isE n (.bl p) (.bl q) M = .ok (.bl (if n then !(p == q) else (p == q))) M := rfl
theorem tupE_ok (h : xs.length ≤ 1000) : tupE xs M = .ok (.tup xs) M := by unfold tupE; rw [if_pos (Nat.le_trans h (by decide))]
theorem mkL_ok (h : xs.length ≤ 1000) : mkL false xs M = .ok (.lst xs) M := by unfold mkL; rw [if_pos (Nat.le_trans h (by decide))]; rfl
theorem mkL_cell (h : xs.length ≤ 1000) : mkL true xs M = .ok (.ref M.length) (M ++ [.lst xs]) := by unfold mkL; rw [if_pos (Nat.le_trans h (by decide))]; rfl
theorem okB_some : okB (some p) M = .ok (.bl p) M := rfl
theorem lenE_tup : lenE (.tup xs) M = .ok (.int xs.length) M := rfl
theorem lenE_lst : lenE (.lst xs) M = .ok (.int xs.length) M := rfl
theorem lenE_fix : lenE (.fix xs) M = .ok (.int xs.length) M := rfl
theorem idxE_tup (h : atI xs i = some x) : idxE (.tup xs) (.int i) M = .ok x M := by unfold idxE idxO; simp only [items, h]
theorem refE_ok {d : D} {M : Mem} : refE (.ok d M) = .ok .non M := rfl
theorem refE_NoRoot {M : Mem} : refE (.exc "NoRoot" M) = .ok (.str "NoRoot") M := rfl
theorem refE_NoNumber {M : Mem} : refE (.exc "NoNumber" M) = .ok (.str "NoNumber") M := rfl
theorem refE_NoLaying {M : Mem} : refE (.exc "NoLaying" M) = .ok (.str "NoLaying") M := rfl
theorem refE_NoTile {M : Mem} : refE (.exc "NoTile" M) = .ok (.str "NoTile") M := rfl
theorem refE_NoFit {M : Mem} : refE (.exc "NoFit" M) = .ok (.str "NoFit") M := rfl
theorem refE_NoKinds {M : Mem} : refE (.exc "NoKinds" M) = .ok (.str "NoKinds") M := rfl
theorem refE_NoPlan {M : Mem} : refE (.exc "NoPlan" M) = .ok (.str "NoPlan") M := rfl
theorem refE_NoSpot {M : Mem} : refE (.exc "NoSpot" M) = .ok (.str "NoSpot") M := rfl
theorem refE_NoNet {M : Mem} : refE (.exc "NoNet" M) = .ok (.str "NoNet") M := rfl
theorem refE_NoText {M : Mem} : refE (.exc "NoText" M) = .ok (.str "NoText") M := rfl
theorem refE_NoSaying {M : Mem} : refE (.exc "NoSaying" M) = .ok (.str "NoSaying") M := rfl
theorem refE_NoName {M : Mem} : refE (.exc "NoName" M) = .ok (.str "NoName") M := rfl
theorem refE_TooMany {M : Mem} : refE (.exc "TooMany" M) = .ok (.str "TooMany") M := rfl
theorem idxE_lst (h : atI xs i = some x) : idxE (.lst xs) (.int i) M = .ok x M := by unfold idxE idxO; simp only [items, look, h]
theorem idxE_fix (h : atI xs i = some x) : idxE (.fix xs) (.int i) M = .ok x M := by unfold idxE idxO; simp only [items, h]
theorem idxE_ref {n : Nat} (hm : M[n]? = some (.lst xs)) (h : atI xs i = some x) : idxE (.ref n) (.int i) M = .ok x M := by unfold idxE idxO; simp only [items, look, hm, h]
/-! places by small numbers -/
theorem idx0 : idxE (.tup (x :: xs)) (.int 0) M = .ok x M := by
  refine idxE_tup _ _ _ _ ?_
  exact atI_nat (j := 0) rfl
theorem idx1 : idxE (.tup (x :: y :: xs)) (.int 1) M = .ok y M := by
  refine idxE_tup _ _ _ _ ?_
  exact atI_nat (j := 1) rfl
theorem idx2 : idxE (.tup (x :: y :: z :: xs)) (.int 2) M = .ok z M := by
  refine idxE_tup _ _ _ _ ?_
  exact atI_nat (j := 2) rfl
theorem idx3 (w : D) : idxE (.tup (x :: y :: z :: w :: xs)) (.int 3) M = .ok w M := by
  refine idxE_tup _ _ _ _ ?_
  exact atI_nat (j := 3) rfl
theorem idxl0 : idxE (.lst (x :: xs)) (.int 0) M = .ok x M := by
  refine idxE_lst _ _ _ _ ?_
  exact atI_nat (j := 0) rfl
theorem idxl1 : idxE (.lst (x :: y :: xs)) (.int 1) M = .ok y M := by
  refine idxE_lst _ _ _ _ ?_
  exact atI_nat (j := 1) rfl
theorem ite_bl {A : Type} (f g : A) : (match D.bl p with | .bl true => f | .bl false => g | _ => g) = if p = true then f else g := by cases p <;> rfl
end
/-! the evaluator's equations, each in full application -/
def varK (o : Option (Option D)) (M : Mem) : Res D := match o with
  | some (some d) => .ok d M
  | _ => .stuck
theorem varK_ok (x : D) (M : Mem) : varK (some (some x)) M = .ok x M := rfl
/-- by a truth value -/
def condK {A : Type} (x : D) (r s : Res A) : Res A := match x with
  | .bl true => r
  | .bl false => s
  | _ => .stuck
section
variable {A : Type} (r s : Res A) (p : Bool) (cf : Nat → List D → Mem → Res D) (b : Nat) (ρ : Env) (M : Mem) (x y z : D) (ds : List D)
theorem condK_t : condK (.bl true) r s = r := rfl
theorem condK_f : condK (.bl false) r s = s := rfl
theorem condK_if : condK (.bl p) r s = if p = true then r else s := by cases p <;> rfl
theorem condK_and (q : Bool) : condK (.bl p) (.ok (D.bl q) M) (.ok (D.bl false) M) = .ok (.bl (p && q)) M := by cases p <;> rfl
theorem condK_or (q : Bool) : condK (.bl p) (.ok (D.bl true) M) (.ok (D.bl q) M) = .ok (.bl (p || q)) M := by cases p <;> rfl
theorem condK_int (i j : Int) : condK (.bl p) (.ok (D.int i) M) (.ok (D.int j) M) = .ok (.int (if p = true then i else j)) M := by cases p <;> rfl
noncomputable def consK (cf : Nat → List D → Mem → Res D) (b : Nat) (r : Tms) (ρ : Env) (d : D) (M : Mem) : Res (List D) := (evEs cf b r ρ M).bind fun ds M2 => .ok (d :: ds) M2
def consK2 (d : D) (ds : List D) (M : Mem) : Res (List D) := .ok (d :: ds) M
noncomputable def andK (cf : Nat → List D → Mem → Res D) (b : Nat) (t : Tm) (ρ : Env) (x : D) (M : Mem) : Res D := condK x (evE cf b t ρ M) (.ok (.bl false) M)
noncomputable def orK (cf : Nat → List D → Mem → Res D) (b : Nat) (t : Tm) (ρ : Env) (x : D) (M : Mem) : Res D := condK x (.ok (.bl true) M) (evE cf b t ρ M)
noncomputable def iteK (cf : Nat → List D → Mem → Res D) (b : Nat) (s t : Tm) (ρ : Env) (x : D) (M : Mem) : Res D := condK x (evE cf b s ρ M) (evE cf b t ρ M)
noncomputable def methK (cf : Nat → List D → Mem → Res D) (b : Nat) (p : Prim) (ts : Tms) (ρ : Env) (d : D) (M : Mem) : Res D := if (look M d).isSome = true then (evEs cf b ts ρ M).bind fun ds M2 => primE b p (d :: ds) M2 else .stuck
noncomputable def methK2 (b : Nat) (p : Prim) (d : D) (ds : List D) (M : Mem) : Res D := primE b p (d :: ds) M
noncomputable def chainK1 (cf : Nat → List D → Mem → Res D) (b : Nat) (p q : Prim) (t u : Tm) (ρ : Env) (x : D) (M : Mem) : Res D := (evE cf b t ρ M).bind fun y M2 => (primE b p [x, y] M2).bind fun z M3 => match z with
    | .bl true => (evE cf b u ρ M3).bind fun v M4 => primE b q [y, v] M4
    | .bl false => .ok (.bl false) M3
    | _ => .stuck
noncomputable def chainK2 (cf : Nat → List D → Mem → Res D) (b : Nat) (p q : Prim) (u : Tm) (ρ : Env) (x y : D) (M : Mem) : Res D := (primE b p [x, y] M).bind fun z M3 => match z with
    | .bl true => (evE cf b u ρ M3).bind fun v M4 => primE b q [y, v] M4
    | .bl false => .ok (.bl false) M3
    | _ => .stuck
noncomputable def chainK3 (cf : Nat → List D → Mem → Res D) (b : Nat) (q : Prim) (u : Tm) (ρ : Env) (y z : D) (M : Mem) : Res D := condK z ((evE cf b u ρ M).bind fun v M4 => primE b q [y, v] M4) (.ok (.bl false) M)
noncomputable def chainK4 (b : Nat) (q : Prim) (y v : D) (M : Mem) : Res D := primE b q [y, v] M
noncomputable def compK (cf : Nat → List D → Mem → Res D) (b : Nat) (m : Bool) (own : List Nat) (pt : Pat) (k : Src) (cond : Tms) (elt : Tm) (ρ : Env) (ds : List D) (M : Mem) : Res D := match srcE k ds M with
    | some (its, g) => if its.length ≤ lim then (compL g (cStep cf b pt own cond elt ρ) its M).nox.bind fun vs M5 => mkL m vs M5 else .stuck
    | none => .stuck
theorem ev_var (i : Nat) : evE cf b (.var i) ρ M = varK (ρ[i]?) M := by simp only [evE]; rfl
theorem ev_con : evE cf b (.con x) ρ M = .ok x M := by simp only [evE]
theorem ev_prim (p : Prim) (ts : Tms) : evE cf b (.prim p ts) ρ M = (evEs cf b ts ρ M).bind (primE b p) := by simp only [evE]
theorem ev_meth (p : Prim) (o : Tm) (ts : Tms) : evE cf b (.meth p o ts) ρ M = (evE cf b o ρ M).bind (methK cf b p ts ρ) := by simp only [evE]; rfl
theorem methK_ok (p : Prim) (ts : Tms) (h : (look M x).isSome = true) : methK cf b p ts ρ x M = (evEs cf b ts ρ M).bind (methK2 b p x) := by unfold methK; rw [if_pos h]; rfl
theorem methK2_eq (p : Prim) : methK2 b p x ds M = primE b p (x :: ds) M := rfl
theorem ev_call (f : Nat) (ts : Tms) : evE cf b (.call f ts) ρ M = (evEs cf b ts ρ M).bind (cf f) := by simp only [evE]
theorem ev_and (s t : Tm) : evE cf b (.and s t) ρ M = (evE cf b s ρ M).bind (andK cf b t ρ) := by
  simp only [evE]
  rfl
theorem andK_eq (t : Tm) : andK cf b t ρ x M = condK x (evE cf b t ρ M) (.ok (.bl false) M) := rfl
theorem ev_or (s t : Tm) : evE cf b (.or s t) ρ M = (evE cf b s ρ M).bind (orK cf b t ρ) := by
  simp only [evE]
  rfl
theorem orK_eq (t : Tm) : orK cf b t ρ x M = condK x (.ok (.bl true) M) (evE cf b t ρ M) := rfl
theorem ev_ite (c s t : Tm) : evE cf b (.ite c s t) ρ M = (evE cf b c ρ M).bind (iteK cf b s t ρ) := by
  simp only [evE]
  rfl
theorem iteK_t (s t : Tm) : iteK cf b s t ρ (.bl true) M = evE cf b s ρ M := rfl
theorem iteK_f (s t : Tm) : iteK cf b s t ρ (.bl false) M = evE cf b t ρ M := rfl
theorem iteK_eq (s t : Tm) : iteK cf b s t ρ x M = condK x (evE cf b s ρ M) (evE cf b t ρ M) := rfl
theorem ev_refus (t : Tm) : evE cf b (.refus t) ρ M = refE (evE cf b t ρ M) := by simp only [evE]
theorem ev_chain (p q : Prim) (s t u : Tm) : evE cf b (.chain p q s t u) ρ M = (evE cf b s ρ M).bind (chainK1 cf b p q t u ρ) := by simp only [evE]; rfl
theorem chainK1_eq (p q : Prim) (t u : Tm) : chainK1 cf b p q t u ρ x M = (evE cf b t ρ M).bind (chainK2 cf b p q u ρ x) := rfl
theorem chainK2_eq (p q : Prim) (u : Tm) : chainK2 cf b p q u ρ x y M = (primE b p [x, y] M).bind (chainK3 cf b q u ρ y) := by
  rfl
theorem chainK3_eq (q : Prim) (u : Tm) : chainK3 cf b q u ρ y z M = condK z ((evE cf b u ρ M).bind (chainK4 b q y)) (.ok (.bl false) M) := rfl
theorem chainK4_eq (q : Prim) : chainK4 b q y z M = primE b q [y, z] M := rfl
theorem ev_comp (m : Bool) (own : List Nat) (pt : Pat) (k : Src) (ts : Tms) (cond : Tms) (elt : Tm) : evE cf b (.comp m own pt k ts cond elt) ρ M = (evEs cf b ts ρ M).bind (compK cf b m own pt k cond elt ρ) := by
  simp only [evE]; rfl
theorem evs_nil : evEs cf b .nil ρ M = .ok [] M := by simp only [evEs]
theorem evs_cons (t : Tm) (r : Tms) : evEs cf b (.cons t r) ρ M = (evE cf b t ρ M).bind (consK cf b r ρ) := by simp only [evEs]; rfl
theorem consK_eq (r : Tms) : consK cf b r ρ x M = (evEs cf b r ρ M).bind (consK2 x) := rfl
theorem consK2_eq : consK2 x ds M = .ok (x :: ds) M := rfl
/-! statements -/
def asgK (p : Pat) (ρ : Env) (d : D) (M : Mem) : Res Flow := match bindP p d ρ with
  | some ρ' => .ok (.next ρ') M
  | none => .stuck
def asgO (o : Option Env) (M : Mem) : Res Flow := match o with
  | some ρ' => .ok (.next ρ') M
  | none => .stuck
noncomputable def seqK (cf : Nat → List D → Mem → Res D) (b : Nat) (r : Sms) (f : Flow) (M : Mem) : Res Flow := match f with
  | .next ρ' => evSs cf b r ρ' M
  | .ret v => .ok (.ret v) M
noncomputable def setK1 (cf : Nat → List D → Mem → Res D) (b : Nat) (o i : Tm) (ρ : Env) (d : D) (M : Mem) : Res Flow := (evE cf b o ρ M).bind fun ov M2 => (evE cf b i ρ M2).bind fun iv M3 => (setE b ov iv d M3).bind fun _ M4 => .ok (.next ρ) M4
noncomputable def setK2 (cf : Nat → List D → Mem → Res D) (b : Nat) (i : Tm) (ρ : Env) (d ov : D) (M : Mem) : Res Flow := (evE cf b i ρ M).bind fun iv M3 => (setE b ov iv d M3).bind fun _ M4 => .ok (.next ρ) M4
def setK3 (b : Nat) (ρ : Env) (d ov iv : D) (M : Mem) : Res Flow := (setE b ov iv d M).bind fun _ M4 => .ok (.next ρ) M4
def setK4 (ρ : Env) (u : Unit) (M : Mem) : Res Flow := .ok (.next ρ) M
def exprK (ρ : Env) (d : D) (M : Mem) : Res Flow := .ok (.next ρ) M
def retK (d : D) (M : Mem) : Res Flow := .ok (.ret d) M
noncomputable def iteSK (cf : Nat → List D → Mem → Res D) (b : Nat) (s t : Sms) (ρ : Env) (x : D) (M : Mem) : Res Flow := condK x (evSs cf b s ρ M) (evSs cf b t ρ M)
noncomputable def fStep (cf : Nat → List D → Mem → Res D) (b : Nat) (p : Pat) (a : Sms) (d : D) (ρ : Env) (M : Mem) : Res Flow := match bindP p d ρ with
      | some ρ' => evSs cf b a ρ' M
      | none => .stuck
noncomputable def forK (cf : Nat → List D → Mem → Res D) (b : Nat) (p : Pat) (k : Src) (a : Sms) (ρ : Env) (ds : List D) (M : Mem) : Res Flow := match srcE k ds M with
    | some (its, g) => forL g (fStep cf b p a) its ρ M
    | none => .stuck
theorem st_asg (p : Pat) (t : Tm) : evS cf b (.asg p t) ρ M = (evE cf b t ρ M).bind (asgK p ρ) := by simp only [evS]; rfl
theorem asgK_eq (p : Pat) : asgK p ρ x M = asgO (bindP p x ρ) M := by
  unfold asgK asgO; rfl
theorem asgO_some (ρ' : Env) : asgO (some ρ') M = .ok (.next ρ') M := rfl
theorem st_setI (o i t : Tm) : evS cf b (.setI o i t) ρ M = (evE cf b t ρ M).bind (setK1 cf b o i ρ) := by simp only [evS]; rfl
theorem setK1_eq (o i : Tm) : setK1 cf b o i ρ x M = (evE cf b o ρ M).bind (setK2 cf b i ρ x) := rfl
theorem setK2_eq (i : Tm) : setK2 cf b i ρ x y M = (evE cf b i ρ M).bind (setK3 b ρ x y) := rfl
theorem setK3_eq : setK3 b ρ x y z M = (setE b y z x M).bind (setK4 ρ) := rfl
theorem setK4_eq (u : Unit) : setK4 ρ u M = .ok (.next ρ) M := rfl
theorem st_expr (t : Tm) : evS cf b (.expr t) ρ M = (evE cf b t ρ M).bind (exprK ρ) := by simp only [evS]; rfl
theorem exprK_eq : exprK ρ x M = .ok (.next ρ) M := rfl
theorem st_ite (c : Tm) (s t : Sms) : evS cf b (.ite c s t) ρ M = (evE cf b c ρ M).bind (iteSK cf b s t ρ) := by
  simp only [evS]
  rfl
theorem iteSK_t (s t : Sms) : iteSK cf b s t ρ (.bl true) M = evSs cf b s ρ M := rfl
theorem iteSK_f (s t : Sms) : iteSK cf b s t ρ (.bl false) M = evSs cf b t ρ M := rfl
theorem iteSK_eq (s t : Sms) : iteSK cf b s t ρ x M = condK x (evSs cf b s ρ M) (evSs cf b t ρ M) := rfl
theorem st_whil (c : Tm) (a : Sms) : evS cf b (.whil c a) ρ M = whileE (evE cf b c) (evSs cf b a) ρ M := by simp only [evS]
theorem st_for (p : Pat) (k : Src) (ts : Tms) (a : Sms) : evS cf b (.for_ p k ts a) ρ M = (evEs cf b ts ρ M).bind (forK cf b p k a ρ) := by simp only [evS]; rfl
theorem fStep_name (i : Nat) (a : Sms) : fStep cf b (.name i) a x ρ M = evSs cf b a (ρ.set i (some x)) M := by
  unfold fStep; rw [bindP_name]
theorem fStep_eq (p : Pat) (a : Sms) (ρ' : Env) (h : bindP p x ρ = some ρ') : fStep cf b p a x ρ M = evSs cf b a ρ' M := by
  unfold fStep; rw [h]
theorem st_ret (t : Tm) : evS cf b (.ret t) ρ M = (evE cf b t ρ M).bind retK := by simp only [evS]; rfl
theorem retK_eq : retK x M = .ok (.ret x) M := rfl
theorem st_retN : evS cf b .retN ρ M = .ok (.ret .non) M := by simp only [evS]
theorem st_raise (c : Str) : evS cf b (.raise c) ρ M = .exc c M := by simp only [evS]
theorem st_pass : evS cf b .pass ρ M = .ok (.next ρ) M := by simp only [evS]
theorem st_wipe (i : Nat) : evS cf b (.wipe i) ρ M = .ok (.next (ρ.set i none)) M := by simp only [evS]
theorem ss_nil : evSs cf b .nil ρ M = .ok (.next ρ) M := by simp only [evSs]
theorem ss_cons (s : Sm) (r : Sms) : evSs cf b (.cons s r) ρ M = (evS cf b s ρ M).bind (seqK cf b r) := by
  simp only [evSs]
  rfl
theorem seqK_next (r : Sms) (ρ' : Env) : seqK cf b r (.next ρ') M = evSs cf b r ρ' M := rfl
theorem seqK_ret (r : Sms) : seqK cf b r (.ret x) M = .ok (.ret x) M := rfl
theorem fin_ret (k : Bool) : fin k b (.ok (.ret x) M) = leave k b x M := rfl
theorem fin_next (k : Bool) : fin k b (.ok (.next ρ) M) = .ok .non (M.take b) := rfl
theorem fin_exc (k : Bool) (c : Str) : fin k b (.exc c M) = .exc c (M.take b) := rfl
/-! sources -/
theorem compK_eq (m : Bool) (own : List Nat) (pt : Pat) (k : Src) (cond : Tms) (elt : Tm) (its : List D) (g : List Grd) (h : srcE k ds M = some (its, g)) (hl : its.length ≤ lim) : compK cf b m own pt k cond elt ρ ds M = (compL g (cStep cf b pt own cond elt ρ) its M).nox.bind (mkL m) := by
  unfold compK; rw [h]; dsimp only; rw [if_pos hl]
theorem forK_eq (p : Pat) (k : Src) (a : Sms) (its : List D) (g : List Grd) (h : srcE k ds M = some (its, g)) : forK cf b p k a ρ ds M = forL g (fStep cf b p a) its ρ M := by
  unfold forK; rw [h]
theorem src_tup (xs : List D) : srcE .seq [.tup xs] M = some (xs, [none]) := rfl
theorem src_lst (xs : List D) : srcE .seq [.lst xs] M = some (xs, [none]) := rfl
theorem src_fix (xs : List D) : srcE .seq [.fix xs] M = some (xs, [none]) := rfl
theorem src_ref (n : Nat) (xs : List D) (h : M[n]? = some (.lst xs)) : srcE .seq [.ref n] M = some (xs, [some (n, .lst xs)]) := by
  unfold srcE seqE oneE; simp only [h]; rfl
theorem src_en (xs : List D) : srcE .enum [.lst xs] M = some (enumL 0 xs, [none]) := rfl
theorem src_ent (xs : List D) : srcE .enum [.tup xs] M = some (enumL 0 xs, [none]) := rfl
theorem src_zip (xs ys : List D) : srcE .zip2 [.lst xs, .lst ys] M = some (zipL xs ys, [none, none]) := rfl
theorem src_zipt (xs ys : List D) : srcE .zip2 [.tup xs, .tup ys] M = some (zipL xs ys, [none, none]) := rfl
theorem src_ziptl (xs ys : List D) : srcE .zip2 [.tup xs, .lst ys] M = some (zipL xs ys, [none, none]) := rfl
theorem src_ziplt (xs ys : List D) : srcE .zip2 [.lst xs, .tup ys] M = some (zipL xs ys, [none, none]) := rfl
def rangeD (a n : Int) : List D := (List.range (n - a).toNat).map (fun (i : Nat) => D.int (a + (i : Int)))
theorem src_range1 (n : Int) (h : small n = true) : srcE .range1 [.int n] M = some (rangeD 0 n, []) := by
  unfold srcE rangeD; dsimp only; rw [if_pos h]; simp only [Int.sub_zero, Int.zero_add]
theorem src_range2 (a n : Int) (h : small a = true) (h2 : small n = true) : srcE .range2 [.int a, .int n] M = some (rangeD a n, []) := by
  unfold srcE rangeD; dsimp only; rw [if_pos ⟨h, h2⟩]
end
theorem whileN_mono {c : Env → Mem → Res D} {a : Env → Mem → Res Flow} : ∀ (k : Nat) (ρ : Env) (M : Mem), whileN c a k ρ M ≠ .stuck → whileN c a (k + 1) ρ M = whileN c a k ρ M
  | 0, ρ, M, h => absurd rfl h
  | k + 1, ρ, M, h => by
    rw [whileN]
    rw [whileN] at h
    conv => rhs; rw [whileN]
    cases hc : c ρ M with
    | stuck => rfl
    | exc e M1 => rfl
    | ok x M1 =>
      rw [hc] at h
      simp only [Res.bind_ok] at h ⊢
      cases x with
      | bl b =>
        cases b with
        | false => rfl
        | true =>
          simp only at h ⊢
          cases ha : a ρ M1 with
          | stuck => rfl
          | exc e M2 => rfl
          | ok f M2 =>
            rw [ha] at h
            simp only [Res.bind_ok] at h ⊢
            cases f with
            | ret v => rfl
            | next ρ' => exact whileN_mono k ρ' M2 h
      | _ => rfl
theorem whileN_le {c : Env → Mem → Res D} {a : Env → Mem → Res Flow} {k : Nat} {ρ : Env} {M : Mem} (h : whileN c a k ρ M ≠ .stuck) : ∀ j, whileN c a (k + j) ρ M = whileN c a k ρ M
  | 0 => rfl
  | j + 1 => by
    have ih := whileN_le h j
    rw [← Nat.add_assoc, whileN_mono _ _ _ (by rw [ih]; exact h), ih]
theorem whileE_eq {c : Env → Mem → Res D} {a : Env → Mem → Res Flow} {k : Nat} {ρ : Env} {M : Mem} {r : Res Flow} (h : whileN c a k ρ M = r) (hr : r ≠ .stuck) : whileE c a ρ M = r := by
  have hk : ∃ k, whileN c a k ρ M ≠ .stuck := ⟨k, by rw [h]; exact hr⟩
  unfold whileE
  rw [dif_pos hk]
  have h1 := Classical.choose_spec hk
  rcases Nat.le_total k (Classical.choose hk) with hl | hl
  · obtain ⟨j, e⟩ := Nat.exists_eq_add_of_le hl
    rw [e, whileN_le (by rw [h]; exact hr), h]
  · obtain ⟨j, e⟩ := Nat.exists_eq_add_of_le hl
    rw [← h]
    conv => rhs; rw [e]
    rw [whileN_le h1]
theorem whileE_ex {c : Env → Mem → Res D} {a : Env → Mem → Res Flow} {ρ : Env} {M : Mem} {r : Res Flow} (h : whileE c a ρ M = r) (hr : r ≠ .stuck) : ∃ k, whileN c a k ρ M = r := by
  unfold whileE at h
  split at h
  · exact ⟨_, h⟩
  · exact absurd h.symm hr
/-- a turn of a while -/
theorem whileE_step {c : Env → Mem → Res D} {a : Env → Mem → Res Flow} {ρ ρ' : Env} {M M1 M2 : Mem} {r : Res Flow} (hc : c ρ M = .ok (.bl true) M1) (ha : a ρ M1 = .ok (.next ρ') M2) (h : whileE c a ρ' M2 = r) (hr : r ≠ .stuck) : whileE c a ρ M = r := by
  obtain ⟨k, hk⟩ := whileE_ex h hr
  refine whileE_eq (k := k + 1) ?_ hr
  rw [whileN, hc]
  simp only [Res.bind_ok, ha, hk]
/-- its end -/
theorem whileE_done {c : Env → Mem → Res D} {a : Env → Mem → Res Flow} {ρ : Env} {M M1 : Mem} (hc : c ρ M = .ok (.bl false) M1) : whileE c a ρ M = .ok (.next ρ) M1 := by
  refine whileE_eq (k := 1) ?_ (by intro h; cases h)
  rw [whileN, hc]
  simp only [Res.bind_ok]
theorem leave_bel {k : Bool} {b : Nat} {d : D} {M : Mem} (h : d.bel b = true) : leave k b d M = .ok d (M.take b) := by
  unfold leave; rw [if_pos h]
theorem take_same (M : Mem) : M.take M.length = M := List.take_length
theorem take_len {M M' : Mem} (h : M'.length = M.length) : M'.take M.length = M' := by rw [← h]; exact List.take_length

/-! ## What a run has to end in -/
def Ok {A : Type} (r : Res A) (Q : A → Mem → Prop) : Prop := match r with
  | .ok a M => Q a M
  | _ => False
section
variable {A B : Type}
theorem Ok_ok (a : A) (M : Mem) (Q : A → Mem → Prop) : Ok (.ok a M) Q = Q a M := rfl
theorem Ok.mono {r : Res A} {P Q : A → Mem → Prop} (h : Ok r P) (i : ∀ a M, P a M → Q a M) : Ok r Q := by
  cases r with
  | ok a M => exact i a M h
  | stuck => exact h
  | exc c M => exact h
theorem Ok.bind {r : Res A} {f : A → Mem → Res B} {Q : B → Mem → Prop} (h : Ok r (fun a M => Ok (f a M) Q)) : Ok (r.bind f) Q := by
  cases r with
  | ok a M => exact h
  | stuck => exact h
  | exc c M => exact h
theorem Ok.nox {r : Res A} {Q : A → Mem → Prop} (h : Ok r Q) : Ok r.nox Q := by
  cases r with
  | ok a M => exact h
  | stuck => exact h
  | exc c M => exact h.elim
theorem Ok.fin {k : Bool} {b : Nat} {r : Res Flow} {Q : D → Mem → Prop} (h : Ok r (fun f M => Ok (fin k b (.ok f M)) Q)) : Ok (MF.fin k b r) Q := by
  cases r with
  | ok a M => exact h
  | stuck => exact h
  | exc c M => exact h.elim
theorem Ok.ex {r : Res A} {Q : A → Mem → Prop} (h : Ok r Q) : ∃ a M, r = .ok a M ∧ Q a M := by
  cases r with
  | ok a M => exact ⟨a, M, rfl, h⟩
  | stuck => exact h.elim
  | exc c M => exact h.elim
theorem Ok.of {r : Res A} {Q : A → Mem → Prop} {a : A} {M : Mem} (e : r = .ok a M) (h : Q a M) : Ok r Q := by rw [e]; exact h
/-- a loop over items -/
theorem ok_for {g : List Grd} {step : D → Env → Mem → Res Flow} {Q : Flow → Mem → Prop} (I : List D → Env → Mem → Prop)
    (hg : ∀ its ρ M, I its ρ M → ∀ x ∈ g, Grd.ok x M)
    (hs : ∀ d r ρ M, I (d :: r) ρ M → Ok (step d ρ M) (fun f M' => match f with
      | .next ρ' => I r ρ' M'
      | .ret v => Q (.ret v) M'))
    (he : ∀ ρ M, I [] ρ M → Q (.next ρ) M) : ∀ (its : List D) (ρ : Env) (M : Mem), I its ρ M → Ok (forL g step its ρ M) Q
  | [], ρ, M, h => by
    rw [forL, if_pos (hg _ _ _ h)]
    exact he _ _ h
  | d :: r, ρ, M, h => by
    rw [forL, if_pos (hg _ _ _ h)]
    refine Ok.bind ((hs d r ρ M h).mono fun f M' q => ?_)
    cases f with
    | next ρ' => exact ok_for I hg hs he r ρ' M' q
    | ret v => exact q
/-- a loop whose body only goes on, over items that all are P -/
theorem ok_forP {g : List Grd} {step : D → Env → Mem → Res Flow} {Q : Flow → Mem → Prop} (P : D → Prop) (I : Env → Mem → Prop)
    (hg : ∀ ρ M, I ρ M → ∀ x ∈ g, Grd.ok x M)
    (hs : ∀ d ρ M, P d → I ρ M → Ok (step d ρ M) (fun f M' => ∃ ρ', f = .next ρ' ∧ I ρ' M'))
    (he : ∀ ρ M, I ρ M → Q (.next ρ) M) {its : List D} {ρ : Env} {M : Mem} (hp : ∀ d ∈ its, P d) (h : I ρ M) : Ok (forL g step its ρ M) Q := by
  refine ok_for (fun its ρ M => (∀ d ∈ its, P d) ∧ I ρ M) (fun its ρ M h => hg ρ M h.2) (fun d r ρ M h => ?_) (fun ρ M h => he ρ M h.2) its ρ M ⟨hp, h⟩
  refine (hs d ρ M (h.1 d List.mem_cons_self) h.2).mono fun f M' q => ?_
  obtain ⟨ρ', rfl, q⟩ := q
  exact ⟨fun d hd => h.1 d (List.mem_cons_of_mem _ hd), q⟩
theorem grd_nil (M : Mem) : ∀ x ∈ ([] : List Grd), Grd.ok x M := fun x h => absurd h List.not_mem_nil
theorem grd_none (M : Mem) : ∀ x ∈ ([none] : List Grd), Grd.ok x M := fun x h => by
  obtain rfl := List.mem_singleton.mp h
  exact trivial
theorem grd_ref {M : Mem} {n : Nat} {xs : List D} (h : M[n]? = some (.lst xs)) : ∀ x ∈ ([some (n, .lst xs)] : List Grd), Grd.ok x M := fun x hx => by
  obtain rfl := List.mem_singleton.mp hx
  exact h
/-- a comprehension -/
inductive All2 (P : D → D → Prop) : List D → List D → Prop where
  | nil : All2 P [] []
  | cons {x y : D} {xs ys : List D} : P x y → All2 P xs ys → All2 P (x :: xs) (y :: ys)
theorem All2.length {P : D → D → Prop} {xs ys : List D} (h : All2 P xs ys) : ys.length = xs.length := by
  induction h with
  | nil => rfl
  | cons _ _ ih => simp only [List.length_cons, ih]
theorem All2.all {P : D → D → Prop} {R : D → Prop} {xs ys : List D} (h : All2 P xs ys) (i : ∀ x y, P x y → R y) : ∀ y ∈ ys, R y := by
  induction h with
  | nil => intro y hy; cases hy
  | cons p _ ih =>
    intro y hy
    rcases List.mem_cons.mp hy with rfl | hy
    · exact i _ _ p
    · exact ih y hy
theorem ok_comp {g : List Grd} {step : D → Mem → Res (Option D)} (P : D → D → Prop) (I : Mem → Prop)
    (hg : ∀ M, I M → ∀ x ∈ g, Grd.ok x M) : ∀ (its : List D) (M : Mem),
    (∀ d ∈ its, ∀ M, I M → Ok (step d M) (fun o M' => ∃ v, o = some v ∧ P d v ∧ I M')) → I M → Ok (compL g step its M) (fun vs M' => All2 P its vs ∧ I M')
  | [], M, hs, h => by
    rw [compL, if_pos (hg _ h)]
    exact ⟨.nil, h⟩
  | d :: r, M, hs, h => by
    rw [compL, if_pos (hg _ h)]
    refine Ok.bind ((hs d List.mem_cons_self M h).mono fun o M1 q => ?_)
    obtain ⟨v, rfl, p, h1⟩ := q
    refine Ok.bind ((ok_comp P I hg r M1 (fun d hd => hs d (List.mem_cons_of_mem _ hd)) h1).mono fun vs M2 q => ?_)
    exact ⟨.cons p q.1, q.2⟩
theorem comp_pure {g : List Grd} {step : D → Mem → Res (Option D)} {M : Mem} (f : D → Option D) (hg : ∀ x ∈ g, Grd.ok x M) : ∀ (its : List D), (∀ d ∈ its, step d M = .ok (f d) M) → compL g step its M = .ok (its.filterMap f) M
  | [], hs => by rw [compL, if_pos hg]; rfl
  | d :: r, hs => by
    rw [compL, if_pos hg, hs d List.mem_cons_self]
    simp only [Res.bind_ok]
    rw [comp_pure f hg r (fun d hd => hs d (List.mem_cons_of_mem _ hd))]
    simp only [Res.bind_ok, List.filterMap_cons]
    cases f d <;> rfl
theorem comp_map {g : List Grd} {step : D → Mem → Res (Option D)} {M : Mem} (f : D → D) (hg : ∀ x ∈ g, Grd.ok x M) (its : List D) (hs : ∀ d ∈ its, step d M = .ok (some (f d)) M) : compL g step its M = .ok (its.map f) M := by
  rw [comp_pure (fun d => some (f d)) hg its hs]
  simp
end
/-! a comprehension's turn -/
section
variable (cf : Nat → List D → Mem → Res D) (b : Nat) (pt : Pat) (own : List Nat) (cond elt : Tm) (ρ ρ' : Env) (x v : D) (M : Mem)
noncomputable def someK (v : D) (M : Mem) : Res (Option D) := .ok (some v) M
noncomputable def cndK (cf : Nat → List D → Mem → Res D) (b : Nat) (elt : Tm) (ρ : Env) (x : D) (M : Mem) : Res (Option D) := condK x ((evE cf b elt ρ M).bind someK) (.ok none M)
theorem cStep_nil (h : bindP pt x (wipeE ρ own) = some ρ') : cStep cf b pt own .nil elt ρ x M = (evE cf b elt ρ' M).bind someK := by
  unfold cStep
  rw [h]
  simp only [evEs, Res.bind_ok]
  rfl
theorem cStep_one (h : bindP pt x (wipeE ρ own) = some ρ') : cStep cf b pt own (.cons cond .nil) elt ρ x M = (evE cf b cond ρ' M).bind (cndK cf b elt ρ') := by
  unfold cStep
  rw [h]
  simp only [evEs]
  cases evE cf b cond ρ' M with
  | ok c M1 =>
    simp only [Res.bind_ok]
    unfold cndK condK
    split <;> first | rfl | skip
    all_goals (split <;> first | rfl | simp_all)
  | stuck => rfl
  | exc c M => rfl
theorem wipeE_nil : wipeE ρ [] = ρ := rfl
theorem wipeE_cons (v : Nat) : wipeE ρ (v :: own) = (wipeE ρ own).set v none := rfl
theorem cStep_nm (i : Nat) : cStep cf b (.name i) own .nil elt ρ x M = (evE cf b elt ((wipeE ρ own).set i (some x)) M).bind someK := cStep_nil _ _ _ _ _ _ _ _ _ (bindP_name _ _ _)
theorem cStep_nm1 (i : Nat) : cStep cf b (.name i) own (.cons cond .nil) elt ρ x M = (evE cf b cond ((wipeE ρ own).set i (some x)) M).bind (cndK cf b elt ((wipeE ρ own).set i (some x))) := cStep_one _ _ _ _ _ _ _ _ _ _ (bindP_name _ _ _)
theorem mem_rangeD {d : D} {a n : Int} (h : d ∈ rangeD a n) : ∃ i, d = .int i ∧ a ≤ i ∧ i < n := by
  obtain ⟨j, hj, rfl⟩ := List.mem_map.mp h
  have := List.mem_range.mp hj
  exact ⟨_, rfl, by omega, by omega⟩
theorem len_rangeD (a n : Int) : (rangeD a n).length = (n - a).toNat := by
  unfold rangeD
  rw [List.length_map, List.length_range]
theorem someK_eq : someK v M = .ok (some v) M := rfl
theorem cndK_t : cndK cf b elt ρ (.bl true) M = (evE cf b elt ρ M).bind someK := rfl
theorem cndK_f : cndK cf b elt ρ (.bl false) M = .ok none M := rfl
end
/-! reading and writing a cell -/
section
variable {M : Mem} {n : Nat} {xs : List D} {x y v : D}
theorem idxr0 (h : M[n]? = some (.lst (x :: xs))) : idxE (.ref n) (.int 0) M = .ok x M := idxE_ref _ _ _ _ h (atI_nat (j := 0) rfl)
theorem idxr1 (h : M[n]? = some (.lst (x :: y :: xs))) : idxE (.ref n) (.int 1) M = .ok y M := idxE_ref _ _ _ _ h (atI_nat (j := 1) rfl)
theorem setE_ref {b : Nat} {k : Int} {j : Nat} (h : M[n]? = some (.lst xs)) (hk : ixN xs.length k = some j) (hv : v.pure = true) (hl : Nat.ble xs.length 1000 = true) : setE b (.ref n) (.int k) v M = .ok () (M.set n (.lst (xs.set j v))) := by
  unfold setE
  simp only [h, hk]
  unfold putC
  have : pures [v] = true := by simp only [pures, hv, Bool.and_true]
  rw [this, if_neg (by simp), if_pos (by rw [List.length_set]; exact Nat.le_trans (Nat.le_of_ble_eq_true hl) (by decide))]
end
/-! ## The bag -/
def Bag (i : Nat) (M : Mem) : Prop := ∃ g x : Int, M[i]? = some (.lst [.int g, .int x]) ∧ 0 ≤ x ∧ x < 2147483647
structure BagSt (i : Nat) (M M' : Mem) : Prop where
  len : M'.length = M.length
  oth : ∀ j, j ≠ i → M'[j]? = M[j]?
  bag : Bag i M'
theorem BagSt.trans {i : Nat} {M M1 M2 : Mem} (a : BagSt i M M1) (b : BagSt i M1 M2) : BagSt i M M2 :=
  ⟨b.len.trans a.len, fun j h => (b.oth j h).trans (a.oth j h), b.bag⟩
theorem BagSt.refl {i : Nat} {M : Mem} (h : Bag i M) : BagSt i M M := ⟨rfl, fun _ _ => rfl, h⟩
theorem Bag.lt {i : Nat} {M : Mem} (h : Bag i M) : i < M.length := by
  obtain ⟨g, x, h, _⟩ := h
  exact (List.getElem?_eq_some_iff.mp h).1
theorem Bag.set {i : Nat} {M : Mem} (h : Bag i M) (g x : Int) (h0 : 0 ≤ x) (h1 : x < 2147483647) : BagSt i M (M.set i (.lst [.int g, .int x])) :=
  ⟨List.length_set, fun j hj => by rw [List.getElem?_set_ne (Ne.symm hj)], g, x, by rw [List.getElem?_set_self h.lt], h0, h1⟩
theorem BagSt.take {i : Nat} {M M' : Mem} (h : BagSt i M M') : M'.take M.length = M' := take_len h.len
/-- a while, by a measure -/
theorem ok_while {c : Env → Mem → Res D} {a : Env → Mem → Res Flow} {Q : Flow → Mem → Prop} (I : Nat → Env → Mem → Prop)
    (h : ∀ n ρ M, I n ρ M → Ok (c ρ M) (fun x M1 => (x = .bl true ∧ Ok (a ρ M1) (fun f M2 => match f with
      | .next ρ' => ∃ m, m < n ∧ I m ρ' M2
      | .ret v => Q (.ret v) M2)) ∨ (x = .bl false ∧ Q (.next ρ) M1))) (n : Nat) : ∀ (ρ : Env) (M : Mem), I n ρ M → Ok (whileE c a ρ M) Q := by
  induction n using Nat.strongRecOn with
  | _ n ih =>
    intro ρ M hI
    obtain ⟨x, M1, e1, q⟩ := (h n ρ M hI).ex
    rcases q with ⟨rfl, q⟩ | ⟨rfl, q⟩
    · obtain ⟨f, M2, e2, q⟩ := q.ex
      cases f with
      | next ρ' =>
        obtain ⟨m, hm, q⟩ := q
        obtain ⟨r, M3, e3, q⟩ := (ih m hm ρ' M2 q).ex
        rw [whileE_step e1 e2 e3 (by intro z; cases z)]
        exact q
      | ret v =>
        have : whileE c a ρ M = .ok (.ret v) M2 := by
          refine whileE_eq (k := 1) ?_ (by intro z; cases z)
          rw [whileN, e1]
          simp only [Res.bind_ok, e2]
        rw [this]
        exact q
    · rw [whileE_done e1]
      exact q
theorem comp_one {g : List Grd} {step : D → Mem → Res (Option D)} {M : Mem} {d v : D} {r vs : List D} (hg : ∀ x ∈ g, Grd.ok x M) (h1 : step d M = .ok (some v) M) (h2 : compL g step r M = .ok vs M) : compL g step (d :: r) M = .ok (v :: vs) M := by
  rw [compL, if_pos hg, h1]
  simp only [Res.bind_ok, h2]
  rfl
theorem comp_nil {g : List Grd} {step : D → Mem → Res (Option D)} {M : Mem} (hg : ∀ x ∈ g, Grd.ok x M) : compL g step [] M = .ok [] M := by
  rw [compL, if_pos hg]
theorem comp2 {g : List Grd} {step : D → Mem → Res (Option D)} {M : Mem} {a b x y : D} (hg : ∀ x ∈ g, Grd.ok x M) (h1 : step a M = .ok (some x) M) (h2 : step b M = .ok (some y) M) : compL g step [a, b] M = .ok [x, y] M := comp_one hg h1 (comp_one hg h2 (comp_nil hg))
theorem comp3 {g : List Grd} {step : D → Mem → Res (Option D)} {M : Mem} {a b c x y z : D} (hg : ∀ x ∈ g, Grd.ok x M) (h1 : step a M = .ok (some x) M) (h2 : step b M = .ok (some y) M) (h3 : step c M = .ok (some z) M) : compL g step [a, b, c] M = .ok [x, y, z] M := comp_one hg h1 (comp2 hg h2 h3)
/-! ## A frame that draws and has cells of its own -/
theorem Bag.app {i : Nat} {M N : Mem} (h : Bag i M) : Bag i (M ++ N) := by
  have hl := h.lt
  obtain ⟨g, x, e, h0, h1⟩ := h
  exact ⟨g, x, by rw [List.getElem?_append_left hl]; exact e, h0, h1⟩
structure BagG (i : Nat) (M M' : Mem) : Prop where
  len : M.length ≤ M'.length
  oth : ∀ j, j < M.length → j ≠ i → M'[j]? = M[j]?
  bag : Bag i M'
  inn : i < M.length
theorem BagG.refl {i : Nat} {M : Mem} (h : Bag i M) : BagG i M M := ⟨Nat.le_refl _, fun _ _ _ => rfl, h, h.lt⟩
theorem BagG.st {i : Nat} {M M1 M2 : Mem} (g : BagG i M M1) (s : BagSt i M1 M2) : BagG i M M2 := ⟨by rw [s.len]; exact g.len, fun j h n => (s.oth j n).trans (g.oth j h n), s.bag, g.inn⟩
theorem BagG.app {i : Nat} {M M1 N : Mem} (g : BagG i M M1) : BagG i M (M1 ++ N) := ⟨by rw [List.length_append]; have := g.len; omega, fun j h n => by rw [List.getElem?_append_left (Nat.lt_of_lt_of_le h g.len)]; exact g.oth j h n, g.bag.app, g.inn⟩
theorem BagG.set {i k : Nat} {M M1 : Mem} {c : Cell} (g : BagG i M M1) (hk : M.length ≤ k) : BagG i M (M1.set k c) := ⟨by rw [List.length_set]; exact g.len, fun j h n => by rw [List.getElem?_set_ne (by omega)]; exact g.oth j h n, by
  obtain ⟨a, x, e, h0, h1⟩ := g.bag
  have := g.inn
  exact ⟨a, x, by rw [List.getElem?_set_ne (by omega)]; exact e, h0, h1⟩, g.inn⟩
theorem BagG.take {i : Nat} {M M' : Mem} (g : BagG i M M') : BagSt i M (M'.take M.length) := ⟨by rw [List.length_take]; have := g.len; omega, fun j n => by
  rw [List.getElem?_take]
  split
  · rename_i h; exact g.oth j h n
  · rename_i h; rw [List.getElem?_eq_none (by omega)], by
  obtain ⟨a, x, e, h0, h1⟩ := g.bag
  have := g.inn
  exact ⟨a, x, by rw [List.getElem?_take, if_pos this]; exact e, h0, h1⟩⟩

/-! ## Numbers -/
abbrev T3 := Int × Int × Int
/-- a number as data -/
def nd (x : T3) : D := .tup [.int x.1, .int x.2.1, .int x.2.2]
theorem nd_bel (b : Nat) (x : T3) : (nd x).bel b = true := rfl
theorem nd_pure (x : T3) : (nd x).pure = true := rfl
def sg (c : Int) : Int := if c < 0 then -1 else 1
def gcd3 (a b c : Int) : Int := ((Int.gcd ((Int.gcd a b : Nat) : Int) c : Nat) : Int)
/-- in lowest terms -/
def low (a b c : Int) : T3 := (a / (gcd3 a b c * sg c), b / (gcd3 a b c * sg c), c / (gcd3 a b c * sg c))
theorem gcd3_pos {a b c : Int} (h : c ≠ 0) : 0 < gcd3 a b c := by
  have : 0 < Int.gcd ((Int.gcd a b : Nat) : Int) c := Int.gcd_pos_of_ne_zero_right _ h
  unfold gcd3; omega
theorem gcd3_a (a b c : Int) : gcd3 a b c ∣ a := Int.dvd_trans (Int.gcd_dvd_left ..) (Int.gcd_dvd_left ..)
theorem gcd3_b (a b c : Int) : gcd3 a b c ∣ b := Int.dvd_trans (Int.gcd_dvd_left ..) (Int.gcd_dvd_right ..)
theorem gcd3_c (a b c : Int) : gcd3 a b c ∣ c := Int.gcd_dvd_right ..
theorem sg_mul (c : Int) : sg c * sg c = 1 := by unfold sg; split <;> rfl
theorem sg_ne (c : Int) : sg c ≠ 0 := by unfold sg; split <;> decide
theorem dvd_sg {g a c : Int} (h : g ∣ a) : g * sg c ∣ a := by
  unfold sg; split
  · rw [Int.mul_neg, Int.mul_one]; exact Int.neg_dvd.mpr h
  · rw [Int.mul_one]; exact h
/-! sizes -/
structure Bd (s : Nat) (a : Int) : Prop where
  lt : a.natAbs < 2 ^ s
theorem pow_lt_mono {a s t : Nat} (h : a < 2 ^ s) (l : s ≤ t) : a < 2 ^ t := Nat.lt_of_lt_of_le h (Nat.pow_le_pow_right (by decide) l)
theorem log2_lt' {n s : Nat} (h : n < 2 ^ s) (hs : 0 < s) : n.log2 < s := by
  by_cases h0 : n = 0
  · subst h0; rw [Nat.log2_zero]; exact hs
  · exact (Nat.log2_lt h0).mpr h
theorem Bd.mono {s t : Nat} {a : Int} (h : Bd s a) (l : s ≤ t) : Bd t a := ⟨pow_lt_mono h.lt l⟩
theorem Bd.mul {a b : Int} {s t : Nat} (ha : Bd s a) (hb : Bd t b) : Bd (s + t) (a * b) := by
  constructor
  rw [Int.natAbs_mul, Nat.pow_add]
  exact Nat.mul_lt_mul_of_lt_of_le ha.lt (Nat.le_of_lt hb.lt) (Nat.pow_pos (by decide))
theorem Bd.add {a b : Int} {s t u : Nat} (ha : Bd s a) (hb : Bd t b) (h1 : s < u) (h2 : t < u) : Bd u (a + b) := by
  have e1 := pow_lt_mono ha.lt (show s ≤ u - 1 by omega)
  have e2 := pow_lt_mono hb.lt (show t ≤ u - 1 by omega)
  have e3 : 2 ^ u = 2 ^ (u - 1) + 2 ^ (u - 1) := by
    have : u = (u - 1) + 1 := by omega
    rw [this, Nat.pow_succ]; simp; omega
  have := Int.natAbs_add_le a b
  constructor
  omega
theorem Bd.neg {a : Int} {s : Nat} (ha : Bd s a) : Bd s (-a) := ⟨by rw [Int.natAbs_neg]; exact ha.lt⟩
theorem Bd.sub {a b : Int} {s t u : Nat} (ha : Bd s a) (hb : Bd t b) (h1 : s < u) (h2 : t < u) : Bd u (a - b) := by
  rw [Int.sub_eq_add_neg]; exact ha.add hb.neg h1 h2
theorem Bd.abs {a : Int} {s : Nat} (ha : Bd s a) : Bd s (a.natAbs : Int) := ⟨by rw [Int.natAbs_natCast]; exact ha.lt⟩
theorem Bd.ok {a b : Int} {s t : Nat} (ha : Bd s a) (hb : Bd t b) (h : s + t ≤ 900000) : mulOk a b = true := by
  unfold mulOk
  refine @decide_eq_true _ (Classical.propDecidable _) ?_
  refine CMulW.ok ?_
  show a.natAbs.log2 + b.natAbs.log2 < 1000000
  have h1 := log2_lt' (pow_lt_mono ha.lt (Nat.le_succ s)) (Nat.succ_pos s)
  have h2 := log2_lt' (pow_lt_mono hb.lt (Nat.le_succ t)) (Nat.succ_pos t)
  omega
theorem Bd.div {a g : Int} {s : Nat} (ha : Bd s a) (h : g ∣ a) : Bd s (a / g) := by
  constructor
  by_cases hg : g = 0
  · subst hg; rw [Int.ediv_zero]; exact Nat.pow_pos (by decide)
  · have : (a / g).natAbs ≤ a.natAbs := by
      obtain ⟨k, rfl⟩ := h
      rw [Int.mul_ediv_cancel_left _ hg, Int.natAbs_mul]
      exact Nat.le_mul_of_pos_left _ (Int.natAbs_pos.mpr hg)
    have := ha.lt
    omega
theorem Bd.dvd {a g : Int} {s : Nat} (h : Bd s a) (ha : a ≠ 0) (hg : g ∣ a) : Bd s g := by
  have : g.natAbs ≤ a.natAbs := Nat.le_of_dvd (Int.natAbs_pos.mpr ha) (Int.natAbs_dvd_natAbs.mpr hg)
  exact ⟨Nat.lt_of_le_of_lt this h.lt⟩
theorem Bd.add' {a b : Int} {s t : Nat} (ha : Bd s a) (hb : Bd t b) : Bd (max s t + 1) (a + b) := Bd.add ha hb (by omega) (by omega)
theorem Bd.sub' {a b : Int} {s t : Nat} (ha : Bd s a) (hb : Bd t b) : Bd (max s t + 1) (a - b) := Bd.sub ha hb (by omega) (by omega)
theorem Bd.of {a : Int} (s : Nat) (h : a.natAbs < 2 ^ s) : Bd s a := ⟨h⟩
/-- all parts below 2 ^ s -/
structure Sz (s : Nat) (x : T3) : Prop where
  a : Bd s x.1
  b : Bd s x.2.1
  c : Bd s x.2.2
theorem Sz.mono {s t : Nat} {x : T3} (h : Sz s x) (l : s ≤ t) : Sz t x := ⟨h.a.mono l, h.b.mono l, h.c.mono l⟩
theorem low_sz {a b c : Int} {s : Nat} (ha : Bd s a) (hb : Bd s b) (hc : Bd s c) : Sz s (low a b c) :=
  ⟨ha.div (dvd_sg (gcd3_a a b c)), hb.div (dvd_sg (gcd3_b a b c)), hc.div (dvd_sg (gcd3_c a b c))⟩
theorem noPy {x y : Int} {s : Nat} (h : Bd s y) (hs : s ≤ 8990) : Builtin.divisionGoesByPylong x y = false := by
  refine PyProof.noPylong_of_log2 ?_
  have := log2_lt' (pow_lt_mono h.lt (Nat.le_succ s)) (Nat.succ_pos s)
  omega
/-! what makes a number one in lowest terms -/
structure IsN (x : T3) : Prop where
  pos : 0 < x.2.2
  low : gcd3 x.1 x.2.1 x.2.2 = 1
theorem gcd3_mul {g a b c : Int} (h : 0 ≤ g) : gcd3 (g * a) (g * b) (g * c) = g * gcd3 a b c := by
  obtain ⟨n, rfl⟩ := Int.eq_ofNat_of_zero_le h
  unfold gcd3
  rw [Int.gcd_mul_left, Int.natAbs_natCast, Int.natCast_mul, Int.gcd_mul_left, Int.natAbs_natCast, Int.natCast_mul]
theorem low_isN {a b c : Int} (h : c ≠ 0) : IsN (low a b c) := by
  have gp := gcd3_pos (a := a) (b := b) h
  obtain ⟨a', ha⟩ := gcd3_a a b c
  obtain ⟨b', hb⟩ := gcd3_b a b c
  obtain ⟨c', hc⟩ := gcd3_c a b c
  have hg : gcd3 a b c * sg c ≠ 0 := Int.mul_ne_zero (Int.ne_of_gt gp) (sg_ne c)
  have e : ∀ x y : Int, x = gcd3 a b c * y → x / (gcd3 a b c * sg c) = y * sg c := fun x y e => by
    have : x = (gcd3 a b c * sg c) * (y * sg c) := by
      rw [e]
      have := sg_mul c
      grind
    rw [this, Int.mul_ediv_cancel_left _ hg]
  have e1 := e a a' ha
  have e2 := e b b' hb
  have e3 := e c c' hc
  refine ⟨?_, ?_⟩
  · show 0 < c / _
    rw [e3]
    have hc0 : c' ≠ 0 := fun z => by rw [z, Int.mul_zero] at hc; exact h hc
    unfold sg
    split
    · rename_i hn
      have : c' < 0 := by
        rcases Int.lt_trichotomy c' 0 with z | z | z
        · exact z
        · exact absurd z hc0
        · have := Int.mul_pos gp z; omega
      omega
    · rename_i hn
      have : 0 < c' := by
        rcases Int.lt_trichotomy c' 0 with z | z | z
        · have := Int.mul_neg_of_pos_of_neg gp z; omega
        · exact absurd z hc0
        · exact z
      omega
  · show gcd3 (a / _) (b / _) (c / _) = 1
    rw [e1, e2, e3]
    have hs : ∀ y, (y * sg c).natAbs = y.natAbs := fun y => by rw [Int.natAbs_mul]; unfold sg; split <;> simp
    have key : gcd3 (a' * sg c) (b' * sg c) (c' * sg c) = gcd3 a' b' c' := by
      unfold gcd3
      simp only [Int.gcd, hs]
    rw [key]
    have this : gcd3 a b c = gcd3 a b c * gcd3 a' b' c' := by
      have h := gcd3_mul (a := a') (b := b') (c := c') (Int.le_of_lt gp)
      rw [← ha, ← hb, ← hc] at h
      exact h
    have g0 : gcd3 a b c ≠ 0 := Int.ne_of_gt gp
    have h2 : gcd3 a b c * gcd3 a' b' c' = gcd3 a b c * 1 := by rw [← this, Int.mul_one]
    exact Int.eq_of_mul_eq_mul_left g0 h2

/-! ## The four reckonings on numbers -/
def nplus (x y : T3) : T3 := low (x.1 * y.2.2 + y.1 * x.2.2) (x.2.1 * y.2.2 + y.2.1 * x.2.2) (x.2.2 * y.2.2)
def nneg (x : T3) : T3 := (0 - x.1, 0 - x.2.1, x.2.2)
def nmate (x : T3) : T3 := (x.1, 0 - x.2.1, x.2.2)
def ntimes (d : Int) (x y : T3) : T3 := low (x.1 * y.1 + d * x.2.1 * y.2.1) (x.1 * y.2.1 + x.2.1 * y.1) (x.2.2 * y.2.2)
def sgnI (a : Int) : Int := if 0 < a then 1 else if a < 0 then -1 else 0
def nsign (d : Int) (x : T3) : Int := sgnI (x.1 * x.1.natAbs + d * x.2.1 * x.2.1.natAbs)
theorem Bd.neg0 {s : Nat} {a : Int} (h : Bd s a) : Bd s (0 - a) := by rw [Int.zero_sub]; exact h.neg
theorem Sz.neg {s : Nat} {x : T3} (h : Sz s x) : Sz s (nneg x) := ⟨h.a.neg0, h.b.neg0, h.c⟩
theorem Sz.mate {s : Nat} {x : T3} (h : Sz s x) : Sz s (nmate x) := ⟨h.a, h.b.neg0, h.c⟩
theorem Sz.plus {s t : Nat} {x y : T3} (h : Sz s x) (k : Sz t y) : Sz (s + t + 1) (nplus x y) := by
  have l1 : s + t < s + t + 1 := by omega
  have l2 : t + s < s + t + 1 := by omega
  refine low_sz ?_ ?_ ?_
  · exact Bd.add (h.a.mul k.c) (k.a.mul h.c) l1 l2
  · exact Bd.add (h.b.mul k.c) (k.b.mul h.c) l1 l2
  · exact (h.c.mul k.c).mono (by omega)
theorem Sz.times {s t u : Nat} {d : Int} {x y : T3} (hd : Bd u d) (h : Sz s x) (k : Sz t y) : Sz (u + s + t + 1) (ntimes d x y) := by
  refine low_sz ?_ ?_ ?_
  · exact Bd.add (h.a.mul k.a) ((hd.mul h.b).mul k.b) (by omega) (by omega)
  · exact (Bd.add (u := s + t + 1) (h.a.mul k.b) (h.b.mul k.a) (by omega) (by omega)).mono (by omega)
  · exact (h.c.mul k.c).mono (by omega)
theorem fdiv_dvd {a g : Int} (h : g ∣ a) : a.fdiv g = a / g := Int.fdiv_eq_ediv_of_dvd h
theorem bd_lit64 {a : Int} (h : a.natAbs < 2 ^ 64) : Bd 64 a := ⟨h⟩
theorem bd_lit2k {a : Int} (h : a.natAbs < 2 ^ 2000) : Bd 2000 a := ⟨h⟩
theorem sgnI_eq (a : Int) : (if decide (0 < a) = true then (1 : Int) else 0) - (if decide (a < 0) = true then (1 : Int) else 0) = sgnI a := by
  unfold sgnI
  simp only [decide_eq_true_eq]
  split <;> split <;> omega
/-- a number drawn: in lowest terms, of six figures -/
structure Nm (s : Nat) (x : T3) : Prop where
  n : IsN x
  z : Sz s x

section
variable (b : Nat) (i : Int) (p k : Bool) (x y z : D) (xs ys : List D) (M : Mem) (v : T3) (ρ : Env)
theorem belows_nil : belows b [] = true := by simp only [belows]
theorem belows_cons : belows b (x :: xs) = (x.bel b && belows b xs) := by simp only [belows]
theorem bel_int : (D.int i).bel b = true := by simp only [D.bel]
theorem bel_bl : (D.bl p).bel b = true := by simp only [D.bel]
theorem bel_non : (D.non).bel b = true := by simp only [D.bel]
theorem bel_str (s : Str) : (D.str s).bel b = true := by simp only [D.bel]
theorem bel_tup : (D.tup xs).bel b = belows b xs := by simp only [D.bel]
theorem bel_lst : (D.lst xs).bel b = belows b xs := by simp only [D.bel]
theorem leave_int : leave k b (.int i) M = .ok (.int i) (M.take b) := leave_bel (bel_int b i)
theorem leave_bl : leave k b (.bl p) M = .ok (.bl p) (M.take b) := leave_bel (bel_bl b p)
theorem leave_non : leave k b .non M = .ok .non (M.take b) := leave_bel (bel_non b)
theorem leave_str (s : Str) : leave k b (.str s) M = .ok (.str s) (M.take b) := leave_bel (bel_str b s)
theorem leave_nd : leave k b (nd v) M = .ok (nd v) (M.take b) := leave_bel (nd_bel b v)
theorem leave_tup (h : belows b xs = true) : leave k b (.tup xs) M = .ok (.tup xs) (M.take b) := leave_bel (by rw [bel_tup, h])
theorem leave_lst (h : belows b xs = true) : leave k b (.lst xs) M = .ok (.lst xs) (M.take b) := leave_bel (by rw [bel_lst, h])
theorem idx_nd0 : idxE (nd v) (.int 0) M = .ok (.int v.1) M := idx0 ..
theorem idx_nd1 : idxE (nd v) (.int 1) M = .ok (.int v.2.1) M := idx1 ..
theorem idx_nd2 : idxE (nd v) (.int 2) M = .ok (.int v.2.2) M := idx2 ..
theorem bindP_nd (ps : List Pat) : bindP (.tup ps) (nd v) ρ = bindPs ps [.int v.1, .int v.2.1, .int v.2.2] ρ := bindP_tup ..
theorem len_nd : lenE (nd v) M = .ok (.int 3) M := rfl
theorem tup_nd (a c d : Int) : D.tup [.int a, .int c, .int d] = nd (a, c, d) := rfl
end
theorem divE_lit (i j : Int) (M : Mem) (h : j ≠ 0) (h2 : -1000000000000 < j) (h3 : j < 1000000000000) : divE (.int i) (.int j) M = .ok (.int (i.fdiv j)) M := divE_int _ _ _ h (noPy (s := 64) ⟨by omega⟩ (by decide))
def Sms.tl : Sms → Sms
  | .nil => .nil
  | .cons _ r => r
theorem tl_cons (s : Sm) (r : Sms) : (Sms.cons s r).tl = r := rfl
/-- a place of a list that is there -/
theorem idx_mem {xs : List D} {i : Int} (M : Mem) (h0 : 0 ≤ i) (h1 : i < xs.length) : ∃ x, x ∈ xs ∧ idxE (.lst xs) (.int i) M = .ok x M := by
  have hl : i.toNat < xs.length := by omega
  refine ⟨xs[i.toNat], List.getElem_mem hl, idxE_lst _ _ _ _ ?_⟩
  have e : i = (i.toNat : Int) := by omega
  conv => lhs; rw [e]
  exact atI_nat (by rw [List.getElem?_eq_getElem hl])
theorem idx_mem_tup {xs : List D} {i : Int} (M : Mem) (h0 : 0 ≤ i) (h1 : i < xs.length) : ∃ x, x ∈ xs ∧ idxE (.tup xs) (.int i) M = .ok x M := by
  have hl : i.toNat < xs.length := by omega
  refine ⟨xs[i.toNat], List.getElem_mem hl, idxE_tup _ _ _ _ ?_⟩
  have e : i = (i.toNat : Int) := by omega
  conv => lhs; rw [e]
  exact atI_nat (by rw [List.getElem?_eq_getElem hl])
theorem fmod_range (i : Int) {j : Int} (h : 0 < j) : 0 ≤ i.fmod j ∧ i.fmod j < j := ⟨Int.fmod_nonneg_of_pos i h, Int.fmod_lt_of_pos i h⟩
theorem leave_own {kp : Bool} {b : Nat} {M : Mem} {n : Nat} {xs : List D} (hb : b ≤ n) (h : M[n]? = some (.lst xs)) (hp : pures xs = true) : leave kp b (.ref n) M = if kp = true then .ok (.ref b) (M.take b ++ [.lst xs]) else .ok (.lst xs) (M.take b) := by
  unfold leave
  have : (D.ref n).bel b = false := by simp only [D.bel]; exact decide_eq_false (by omega)
  rw [this, if_neg (by simp)]
  dsimp only
  simp only [h, hp, if_true]
theorem leave_keep {b : Nat} {M : Mem} {n : Nat} {xs : List D} (hb : b ≤ n) (h : M[n]? = some (.lst xs)) (hp : pures xs = true) : leave true b (.ref n) M = .ok (.ref b) (M.take b ++ [.lst xs]) := by
  rw [leave_own hb h hp]; rfl
theorem leave_data {b : Nat} {M : Mem} {n : Nat} {xs : List D} (hb : b ≤ n) (h : M[n]? = some (.lst xs)) (hp : pures xs = true) : leave false b (.ref n) M = .ok (.lst xs) (M.take b) := by
  rw [leave_own hb h hp]; rfl
theorem leave_new {M : Mem} {xs : List D} (hp : pures xs = true) : leave true M.length (.ref M.length) (M ++ [.lst xs]) = .ok (.ref M.length) (M ++ [.lst xs]) := by
  rw [leave_keep (xs := xs) (Nat.le_refl _) (by simp) hp, List.take_append_of_le_length (Nat.le_refl _), List.take_length]
theorem bd31 {c : Int} (h0 : 0 ≤ c) (h1 : c < 2147483647) : Bd 31 c := ⟨by omega⟩
section
variable (M : Mem) (t : Ty) (i : Int) (p : Bool) (s : Str) (xs : List D) (x : T3)
theorem isi_int : isiE M t (.int i) = some (decide (t = .int)) := rfl
theorem isi_bl : isiE M t (.bl p) = some (decide (t = .bool ∨ t = .int)) := rfl
theorem isi_str : isiE M t (.str s) = some (decide (t = .str)) := rfl
theorem isi_non : isiE M t .non = some false := rfl
theorem isi_tup : isiE M t (.tup xs) = some (decide (t = .tuple)) := rfl
theorem isi_lst : isiE M t (.lst xs) = some (decide (t = .list)) := rfl
theorem isi_nd : isiE M t (nd x) = some (decide (t = .tuple)) := rfl
end
theorem allE_of {xs : List D} {bs : List Bool} (M : Mem) (h : boolsOf xs = some bs) : allE (.lst xs) M = .ok (.bl (bs.all id)) M := by
  unfold allE
  simp only [look, Option.bind_some, h]
theorem anyE_of {xs : List D} {bs : List Bool} (M : Mem) (h : boolsOf xs = some bs) : anyE (.lst xs) M = .ok (.bl (bs.any id)) M := by
  unfold anyE
  simp only [look, Option.bind_some, h]
theorem pow_ok {i j : Int} (M : Mem) (h : 0 ≤ j) (h1 : j ≤ 1000000) (h2 : i.natAbs < 2 ^ 64) : powE (.int i) (.int j) M = .ok (.int (i ^ j.toNat)) M := by
  unfold powE
  dsimp only
  rw [if_pos ⟨h, h1, h2⟩]
theorem boolsOf_true : ∀ {xs : List D}, (∀ v ∈ xs, v = .bl true) → boolsOf xs = some (List.replicate xs.length true)
  | [], _ => rfl
  | x :: xs, h => by
    have h1 := h x List.mem_cons_self
    subst h1
    simp only [boolsOf, boolsOf_true fun v hv => h v (List.mem_cons_of_mem _ hv), Option.map_some, List.length_cons, List.replicate_succ]
theorem allE_true {xs : List D} (M : Mem) (h : ∀ v ∈ xs, v = .bl true) : allE (.lst xs) M = .ok (.bl true) M := by
  rw [allE_of M (boolsOf_true h)]
  simp

/-! ## Alike -/
mutual
/-- of a depth told, no cell within, no script -/
def D.shp : Nat → D → Bool
  | _, .non => true
  | _, .bl _ => true
  | _, .int _ => true
  | _, .str s => PySem.PyData.strOk s
  | k + 1, .tup xs => shps k xs
  | k + 1, .lst xs => shps k xs
  | 0, .tup _ => false
  | 0, .lst _ => false
  | _, .ref _ => false
  | _, .fix _ => false
def shps : Nat → List D → Bool
  | _, [] => true
  | k, x :: r => x.shp k && shps k r
end
mutual
def eqD : D → D → Bool
  | .non, .non => true
  | .bl a, .bl c => a == c
  | .bl a, .int j => (if a then 1 else 0) == j
  | .int i, .bl c => i == (if c then 1 else 0)
  | .int i, .int j => i == j
  | .str x, .str y => x == y
  | .lst xs, .lst ys => eqDs xs ys
  | .tup xs, .tup ys => eqDs xs ys
  | _, _ => false
def eqDs : List D → List D → Bool
  | [], [] => true
  | x :: xs, y :: ys => eqD x y && eqDs xs ys
  | _, _ => false
end
mutual
/-- what is alike -/
def D.pd : D → PyData
  | .bl b => .bool b
  | .int i => .int i
  | .str s => .str s
  | .tup xs => .tuple (pds xs)
  | .lst xs => .list (pds xs)
  | .fix xs => .list (pds xs)
  | .non => .none
  | .ref _ => .none
def pds : List D → List PyData
  | [] => []
  | x :: r => x.pd :: pds r
end
mutual
theorem shp_pd : ∀ (k : Nat) (d : D), d.shp k = true → d.toPD = some d.pd ∧ d.pd.canLay0 = true ∧ d.pd.depth ≤ k
  | k, .non, h => ⟨by simp only [D.toPD, D.pd], by simp only [D.pd, PyData.canLay0], by simp [D.pd, PyData.depth]⟩
  | k, .bl b, h => ⟨by simp only [D.toPD, D.pd], by simp only [D.pd, PyData.canLay0], by simp [D.pd, PyData.depth]⟩
  | k, .int i, h => ⟨by simp only [D.toPD, D.pd], by simp only [D.pd, PyData.canLay0], by simp [D.pd, PyData.depth]⟩
  | k, .str s, h => ⟨by simp only [D.toPD, D.pd], by simp only [D.pd, PyData.canLay0]; simpa [D.shp] using h, by simp [D.pd, PyData.depth]⟩
  | k + 1, .tup xs, h => by
    have h := shps_pd k xs (by simpa [D.shp] using h)
    refine ⟨?_, ?_, ?_⟩
    · simp only [D.toPD, D.pd, h.1, Option.map_some]
    · simp only [D.pd, PyData.canLay0]; exact h.2.1
    · simp only [D.pd, PyData.depth]; have := h.2.2; omega
  | k + 1, .lst xs, h => by
    have h := shps_pd k xs (by simpa [D.shp] using h)
    refine ⟨?_, ?_, ?_⟩
    · simp only [D.toPD, D.pd, h.1, Option.map_some]
    · simp only [D.pd, PyData.canLay0]; exact h.2.1
    · simp only [D.pd, PyData.depth]; have := h.2.2; omega
  | 0, .tup _, h => by simp [D.shp] at h
  | 0, .lst _, h => by simp [D.shp] at h
  | k, .ref _, h => by simp [D.shp] at h
  | k, .fix _, h => by simp [D.shp] at h
theorem shps_pd : ∀ (k : Nat) (xs : List D), shps k xs = true → toPDs xs = some (pds xs) ∧ PyData.canLayAll0 (pds xs) = true ∧ PyData.depthAll (pds xs) ≤ k
  | k, [], h => ⟨by simp only [toPDs, pds], by simp only [pds, PyData.canLayAll0], by simp [pds, PyData.depthAll]⟩
  | k, x :: r, h => by
    simp only [shps, Bool.and_eq_true] at h
    have h1 := shp_pd k x h.1
    have h2 := shps_pd k r h.2
    refine ⟨?_, ?_, ?_⟩
    · simp only [toPDs, pds, h1.1, h2.1]
    · simp only [pds, PyData.canLayAll0, h1.2.1, h2.2.1, Bool.and_self]
    · simp only [pds, PyData.depthAll]; have := h1.2.2; have := h2.2.2; omega
end
mutual
theorem eqv_pd : ∀ (x y : D) (k l : Nat), x.shp k = true → y.shp l = true → PyData.eqv x.pd y.pd = eqD x y
  | .tup xs, y, k, l, hx, hy => by
    cases k with
    | zero => simp [D.shp] at hx
    | succ k =>
      have hx : shps k xs = true := by simpa [D.shp] using hx
      cases y with
      | tup ys => cases l with
        | zero => simp [D.shp] at hy
        | succ l => simp only [D.pd, PyData.eqv, eqD]; exact eqvs_pd xs ys k l hx (by simpa [D.shp] using hy)
      | _ => first | (simp [D.shp] at hy; done) | simp only [D.pd, PyData.eqv, eqD]
  | .lst xs, y, k, l, hx, hy => by
    cases k with
    | zero => simp [D.shp] at hx
    | succ k =>
      have hx : shps k xs = true := by simpa [D.shp] using hx
      cases y with
      | lst ys => cases l with
        | zero => simp [D.shp] at hy
        | succ l => simp only [D.pd, PyData.eqv, eqD]; exact eqvs_pd xs ys k l hx (by simpa [D.shp] using hy)
      | _ => first | (simp [D.shp] at hy; done) | simp only [D.pd, PyData.eqv, eqD]
  | .non, y, k, l, hx, hy => by cases y <;> first | (simp [D.shp] at hy; done) | simp only [D.pd, PyData.eqv, eqD]
  | .bl a, y, k, l, hx, hy => by cases y <;> first | (simp [D.shp] at hy; done) | simp only [D.pd, PyData.eqv, eqD]
  | .int a, y, k, l, hx, hy => by cases y <;> first | (simp [D.shp] at hy; done) | simp only [D.pd, PyData.eqv, eqD]
  | .str a, y, k, l, hx, hy => by cases y <;> first | (simp [D.shp] at hy; done) | simp only [D.pd, PyData.eqv, eqD]
  | .ref _, y, k, l, hx, hy => by simp [D.shp] at hx
  | .fix _, y, k, l, hx, hy => by simp [D.shp] at hx
theorem eqvs_pd : ∀ (xs ys : List D) (k l : Nat), shps k xs = true → shps l ys = true → PyData.eqvAll (pds xs) (pds ys) = eqDs xs ys
  | [], [], _, _, _, _ => by simp only [pds, PyData.eqvAll, eqDs]
  | [], y :: ys, _, _, _, _ => by simp only [pds, PyData.eqvAll, eqDs]
  | x :: xs, [], _, _, _, _ => by simp only [pds, PyData.eqvAll, eqDs]
  | x :: xs, y :: ys, k, l, hx, hy => by
    simp only [shps, Bool.and_eq_true] at hx hy
    simp only [pds, PyData.eqvAll, eqDs, eqv_pd x y k l hx.1 hy.1, eqvs_pd xs ys k l hx.2 hy.2]
end
theorem toPDM_pure {M : Mem} {d : D} {k : Nat} (h : d.shp k = true) : toPDM M d = d.toPD := by
  cases d with
  | tup xs =>
    have e := (shp_pd k _ h).1
    simp only [D.toPD, Option.map_eq_some_iff] at e
    obtain ⟨q, e, _⟩ := e
    show toPDT M xs = D.toPD (.tup xs)
    unfold toPDT
    simp only [D.toPD, e, Option.map_some]
  | ref n => simp [D.shp] at h
  | non => rfl
  | bl b => rfl
  | int i => rfl
  | str s => rfl
  | lst xs => rfl
  | fix xs => rfl
theorem eqE_shp {M : Mem} {x y : D} (hx : x.shp 60 = true) (hy : y.shp 60 = true) : eqE M x y = some (eqD x y) := by
  obtain ⟨a, b, c⟩ := shp_pd 60 x hx
  obtain ⟨a', b', c'⟩ := shp_pd 60 y hy
  unfold eqE
  rw [toPDM_pure hx, toPDM_pure hy, a, a']
  dsimp only
  rw [if_pos, eqv_pd x y 60 60 hx hy]
  unfold SeqAt.shaped
  rw [b, b', decide_eq_true (show x.pd.depth ≤ 64 by omega), decide_eq_true (show y.pd.depth ≤ 64 by omega)]
  exact ⟨rfl, rfl⟩
theorem eqE_ref {M : Mem} {n : Nat} {xs : List D} {y : D} (h : M[n]? = some (.lst xs)) : eqE M (.ref n) y = eqE M (.lst xs) y := by
  unfold eqE
  have : toPDM M (.ref n) = toPDM M (.lst xs) := by
    unfold toPDM
    simp only [look, h, Option.bind_some, D.toPD]
  rw [this]
theorem eqE_ref2 {M : Mem} {n : Nat} {ys : List D} {x : D} (h : M[n]? = some (.lst ys)) : eqE M x (.ref n) = eqE M x (.lst ys) := by
  unfold eqE
  have : toPDM M (.ref n) = toPDM M (.lst ys) := by
    unfold toPDM
    simp only [look, h, Option.bind_some, D.toPD]
  rw [this]
theorem shps_any {x : D} {k l : Nat} (hx : x.shp l = true) : ∀ {ys : List D}, shps k ys = true → ((pds ys).any fun z => PyData.eqv z x.pd) = ys.any fun z => eqD z x
  | [], _ => by simp only [pds, List.any_nil]
  | y :: ys, h => by
    simp only [shps, Bool.and_eq_true] at h
    simp only [pds, List.any_cons, eqv_pd y x k l h.1 hx, shps_any hx h.2]
theorem inE_of {M : Mem} {x y : D} {ys : List D} (hi : items M y = some ys) (hx : x.shp 60 = true) (hy : shps 60 ys = true) : inE M x y = some (ys.any fun z => eqD z x) := by
  obtain ⟨a, b, c⟩ := shp_pd 60 x hx
  obtain ⟨a', b', c'⟩ := shps_pd 60 ys hy
  unfold inE
  rw [toPDM_pure hx, a, hi, Option.bind_some, a']
  dsimp only
  rw [if_pos, shps_any hx hy]
  unfold SeqAt.shaped
  have d1 : x.pd.depth ≤ 64 := by omega
  have d2 : (PyData.list (pds ys)).depth ≤ 64 := by simp only [PyData.depth]; omega
  rw [b, decide_eq_true d1, decide_eq_true d2]
  simp only [PyData.canLay0, b', Bool.and_self, and_self]
theorem inE_lst {M : Mem} {x : D} {ys : List D} (hx : x.shp 60 = true) (hy : shps 60 ys = true) : inE M x (.lst ys) = some (ys.any fun z => eqD z x) := inE_of rfl hx hy
theorem inE_tup {M : Mem} {x : D} {ys : List D} (hx : x.shp 60 = true) (hy : shps 60 ys = true) : inE M x (.tup ys) = some (ys.any fun z => eqD z x) := inE_of rfl hx hy
/-! the equations -/
section
variable (k : Nat) (i j : Int) (p q : Bool) (x y : D) (xs ys : List D) (v w : T3)
theorem shp_non : D.non.shp k = true := by simp only [D.shp]
theorem shp_bl : (D.bl p).shp k = true := by simp only [D.shp]
theorem shp_int : (D.int i).shp k = true := by simp only [D.shp]
theorem shp_tup : (D.tup xs).shp (k + 1) = shps k xs := by simp only [D.shp]
theorem shp_lst : (D.lst xs).shp (k + 1) = shps k xs := by simp only [D.shp]
theorem shps_nil : shps k [] = true := by simp only [shps]
theorem shps_cons : shps k (x :: xs) = (x.shp k && shps k xs) := by simp only [shps]
theorem shp_nd : (nd v).shp (k + 1) = true := by simp only [nd, D.shp, shps, Bool.and_self]
theorem eqD_int : eqD (.int i) (.int j) = (i == j) := by simp only [eqD]
theorem eqD_bl : eqD (.bl p) (.bl q) = (p == q) := by simp only [eqD]
theorem eqD_tup : eqD (.tup xs) (.tup ys) = eqDs xs ys := by simp only [eqD]
theorem eqD_lst : eqD (.lst xs) (.lst ys) = eqDs xs ys := by simp only [eqD]
theorem eqDs_nil : eqDs [] [] = true := by simp only [eqDs]
theorem eqDs_cons : eqDs (x :: xs) (y :: ys) = (eqD x y && eqDs xs ys) := by simp only [eqDs]
theorem eqD_nd : eqD (nd v) (nd w) = decide (v = w) := by
  obtain ⟨a, b, c⟩ := v
  obtain ⟨a', b', c'⟩ := w
  simp only [nd, eqD, eqDs, Bool.and_true, Prod.mk.injEq]
  rw [Bool.eq_iff_iff]
  simp only [Bool.and_eq_true, beq_iff_eq, decide_eq_true_eq]
end
mutual
theorem eqD_refl : ∀ (k : Nat) (x : D), x.shp k = true → eqD x x = true
  | k, .non, _ => by simp only [eqD]
  | k, .bl b, _ => by simp only [eqD, beq_self_eq_true]
  | k, .int b, _ => by simp only [eqD, beq_self_eq_true]
  | k, .str b, _ => by simp only [eqD, beq_self_eq_true]
  | k + 1, .tup xs, h => by simp only [eqD]; exact eqDs_refl k xs (by simpa [D.shp] using h)
  | k + 1, .lst xs, h => by simp only [eqD]; exact eqDs_refl k xs (by simpa [D.shp] using h)
  | 0, .tup _, h => by simp [D.shp] at h
  | 0, .lst _, h => by simp [D.shp] at h
  | k, .ref _, h => by simp [D.shp] at h
  | k, .fix _, h => by simp [D.shp] at h
theorem eqDs_refl : ∀ (k : Nat) (xs : List D), shps k xs = true → eqDs xs xs = true
  | _, [], _ => by simp only [eqDs]
  | k, x :: r, h => by
    simp only [shps, Bool.and_eq_true] at h
    simp only [eqDs, eqD_refl k x h.1, eqDs_refl k r h.2, Bool.and_self]
end
mutual
theorem shp_mono : ∀ (k l : Nat) (x : D), k ≤ l → x.shp k = true → x.shp l = true
  | k, l, .non, _, _ => by simp only [D.shp]
  | k, l, .bl _, _, _ => by simp only [D.shp]
  | k, l, .int _, _, _ => by simp only [D.shp]
  | k, l, .str _, _, h => by simp only [D.shp] at h ⊢; exact h
  | k + 1, l + 1, .tup xs, hl, h => by simp only [D.shp] at h ⊢; exact shps_mono k l xs (by omega) h
  | k + 1, l + 1, .lst xs, hl, h => by simp only [D.shp] at h ⊢; exact shps_mono k l xs (by omega) h
  | k + 1, 0, .tup xs, hl, h => by omega
  | k + 1, 0, .lst xs, hl, h => by omega
  | 0, _, .tup _, _, h => by simp [D.shp] at h
  | 0, _, .lst _, _, h => by simp [D.shp] at h
  | k, _, .ref _, _, h => by simp [D.shp] at h
  | k, _, .fix _, _, h => by simp [D.shp] at h
theorem shps_mono : ∀ (k l : Nat) (xs : List D), k ≤ l → shps k xs = true → shps l xs = true
  | _, _, [], _, _ => by simp only [shps]
  | k, l, x :: r, hl, h => by
    simp only [shps, Bool.and_eq_true] at h ⊢
    exact ⟨shp_mono k l x hl h.1, shps_mono k l r hl h.2⟩
end
theorem shps_all {k : Nat} : ∀ {xs : List D}, (∀ x ∈ xs, x.shp k = true) → shps k xs = true
  | [], _ => by simp only [shps]
  | x :: r, h => by
    simp only [shps, Bool.and_eq_true]
    exact ⟨h x List.mem_cons_self, shps_all fun y hy => h y (List.mem_cons_of_mem _ hy)⟩

/-! ## Comprehensions and loops over lists that are written out -/
section
variable (cf : Nat → List D → Mem → Res D) (b : Nat) (ρ ρ' : Env) (M : Mem) (x y z u v w : D) (xs ys ds : List D) (p q r s : Bool)
noncomputable def cKo (cf : Nat → List D → Mem → Res D) (b : Nat) (elt : Tm) (o : Option Env) (M : Mem) : Res (Option D) := match o with
  | some ρ => (evE cf b elt ρ M).bind someK
  | none => .stuck
noncomputable def cKo1 (cf : Nat → List D → Mem → Res D) (b : Nat) (cond elt : Tm) (o : Option Env) (M : Mem) : Res (Option D) := match o with
  | some ρ => (evE cf b cond ρ M).bind (cndK cf b elt ρ)
  | none => .stuck
theorem cStep_g (pt : Pat) (own : List Nat) (elt : Tm) : cStep cf b pt own .nil elt ρ x M = cKo cf b elt (bindP pt x (wipeE ρ own)) M := by
  cases e : bindP pt x (wipeE ρ own) with
  | some ρ' => rw [cStep_nil _ _ _ _ _ _ _ _ _ e]; rfl
  | none => unfold cStep; rw [e]; rfl
theorem cStep_g1 (pt : Pat) (own : List Nat) (cond elt : Tm) : cStep cf b pt own (.cons cond .nil) elt ρ x M = cKo1 cf b cond elt (bindP pt x (wipeE ρ own)) M := by
  cases e : bindP pt x (wipeE ρ own) with
  | some ρ' => rw [cStep_one _ _ _ _ _ _ _ _ _ _ e]; rfl
  | none => unfold cStep; rw [e]; rfl
theorem cKo_some (elt : Tm) : cKo cf b elt (some ρ) M = (evE cf b elt ρ M).bind someK := rfl
theorem cKo1_some (cond elt : Tm) : cKo1 cf b cond elt (some ρ) M = (evE cf b cond ρ M).bind (cndK cf b elt ρ) := rfl
noncomputable def fKo (cf : Nat → List D → Mem → Res D) (b : Nat) (a : Sms) (o : Option Env) (M : Mem) : Res Flow := match o with
  | some ρ => evSs cf b a ρ M
  | none => .stuck
theorem fStep_g (pt : Pat) (a : Sms) : fStep cf b pt a x ρ M = fKo cf b a (bindP pt x ρ) M := by
  unfold fStep fKo
  cases bindP pt x ρ <;> rfl
theorem fKo_some (a : Sms) : fKo cf b a (some ρ) M = evSs cf b a ρ M := rfl
def NoGrd (g : List Grd) : Prop := ∀ x ∈ g, x = none
theorem NoGrd.ok {g : List Grd} (h : NoGrd g) (M : Mem) : ∀ x ∈ g, Grd.ok x M := fun x hx => by rw [h x hx]; trivial
theorem noGrd0 : NoGrd [] := fun x h => absurd h List.not_mem_nil
theorem noGrd1 : NoGrd [none] := fun x h => by simpa using h
theorem noGrd2 : NoGrd [none, none] := fun x h => by simpa using h
noncomputable def compC (g : List Grd) (step : D → Mem → Res (Option D)) (ds : List D) (o : Option D) (M : Mem) : Res (List D) := (compL g step ds M).bind fun r M2 => .ok (o.toList ++ r) M2
def compC2 (o : Option D) (r : List D) (M : Mem) : Res (List D) := .ok (o.toList ++ r) M
variable (g : List Grd) (step : D → Mem → Res (Option D)) (fstep : D → Env → Mem → Res Flow)
theorem compL_cons (h : NoGrd g) : compL g step (x :: ds) M = (step x M).bind (compC g step ds) := by
  rw [compL, if_pos (h.ok M)]; rfl
theorem compL_nil (h : NoGrd g) : compL g step [] M = .ok [] M := by rw [compL, if_pos (h.ok M)]
theorem compC_eq (o : Option D) : compC g step ds o M = (compL g step ds M).bind (compC2 o) := rfl
theorem compC2_some : compC2 (some x) ds M = .ok (x :: ds) M := rfl
theorem compC2_none : compC2 none ds M = .ok ds M := rfl
noncomputable def forC (g : List Grd) (fstep : D → Env → Mem → Res Flow) (ds : List D) (f : Flow) (M : Mem) : Res Flow := match f with
  | .next ρ' => forL g fstep ds ρ' M
  | .ret v => .ok (.ret v) M
theorem forL_cons (h : NoGrd g) : forL g fstep (x :: ds) ρ M = (fstep x ρ M).bind (forC g fstep ds) := by
  rw [forL, if_pos (h.ok M)]
  congr 1
theorem forL_nil (h : NoGrd g) : forL g fstep [] ρ M = .ok (.next ρ) M := by rw [forL, if_pos (h.ok M)]
theorem forC_next : forC g fstep ds (.next ρ) M = forL g fstep ds ρ M := rfl
theorem forC_ret : forC g fstep ds (.ret x) M = .ok (.ret x) M := rfl
variable (m : Bool) (own : List Nat) (pt : Pat) (cond : Tms) (elt : Tm)
theorem compK_lst (h : ds.length ≤ 1000) : compK cf b m own pt .seq cond elt ρ [.lst ds] M = (compL [none] (cStep cf b pt own cond elt ρ) ds M).nox.bind (mkL m) := compK_eq (h := src_lst _ _) (hl := Nat.le_trans h (by decide)) ..
theorem compK_tup (h : ds.length ≤ 1000) : compK cf b m own pt .seq cond elt ρ [.tup ds] M = (compL [none] (cStep cf b pt own cond elt ρ) ds M).nox.bind (mkL m) := compK_eq (h := src_tup _ _) (hl := Nat.le_trans h (by decide)) ..
theorem zipL_le : ∀ (xs ys : List D), (zipL xs ys).length ≤ xs.length := fun xs ys => by rw [zipL_len]; omega
theorem compK_zll (h : xs.length ≤ 1000) : compK cf b m own pt .zip2 cond elt ρ [.lst xs, .lst ys] M = (compL [none, none] (cStep cf b pt own cond elt ρ) (zipL xs ys) M).nox.bind (mkL m) := compK_eq (h := src_zip _ _ _) (hl := Nat.le_trans (zipL_le _ _) (Nat.le_trans h (by decide))) ..
theorem compK_ztt (h : xs.length ≤ 1000) : compK cf b m own pt .zip2 cond elt ρ [.tup xs, .tup ys] M = (compL [none, none] (cStep cf b pt own cond elt ρ) (zipL xs ys) M).nox.bind (mkL m) := compK_eq (h := src_zipt _ _ _) (hl := Nat.le_trans (zipL_le _ _) (Nat.le_trans h (by decide))) ..
theorem zipL_cons : zipL (x :: xs) (y :: ys) = .tup [x, y] :: zipL xs ys := rfl
theorem zipL_nil : zipL [] ys = [] := by unfold zipL; first | done | rfl
theorem zipL_nil2 : zipL xs [] = [] := by cases xs <;> rfl
theorem enumL_cons (k : Nat) : enumL k (x :: xs) = .tup [.int (k : Int), x] :: enumL (k + 1) xs := rfl
theorem enumL_nil (k : Nat) : enumL k [] = [] := rfl
theorem natCast_lit (n : Nat) : ((no_index (OfNat.ofNat n) : Nat) : Int) = OfNat.ofNat n := rfl
/-! truths written out -/
theorem allE_0 : allE (.lst []) M = .ok (.bl true) M := rfl
theorem allE_1 : allE (.lst [.bl p]) M = .ok (.bl p) M := by cases p <;> rfl
theorem allE_2 : allE (.lst [.bl p, .bl q]) M = .ok (.bl (p && q)) M := by cases p <;> cases q <;> rfl
theorem allE_3 : allE (.lst [.bl p, .bl q, .bl r]) M = .ok (.bl (p && (q && r))) M := by cases p <;> cases q <;> cases r <;> rfl
theorem allE_4 : allE (.lst [.bl p, .bl q, .bl r, .bl s]) M = .ok (.bl (p && (q && (r && s)))) M := by cases p <;> cases q <;> cases r <;> cases s <;> rfl
theorem anyE_1 : anyE (.lst [.bl p]) M = .ok (.bl p) M := by cases p <;> rfl
theorem anyE_2 : anyE (.lst [.bl p, .bl q]) M = .ok (.bl (p || q)) M := by cases p <;> cases q <;> rfl
theorem anyE_3 : anyE (.lst [.bl p, .bl q, .bl r]) M = .ok (.bl (p || (q || r))) M := by cases p <;> cases q <;> cases r <;> rfl
theorem sumE_0 : sumE (.lst []) M = .ok (.int 0) M := rfl
theorem sumE_1 (i : Int) : sumE (.lst [.int i]) M = .ok (.int i) M := by show Res.ok (D.int ([i] : List Int).sum) M = _; simp
theorem sumE_2 (i j : Int) : sumE (.lst [.int i, .int j]) M = .ok (.int (i + j)) M := by show Res.ok (D.int ([i, j] : List Int).sum) M = _; simp
/-! more places -/
theorem idxl2 : idxE (.lst (x :: y :: z :: xs)) (.int 2) M = .ok z M := idxE_lst _ _ _ _ (atI_nat (j := 2) rfl)
theorem idxl3 : idxE (.lst (x :: y :: z :: u :: xs)) (.int 3) M = .ok u M := idxE_lst _ _ _ _ (atI_nat (j := 3) rfl)
theorem idxl4 : idxE (.lst (x :: y :: z :: u :: v :: xs)) (.int 4) M = .ok v M := idxE_lst _ _ _ _ (atI_nat (j := 4) rfl)
theorem idxt4 : idxE (.tup (x :: y :: z :: u :: v :: xs)) (.int 4) M = .ok v M := idxE_tup _ _ _ _ (atI_nat (j := 4) rfl)
theorem addE_l (h : xs.length + ys.length ≤ 1000) : addE (.lst xs) (.lst ys) M = .ok (.lst (xs ++ ys)) M := addE_lst _ _ _ (Nat.le_trans h (by decide))
theorem addE_t (h : xs.length + ys.length ≤ 1000) : addE (.tup xs) (.tup ys) M = .ok (.tup (xs ++ ys)) M := addE_tup _ _ _ (Nat.le_trans h (by decide))
theorem cutD_00 : cutD xs none none = xs := by
  show (xs.drop 0).take (xs.length - 0) = xs
  rw [List.drop_zero, Nat.sub_zero, List.take_length]
theorem cutD_nn (n : Nat) : cutD xs (some (n : Int)) none = xs.drop n := by
  unfold cutD
  rw [HT.sIx_nat, HT.sIx_none]
  by_cases h : n ≤ xs.length
  · rw [Nat.min_eq_left h]
    exact List.take_of_length_le (by rw [List.length_drop]; exact Nat.le_refl _)
  · rw [Nat.min_eq_right (by omega), List.drop_length, List.drop_of_length_le (by omega)]
    simp
theorem cutD_n0 (n : Nat) : cutD xs none (some (n : Int)) = xs.take n := by
  unfold cutD
  rw [HT.sIx_nat, HT.sIx_none, List.drop_zero, Nat.sub_zero]
  by_cases h : n ≤ xs.length
  · rw [Nat.min_eq_left h]
  · rw [Nat.min_eq_right (by omega), List.take_length, List.take_of_length_le (by omega)]
theorem cutD_1 : cutD xs (some 1) none = xs.drop 1 := cutD_nn xs 1
theorem cutD_t1 : cutD xs none (some 1) = xs.take 1 := cutD_n0 xs 1
theorem tuple1E_lst : tuple1E (.lst xs) M = .ok (.tup xs) M := rfl
theorem tuple1E_tup : tuple1E (.tup xs) M = .ok (.tup xs) M := rfl
theorem list1E_lst (m : Bool) : list1E m (.lst xs) M = mkL m xs M := rfl
theorem list1E_tup (m : Bool) : list1E m (.tup xs) M = mkL m xs M := rfl
theorem eqD_non : eqD .non .non = true := by simp only [eqD]
theorem eqD_str (a c : Str) : eqD (.str a) (.str c) = (a == c) := by simp only [eqD]
theorem shp_str_lit (k : Nat) (a : Str) : (D.str a).shp k = PySem.PyData.strOk a := by simp only [D.shp]
end
theorem eqD_ndx (v w : T3) : eqD (nd v) (nd w) = decide (v = w) := eqD_nd v w
theorem decide_eq_self {A : Type} [DecidableEq A] (a : A) : decide (a = a) = true := decide_eq_true rfl
theorem isE_tn {p : Bool} {ys : List D} {M : Mem} : isE p (.tup ys) .non M = .ok (.bl p) M := rfl
theorem isE_nn {p : Bool} {M : Mem} : isE p .non .non M = .ok (.bl (!p)) M := rfl
theorem b_ft : (false == true) = false := rfl
theorem b_tf : (true == false) = false := rfl

/-! ## Cells -/
section
variable {cf : Nat → List D → Mem → Res D} {b n : Nat} {ρ : Env} {M : Mem} {x y v : D} {xs ys : List D} {c : Cell}
theorem get_last : (M ++ [c])[M.length]? = some c := by simp
theorem get_last2 {e : Cell} : (M ++ [c] ++ [e])[M.length]? = some c := by simp
theorem set_last {e : Cell} : (M ++ [c]).set M.length e = M ++ [e] := by
  rw [List.set_append_right _ _ (Nat.le_refl _), Nat.sub_self]
  rfl
theorem set_last2 {e f : Cell} : (M ++ [c] ++ [e]).set M.length f = M ++ [f] ++ [e] := by
  rw [List.append_assoc, List.set_append_right _ _ (Nat.le_refl _), Nat.sub_self, List.append_assoc]
  rfl
theorem take_last : (M ++ [c]).take M.length = M := by
  rw [List.take_append_of_le_length (Nat.le_refl _), List.take_length]
theorem take_last2 {e : Cell} : (M ++ [c] ++ [e]).take M.length = M := by
  rw [List.append_assoc, List.take_append_of_le_length (Nat.le_refl _), List.take_length]
theorem look_at (h : M[n]? = some (.lst xs)) : look M (.ref n) = some xs := by simp only [look, h]
theorem cellOf_at (h : M[n]? = some (.lst xs)) : cellOf M (.ref n) = some (n, xs) := by simp only [cellOf, h]
theorem putC_at {A : Type} {a : A} {vs : List D} (hb : b ≤ n ∨ pures vs = true) (hl : xs.length ≤ 1000000) : putC b n vs xs M a = .ok a (M.set n (.lst xs)) := by
  unfold putC
  have : (decide (n < b) && !pures vs) = false := by
    rcases hb with h | h
    · rw [decide_eq_false (by omega), Bool.false_and]
    · rw [h]; simp
  rw [this, if_neg (by simp), if_pos (Nat.le_trans hl (by decide))]
theorem append_at (h : M[n]? = some (.lst xs)) (hb : b ≤ n ∨ v.pure = true) (hl : xs.length ≤ 1000) : appendE b (.ref n) v M = .ok .non (M.set n (.lst (xs ++ [v]))) := by
  unfold appendE
  rw [cellOf_at h]
  exact putC_at (hb.imp id fun h => by simp [pures, h]) (by rw [List.length_append, List.length_singleton]; omega)
theorem extend_at (h : M[n]? = some (.lst xs)) (hb : b ≤ n ∨ pures ys = true) (hl : xs.length + ys.length ≤ 100000) : extendE b (.ref n) (.lst ys) M = .ok .non (M.set n (.lst (xs ++ ys))) := by
  unfold extendE
  rw [cellOf_at h]
  exact putC_at hb (by rw [List.length_append]; omega)
theorem reverse_at (h : M[n]? = some (.lst xs)) (hl : xs.length ≤ 1000) : reverseE b (.ref n) M = .ok .non (M.set n (.lst xs.reverse)) := by
  unfold reverseE
  rw [cellOf_at h]
  exact putC_at (.inr rfl) (by rw [List.length_reverse]; omega)
theorem insert_at {k : Int} (h : M[n]? = some (.lst xs)) (hk : 0 ≤ k ∧ k < 2 ^ 62) (hb : b ≤ n ∨ v.pure = true) (hl : xs.length ≤ 1000) : insertE b (.ref n) (.int k) v M = .ok .non (M.set n (.lst (xs.take k.toNat ++ [v] ++ xs.drop k.toNat))) := by
  unfold insertE
  rw [cellOf_at h]
  dsimp only
  rw [if_pos hk]
  exact putC_at (hb.imp id fun h => by simp [pures, h]) (by simp only [List.length_append, List.length_take, List.length_drop, List.length_singleton]; omega)
theorem methK_at {p : Prim} {ts : Tms} (h : M[n]? = some (.lst xs)) : methK cf b p ts ρ (.ref n) M = (evEs cf b ts ρ M).bind (methK2 b p (.ref n)) := methK_ok _ _ _ _ _ _ _ (by rw [look_at h]; rfl)
theorem lenE_at (h : M[n]? = some (.lst xs)) : lenE (.ref n) M = .ok (.int xs.length) M := by unfold lenE lenO; simp only [items, look_at h]
theorem idxE_at {i : Int} (h : M[n]? = some (.lst xs)) : idxE (.ref n) (.int i) M = idxE (.lst xs) (.int i) M := by
  unfold idxE idxO
  dsimp only
  rw [show items M (.ref n) = some xs from look_at h, show items M (.lst xs) = some xs from rfl]
theorem tuple1E_at (h : M[n]? = some (.lst xs)) : tuple1E (.ref n) M = .ok (.tup xs) M := by unfold tuple1E; simp only [items, look_at h]
theorem list1E_at {m : Bool} (h : M[n]? = some (.lst xs)) : list1E m (.ref n) M = mkL m xs M := by unfold list1E list1O; simp only [items, look_at h]
theorem allE_at (h : M[n]? = some (.lst xs)) : allE (.ref n) M = allE (.lst xs) M := by
  unfold allE
  rw [look_at h]; rfl
theorem sumE_at (h : M[n]? = some (.lst xs)) : sumE (.ref n) M = sumE (.lst xs) M := by
  unfold sumE
  rw [look_at h]; rfl
theorem slcE_at {lo hi : Option Int} (h : M[n]? = some (.lst xs)) : slcE false (.ref n) lo hi M = mkL false (cutD xs lo hi) M := by
  unfold slcE
  dsimp only
  rw [look_at h]
theorem addE_at {m : Nat} (h : M[n]? = some (.lst xs)) (g : M[m]? = some (.lst ys)) (hl : xs.length + ys.length ≤ 1000) : addE (.ref n) (.ref m) M = .ok (.lst (xs ++ ys)) M := by
  unfold addE
  dsimp only
  rw [look_at h, look_at g]
  dsimp only
  rw [if_pos (Nat.le_trans hl (by decide))]
theorem src_at (h : M[n]? = some (.lst xs)) : srcE .seq [.ref n] M = some (xs, [some (n, .lst xs)]) := src_ref _ _ _ h
theorem isi_at {t : Ty} (h : M[n]? = some (.lst xs)) : isiE M t (.ref n) = some (decide (t = .list)) := by simp only [isiE, h]
theorem leave_at (hb : b ≤ n) (h : M[n]? = some (.lst xs)) (hp : pures xs = true) : leave false b (.ref n) M = .ok (.lst xs) (M.take b) := leave_data hb h hp
theorem pures_nil : pures [] = true := rfl
theorem pures_cons : pures (x :: xs) = (x.pure && pures xs) := by simp only [pures]
theorem pure_int (i : Int) : (D.int i).pure = true := rfl
theorem pure_bl (i : Bool) : (D.bl i).pure = true := rfl
theorem pure_non : (D.non).pure = true := rfl
theorem pure_str (i : Str) : (D.str i).pure = true := rfl
theorem pure_tup : (D.tup xs).pure = pures xs := by simp only [D.pure]
theorem pure_lst : (D.lst xs).pure = pures xs := by simp only [D.pure]
theorem pures_append : ∀ (xs ys : List D), pures (xs ++ ys) = (pures xs && pures ys)
  | [], ys => by simp [pures]
  | x :: r, ys => by simp only [List.cons_append, pures, pures_append r ys, Bool.and_assoc]
theorem pures_all : ∀ {xs : List D}, (∀ x ∈ xs, x.pure = true) → pures xs = true
  | [], _ => rfl
  | x :: r, h => by
    simp only [pures, Bool.and_eq_true]
    exact ⟨h x List.mem_cons_self, pures_all fun y hy => h y (List.mem_cons_of_mem _ hy)⟩
end
/-- the store stands but for the cells s -/
structure Stay (s : List Nat) (M M' : Mem) : Prop where
  len : M'.length = M.length
  oth : ∀ j, j ∉ s → M'[j]? = M[j]?
theorem Stay.refl (s : List Nat) (M : Mem) : Stay s M M := ⟨rfl, fun _ _ => rfl⟩
theorem BagSt.keep {i j : Nat} {M M' : Mem} {c : Cell} (st : BagSt i M M') (hj : j ≠ i) (h : M[j]? = some c) : M'[j]? = some c := (st.oth j hj).trans h
theorem Bag.set_other {i n : Nat} {M : Mem} {c : Cell} (h : Bag i M) (hn : n ≠ i) : Bag i (M.set n c) := by
  obtain ⟨g, x, e, h0, h1⟩ := h
  exact ⟨g, x, by rw [List.getElem?_set_ne hn]; exact e, h0, h1⟩
/-! ## Dicts -/
section
variable {b n : Nat} {M : Mem} {es : List (List Int × D)} {x v : D} {xs : List D} {k : List Int}
theorem dct_at (h : M[n]? = some (.dct es)) : dctOf M (.ref n) = some (n, es) := by simp only [dctOf, h]
theorem look_dct (h : M[n]? = some (.dct es)) : look M (.ref n) = none := by simp only [look, h]
theorem items_dct (h : M[n]? = some (.dct es)) : items M (.ref n) = none := look_dct h
theorem idxE_dct (h : M[n]? = some (.dct es)) (hk : keyOf (.tup xs) = some k) (hv : valD es k = some v) : idxE (.ref n) (.tup xs) M = .ok v M := by
  unfold idxE idxO
  dsimp only
  rw [dct_at h, hk]
  dsimp only
  rw [hv]
theorem lenE_dct (h : M[n]? = some (.dct es)) : lenE (.ref n) M = .ok (.int es.length) M := by
  unfold lenE lenO
  dsimp only
  rw [items_dct h]
  dsimp only
  rw [dct_at h]
theorem inE_dct (h : M[n]? = some (.dct es)) (hk : keyOf x = some k) : inE M x (.ref n) = some (valD es k).isSome := by
  unfold inE
  rw [items_dct h, Option.bind_none]
  cases toPDM M x with
  | none => dsimp only; rw [dct_at h, hk]
  | some a => dsimp only; rw [dct_at h, hk]
theorem setE_dct (h : M[n]? = some (.dct es)) (hk : keyOf (.tup xs) = some k) (hv : v.pure = true) (hl : es.length ≤ 1000000) : setE b (.ref n) (.tup xs) v M = .ok () (M.set n (.dct (putD es k v))) := by
  unfold setE
  dsimp only
  rw [dct_at h, hk]
  dsimp only
  rw [if_pos ⟨hv, Nat.lt_of_le_of_lt hl (by decide)⟩]
theorem valD_nil : valD [] k = none := rfl
theorem valD_put (es : List (List Int × D)) (k j : List Int) (v : D) : valD (putD es k v) j = if j = k then some v else valD es j := by
  have key : ∀ es : List (List Int × D), valD (es.map fun x => if x.1 = k then (x.1, v) else x) j = if j = k then (valD es k).map (fun _ => v) else valD es j := fun es => by
    induction es with
    | nil => unfold valD; split <;> rfl
    | cons p r ih =>
      rw [List.map_cons]
      unfold valD at ih ⊢
      by_cases e : p.1 = k
      · rw [if_pos e]
        by_cases ej : j = k
        · subst ej
          simp [List.find?_cons, e]
        · have : ¬ p.1 = j := fun z => ej (z.symm.trans e)
          rw [if_neg ej] at ih ⊢
          simp [List.find?_cons, this]
          simpa using ih
      · rw [if_neg e]
        by_cases ej : j = k
        · subst ej
          rw [if_pos rfl] at ih ⊢
          simp [List.find?_cons, e]
          simpa using ih
        · rw [if_neg ej] at ih ⊢
          by_cases ek : p.1 = j
          · simp [List.find?_cons, ek]
          · simp [List.find?_cons, ek]
            simpa using ih
  unfold putD
  by_cases hs : (valD es k).isSome = true
  · rw [if_pos hs, key]
    by_cases ej : j = k
    · rw [if_pos ej, if_pos ej]
      obtain ⟨w, hw⟩ := Option.isSome_iff_exists.mp hs
      rw [hw]; rfl
    · rw [if_neg ej, if_neg ej]
  · rw [if_neg hs]
    have hn : valD es k = none := by simpa using hs
    unfold valD at hn ⊢
    rw [List.find?_append]
    by_cases ej : j = k
    · subst ej
      rw [if_pos rfl]
      rw [Option.map_eq_none_iff] at hn
      rw [hn]
      simp
    · rw [if_neg ej]
      have : ¬ k = j := fun z => ej z.symm
      cases (List.find? (fun x => decide (x.1 = j)) es) with
      | none => simp [List.find?_cons, this]
      | some w => simp
end

/-! ## Words -/
theorem sok_kind : PySem.PyData.strOk "kind" = true := by decide +kernel
theorem sok_turn : PySem.PyData.strOk "turn" = true := by decide +kernel
theorem sok_upon : PySem.PyData.strOk "upon" = true := by decide +kernel
theorem sok_beside : PySem.PyData.strOk "beside" = true := by decide +kernel
theorem sok_grid : PySem.PyData.strOk "grid" = true := by decide +kernel
theorem sok_bar : PySem.PyData.strOk "bar" = true := by decide +kernel
theorem sok_mixture : PySem.PyData.strOk "mixture" = true := by decide +kernel
theorem sok_plan : PySem.PyData.strOk "plan" = true := by decide +kernel
theorem sok_squares : PySem.PyData.strOk "squares" = true := by decide +kernel
theorem sok_laying : PySem.PyData.strOk "laying" = true := by decide +kernel
theorem sok_laid : PySem.PyData.strOk "laid" = true := by decide +kernel
theorem sok_barred : PySem.PyData.strOk "barred" = true := by decide +kernel
theorem sok_mixed : PySem.PyData.strOk "mixed" = true := by decide +kernel
theorem sne_kind_turn : ((("kind" : Str)) == "turn") = false := by decide +kernel
theorem sne_kind_upon : ((("kind" : Str)) == "upon") = false := by decide +kernel
theorem sne_kind_beside : ((("kind" : Str)) == "beside") = false := by decide +kernel
theorem sne_kind_grid : ((("kind" : Str)) == "grid") = false := by decide +kernel
theorem sne_turn_kind : ((("turn" : Str)) == "kind") = false := by decide +kernel
theorem sne_turn_upon : ((("turn" : Str)) == "upon") = false := by decide +kernel
theorem sne_turn_beside : ((("turn" : Str)) == "beside") = false := by decide +kernel
theorem sne_turn_grid : ((("turn" : Str)) == "grid") = false := by decide +kernel
theorem sne_upon_kind : ((("upon" : Str)) == "kind") = false := by decide +kernel
theorem sne_upon_turn : ((("upon" : Str)) == "turn") = false := by decide +kernel
theorem sne_upon_beside : ((("upon" : Str)) == "beside") = false := by decide +kernel
theorem sne_upon_grid : ((("upon" : Str)) == "grid") = false := by decide +kernel
theorem sne_beside_kind : ((("beside" : Str)) == "kind") = false := by decide +kernel
theorem sne_beside_turn : ((("beside" : Str)) == "turn") = false := by decide +kernel
theorem sne_beside_upon : ((("beside" : Str)) == "upon") = false := by decide +kernel
theorem sne_beside_grid : ((("beside" : Str)) == "grid") = false := by decide +kernel
theorem sne_grid_kind : ((("grid" : Str)) == "kind") = false := by decide +kernel
theorem sne_grid_turn : ((("grid" : Str)) == "turn") = false := by decide +kernel
theorem sne_grid_upon : ((("grid" : Str)) == "upon") = false := by decide +kernel
theorem sne_grid_beside : ((("grid" : Str)) == "beside") = false := by decide +kernel
theorem sne_bar_mixture : ((("bar" : Str)) == "mixture") = false := by decide +kernel
theorem sne_bar_plan : ((("bar" : Str)) == "plan") = false := by decide +kernel
theorem sne_bar_squares : ((("bar" : Str)) == "squares") = false := by decide +kernel
theorem sne_bar_laying : ((("bar" : Str)) == "laying") = false := by decide +kernel
theorem sne_bar_laid : ((("bar" : Str)) == "laid") = false := by decide +kernel
theorem sne_bar_barred : ((("bar" : Str)) == "barred") = false := by decide +kernel
theorem sne_bar_mixed : ((("bar" : Str)) == "mixed") = false := by decide +kernel
theorem sne_mixture_bar : ((("mixture" : Str)) == "bar") = false := by decide +kernel
theorem sne_mixture_plan : ((("mixture" : Str)) == "plan") = false := by decide +kernel
theorem sne_mixture_squares : ((("mixture" : Str)) == "squares") = false := by decide +kernel
theorem sne_mixture_laying : ((("mixture" : Str)) == "laying") = false := by decide +kernel
theorem sne_mixture_laid : ((("mixture" : Str)) == "laid") = false := by decide +kernel
theorem sne_mixture_barred : ((("mixture" : Str)) == "barred") = false := by decide +kernel
theorem sne_mixture_mixed : ((("mixture" : Str)) == "mixed") = false := by decide +kernel
theorem sne_plan_bar : ((("plan" : Str)) == "bar") = false := by decide +kernel
theorem sne_plan_mixture : ((("plan" : Str)) == "mixture") = false := by decide +kernel
theorem sne_plan_squares : ((("plan" : Str)) == "squares") = false := by decide +kernel
theorem sne_plan_laying : ((("plan" : Str)) == "laying") = false := by decide +kernel
theorem sne_plan_laid : ((("plan" : Str)) == "laid") = false := by decide +kernel
theorem sne_plan_barred : ((("plan" : Str)) == "barred") = false := by decide +kernel
theorem sne_plan_mixed : ((("plan" : Str)) == "mixed") = false := by decide +kernel
theorem sne_squares_bar : ((("squares" : Str)) == "bar") = false := by decide +kernel
theorem sne_squares_mixture : ((("squares" : Str)) == "mixture") = false := by decide +kernel
theorem sne_squares_plan : ((("squares" : Str)) == "plan") = false := by decide +kernel
theorem sne_squares_laying : ((("squares" : Str)) == "laying") = false := by decide +kernel
theorem sne_squares_laid : ((("squares" : Str)) == "laid") = false := by decide +kernel
theorem sne_squares_barred : ((("squares" : Str)) == "barred") = false := by decide +kernel
theorem sne_squares_mixed : ((("squares" : Str)) == "mixed") = false := by decide +kernel
theorem sne_laying_bar : ((("laying" : Str)) == "bar") = false := by decide +kernel
theorem sne_laying_mixture : ((("laying" : Str)) == "mixture") = false := by decide +kernel
theorem sne_laying_plan : ((("laying" : Str)) == "plan") = false := by decide +kernel
theorem sne_laying_squares : ((("laying" : Str)) == "squares") = false := by decide +kernel
theorem sne_laying_laid : ((("laying" : Str)) == "laid") = false := by decide +kernel
theorem sne_laying_barred : ((("laying" : Str)) == "barred") = false := by decide +kernel
theorem sne_laying_mixed : ((("laying" : Str)) == "mixed") = false := by decide +kernel
theorem sne_laid_bar : ((("laid" : Str)) == "bar") = false := by decide +kernel
theorem sne_laid_mixture : ((("laid" : Str)) == "mixture") = false := by decide +kernel
theorem sne_laid_plan : ((("laid" : Str)) == "plan") = false := by decide +kernel
theorem sne_laid_squares : ((("laid" : Str)) == "squares") = false := by decide +kernel
theorem sne_laid_laying : ((("laid" : Str)) == "laying") = false := by decide +kernel
theorem sne_laid_barred : ((("laid" : Str)) == "barred") = false := by decide +kernel
theorem sne_laid_mixed : ((("laid" : Str)) == "mixed") = false := by decide +kernel
theorem sne_barred_bar : ((("barred" : Str)) == "bar") = false := by decide +kernel
theorem sne_barred_mixture : ((("barred" : Str)) == "mixture") = false := by decide +kernel
theorem sne_barred_plan : ((("barred" : Str)) == "plan") = false := by decide +kernel
theorem sne_barred_squares : ((("barred" : Str)) == "squares") = false := by decide +kernel
theorem sne_barred_laying : ((("barred" : Str)) == "laying") = false := by decide +kernel
theorem sne_barred_laid : ((("barred" : Str)) == "laid") = false := by decide +kernel
theorem sne_barred_mixed : ((("barred" : Str)) == "mixed") = false := by decide +kernel
theorem sne_mixed_bar : ((("mixed" : Str)) == "bar") = false := by decide +kernel
theorem sne_mixed_mixture : ((("mixed" : Str)) == "mixture") = false := by decide +kernel
theorem sne_mixed_plan : ((("mixed" : Str)) == "plan") = false := by decide +kernel
theorem sne_mixed_squares : ((("mixed" : Str)) == "squares") = false := by decide +kernel
theorem sne_mixed_laying : ((("mixed" : Str)) == "laying") = false := by decide +kernel
theorem sne_mixed_laid : ((("mixed" : Str)) == "laid") = false := by decide +kernel
theorem sne_mixed_barred : ((("mixed" : Str)) == "barred") = false := by decide +kernel

/-! ## Texts -/
/-- the text of these signs -/
def Tx (l : List Nat) : Str := ⟨l.toArray⟩
theorem Tx_len (l : List Nat) : (Tx l).length = l.length := rfl
theorem Tx_list (l : List Nat) : (Tx l).cps.toList = l := rfl
theorem Tx_of (s : Str) : s = Tx s.cps.toList := rfl
theorem Tx_inj {a c : List Nat} (h : Tx a = Tx c) : a = c := congrArg (fun s : Str => s.cps.toList) h
theorem Tx_app (a c : List Nat) : Tx a ++ Tx c = Tx (a ++ c) := by
  show (⟨a.toArray ++ c.toArray⟩ : Str) = ⟨(a ++ c).toArray⟩
  rw [List.append_toArray]
theorem Tx_beq (a c : List Nat) : (Tx a == Tx c) = decide (a = c) := by
  by_cases h : a = c
  · rw [h, decide_eq_true rfl]; exact beq_self_eq_true _
  · rw [decide_eq_false h]; exact beq_eq_false_iff_ne.mpr fun z => h (Tx_inj z)
/-- plain signs -/
def okT (l : List Nat) : Bool := l.all fun c => decide (c < 128)
theorem okT_app (a c : List Nat) : okT (a ++ c) = (okT a && okT c) := by unfold okT; rw [List.all_append]
theorem okT_mem {l : List Nat} : okT l = true ↔ ∀ c ∈ l, c < 128 := by
  unfold okT
  rw [List.all_eq_true]
  exact ⟨fun h c hc => of_decide_eq_true (h c hc), fun h c hc => decide_eq_true (h c hc)⟩
theorem okT_sub {a l : List Nat} (h : okT l = true) (s : ∀ c ∈ a, c ∈ l) : okT a = true := okT_mem.mpr fun c hc => okT_mem.mp h c (s c hc)
theorem sok_tx {l : List Nat} (h : okT l = true) : PySem.PyData.strOk (Tx l) = true := by
  show (l.toArray.all fun x => decide (x < 1114112)) = true
  rw [List.all_toArray, List.all_eq_true]
  intro c hc
  exact decide_eq_true (Nat.lt_trans (okT_mem.mp h c hc) (by decide))
theorem shp_tx {l : List Nat} {k : Nat} (h : okT l = true) : (D.str (Tx l)).shp k = true := by rw [shp_str_lit]; exact sok_tx h
/-- not too long -/
def lenT (l : List Nat) : Prop := l.length ≤ 1000
/-- a part by bounds, as a slice takes it -/
def cutN (l : List Nat) (lo hi : Option Int) : List Nat := (l.drop (HT.sIx l.length 0 lo)).take (HT.sIx l.length l.length hi - HT.sIx l.length 0 lo)
theorem cutN_mem {l : List Nat} {lo hi : Option Int} {c : Nat} (h : c ∈ cutN l lo hi) : c ∈ l := List.mem_of_mem_drop (List.mem_of_mem_take h)
theorem cutN_len (l : List Nat) (lo hi : Option Int) : (cutN l lo hi).length ≤ l.length := by
  unfold cutN
  rw [List.length_take, List.length_drop]
  omega
section
variable {cf : Nat → List D → Mem → Res D} {b : Nat} {ρ : Env} {M : Mem} {x : D} {ds xs : List D} {a l z : List Nat} {m : Bool} {lo hi : Option Int} {i : Int} {c : Nat}
noncomputable def smethK (cf : Nat → List D → Mem → Res D) (b : Nat) (p : Prim) (ts : Tms) (ρ : Env) (d : D) (M : Mem) : Res D := match d with
  | .str s => (evEs cf b ts ρ M).bind fun ds M2 => primE b p (.str s :: ds) M2
  | _ => .stuck
theorem ev_smeth (p : Prim) (o : Tm) (ts : Tms) : evE cf b (.smeth p o ts) ρ M = (evE cf b o ρ M).bind (smethK cf b p ts ρ) := by simp only [evE]; rfl
theorem smethK_eq (p : Prim) (ts : Tms) (s : Str) : smethK cf b p ts ρ (.str s) M = (evEs cf b ts ρ M).bind (methK2 b p (.str s)) := rfl
theorem pr_str1 : primE b .str1 xs M = ap1 str1E xs M := rfl
theorem pr_join : primE b .join xs M = ap2 joinE xs M := rfl
theorem pr_rfind : primE b .rfind xs M = ap2 rfindE xs M := rfl
theorem pr_part3 : primE b .part3 xs M = ap2 part3E xs M := rfl
theorem pr_index1 : primE b .index1 xs M = ap2 index1E xs M := rfl
theorem pr_pick (es : List (Str × D)) : primE b (.pick es) xs M = ap1 (pickE es) xs M := rfl
theorem tx_add (h : a.length + l.length ≤ 1000) : addE (.str (Tx a)) (.str (Tx l)) M = .ok (.str (Tx (a ++ l))) M := by
  unfold addE
  dsimp only
  rw [if_pos (show (Tx a).length + (Tx l).length ≤ lim from Nat.le_trans h (by decide)), Tx_app]
theorem tx_len (h : a.length ≤ 1000) : lenE (.str (Tx a)) M = .ok (.int a.length) M := by
  unfold lenE
  dsimp only
  rw [if_pos (show (Tx a).length ≤ lim from Nat.le_trans h (by decide))]
  rfl
theorem tx_slc (h : a.length ≤ 1000) : slcE m (.str (Tx a)) lo hi M = .ok (.str (Tx (cutN a lo hi))) M := by
  unfold slcE
  dsimp only
  rw [if_pos (show (Tx a).length ≤ lim from Nat.le_trans h (by decide))]
  rfl
theorem tx_idx (h : a.length ≤ 1000) (e : atI a i = some c) : idxE (.str (Tx a)) (.int i) M = .ok (.str (Tx [c])) M := by
  unfold idxE idxS
  dsimp only
  rw [if_pos (show (Tx a).length ≤ lim from Nat.le_trans h (by decide)), Tx_list, e]
  rfl
theorem tx_in : inE M (.str (Tx [c])) (.str (Tx z)) = some (decide (c ∈ z)) := rfl
theorem tx_eq (ha : okT a = true) (hl : okT l = true) : eqE M (.str (Tx a)) (.str (Tx l)) = some (decide (a = l)) := by
  rw [eqE_shp (shp_tx ha) (shp_tx hl), eqD_str, Tx_beq]
theorem tx_src : srcE .seq [.str (Tx a)] M = some (a.map fun c => D.str (Tx [c]), [none]) := rfl
theorem tx_list1 : list1E m (.str (Tx a)) M = mkL m (a.map fun c => D.str (Tx [c])) M := rfl
theorem tx_rev (h : a.length ≤ 1000) : revE m (.str (Tx a)) M = .ok (.str (Tx a.reverse)) M := by
  unfold revE
  dsimp only
  rw [if_pos (show (Tx a).length ≤ lim from Nat.le_trans h (by decide))]
  rfl
theorem tx_isi (t : Ty) : isiE M t (.str (Tx a)) = some (decide (t = .str)) := rfl
/-! signs in a text -/
theorem at_one (a : List Nat) (c i : Nat) : StrLaws.At (Tx a) (Tx [c]) (Tx a).length i ↔ a[i]? = some c := StrLaws.subAt_one (Tx a) c i
/-- the last place of a sign, -1 where there is none -/
def lastN (a : List Nat) (c : Nat) : Int := match Txt.rfind (Tx a) (Tx [c]) with
  | k => k
theorem tx_rfind : rfindE (.str (Tx a)) (.str (Tx [c])) M = .ok (.int (lastN a c)) M := rfl
theorem lastN_none (h : c ∉ a) : lastN a c = -1 := by
  unfold lastN Txt.rfind
  rcases StrLaws.last_spec (Tx a) (Tx [c]) with ⟨e, _⟩ | ⟨i, _, h1, _⟩
  · rw [e]
  · exact absurd (List.mem_of_getElem? ((at_one a c i).mp h1)) h
theorem lastN_some {k : Nat} (h : a[k]? = some c) (n : ∀ j, k < j → a[j]? ≠ some c) : lastN a c = k := by
  unfold lastN Txt.rfind
  rcases StrLaws.last_spec (Tx a) (Tx [c]) with ⟨_, e⟩ | ⟨i, e, h1, h2⟩
  · exact absurd ((at_one a c k).mpr h) (e k)
  · rw [e]
    have e1 := (at_one a c i).mp h1
    have : i = k := by
      rcases Nat.lt_trichotomy i k with q | q | q
      · exact absurd ((at_one a c k).mpr h) (h2 k q)
      · exact q
      · exact absurd e1 (n i q)
    rw [this]
theorem lastN_ge (a : List Nat) (c : Nat) : -1 ≤ lastN a c ∧ lastN a c < a.length := by
  by_cases h : c ∈ a
  · unfold lastN Txt.rfind
    rcases StrLaws.last_spec (Tx a) (Tx [c]) with ⟨e, _⟩ | ⟨i, e, h1, _⟩
    · rw [e]; dsimp only; omega
    · rw [e]
      have := (List.getElem?_eq_some_iff.mp ((at_one a c i).mp h1)).1
      dsimp only
      omega
  · rw [lastN_none h]; omega
/-- the first place of a sign -/
theorem occ_first {k : Nat} (h : a[k]? = some c) (n : ∀ j, j < k → a[j]? ≠ some c) : (Builtin.Str.occurrences (Tx a) (Tx [c]) 0 (Tx a).length 1).head? = some k := by
  rcases StrLaws.occ_head (Tx a) (Tx [c]) 1 (Nat.le_refl _) with ⟨_, e⟩ | ⟨i, r, e, h1, h2⟩
  · exact absurd ((at_one a c k).mpr h) (e k)
  · rw [e]
    have e1 := (at_one a c i).mp h1
    have : i = k := by
      rcases Nat.lt_trichotomy i k with q | q | q
      · exact absurd e1 (n i q)
      · exact q
      · exact absurd ((at_one a c k).mpr h) (h2 k q)
    rw [this]; rfl
theorem occ_non (h : c ∉ a) : Builtin.Str.occurrences (Tx a) (Tx [c]) 0 (Tx a).length 1 = [] := by
  rcases StrLaws.occ_head (Tx a) (Tx [c]) 1 (Nat.le_refl _) with ⟨e, _⟩ | ⟨i, r, e, h1, h2⟩
  · exact e
  · exact absurd (List.mem_of_getElem? ((at_one a c i).mp h1)) h
theorem tx_part_none (hl : a.length ≤ 1000) (h : c ∉ a) : part3E (.str (Tx a)) (.str (Tx [c])) M = .ok (.tup [.str (Tx a), .str (Tx []), .str (Tx [])]) M := by
  unfold part3E
  dsimp only
  rw [if_pos ⟨rfl, show (Tx a).length ≤ lim from Nat.le_trans hl (by decide)⟩]
  unfold Txt.partition
  rw [occ_non h]
  rfl
theorem tx_part {p q : List Nat} (hl : (p ++ c :: q).length ≤ 1000) (h : c ∉ p) : part3E (.str (Tx (p ++ c :: q))) (.str (Tx [c])) M = .ok (.tup [.str (Tx p), .str (Tx [c]), .str (Tx q)]) M := by
  have e := occ_first (a := p ++ c :: q) (c := c) (k := p.length) (by simp) (fun j hj z => by
    rw [List.getElem?_append_left hj] at z
    exact h (List.mem_of_getElem? z))
  have e2 : ∃ r, Builtin.Str.occurrences (Tx (p ++ c :: q)) (Tx [c]) 0 (Tx (p ++ c :: q)).length 1 = p.length :: r := by
    cases o : Builtin.Str.occurrences (Tx (p ++ c :: q)) (Tx [c]) 0 (Tx (p ++ c :: q)).length 1 with
    | nil => rw [o] at e; cases e
    | cons k r => rw [o] at e; cases e; exact ⟨r, rfl⟩
  obtain ⟨r, e2⟩ := e2
  unfold part3E
  dsimp only
  rw [if_pos ⟨rfl, show (Tx (p ++ c :: q)).length ≤ lim from Nat.le_trans hl (by decide)⟩]
  have e3 : Txt.partition (Tx (p ++ c :: q)) (Tx [c]) = (Tx p, Tx [c], Tx q) := by
    unfold Txt.partition
    rw [e2]
    dsimp only
    unfold Builtin.Str.strSub
    have sub : ∀ (l : List Nat) (i j : Nat), (⟨(Tx l).cps.extract i j⟩ : Str) = Tx ((l.drop i).take (j - i)) := fun l i j => by
      show (⟨l.toArray.extract i j⟩ : Str) = ⟨((l.drop i).take (j - i)).toArray⟩
      rw [List.extract_toArray]
    rw [sub, sub]
    have h1 : ((p ++ c :: q).drop 0).take (p.length - 0) = p := by simp
    have h2 : ((p ++ c :: q).drop (p.length + (Tx [c]).length)).take ((Tx (p ++ c :: q)).length - (p.length + (Tx [c]).length)) = q := by
      rw [Tx_len, Tx_len]
      simp
      rw [show p.length + (q.length + 1) - (p.length + 1) = q.length by omega, List.take_length]
    rw [h1, h2]
  rw [e3]
theorem tx_index {k : Nat} (h : a[k]? = some c) (n : ∀ j, j < k → a[j]? ≠ some c) : index1E (.str (Tx a)) (.str (Tx [c])) M = .ok (.int (k : Nat)) M := by
  unfold index1E
  dsimp only
  rw [show Txt.index0 (Tx a) (Tx [c]) = some k from occ_first h n]
/-! texts of whole numbers -/
def decN (n : Nat) : List Nat := (Nat.toDigits 10 n).map Char.toNat
def decI (i : Int) : List Nat := if i < 0 then 45 :: decN i.natAbs else decN i.natAbs
theorem decN_tx (n : Nat) : Str.ofString (toString (n : Nat)) = Tx (decN n) := by
  rw [Str.ofString_eq_toList]
  unfold Tx decN
  congr 3
  show (Nat.repr n).toList = _
  rw [Nat.toList_repr]
theorem decI_tx (i : Int) : Str.ofString (toString i) = Tx (decI i) := by
  cases i with
  | ofNat n =>
    have e : decI (.ofNat n) = decN n := by unfold decI; rw [if_neg (by simp)]; rfl
    rw [e]
    exact decN_tx n
  | negSucc n =>
    have e : decI (.negSucc n) = 45 :: decN (n + 1) := by unfold decI; rw [if_pos (by omega)]; rfl
    rw [e, Str.ofString_eq_toList]
    unfold Tx decN
    congr 3
    show ("-" ++ (n + 1).repr).toList.map Char.toNat = _
    rw [String.toList_append, Nat.toList_repr]
    rfl
theorem tx_str1 {s : Nat} (h : Bd s i) (hs : s ≤ 1900) : str1E (.int i) M = .ok (.str (Tx (decI i))) M := by
  unfold str1E
  dsimp only
  rw [if_pos, decI_tx]
  by_cases z : i.natAbs = 0
  · rw [z]; decide
  · rw [Nat.log2_lt z]
    exact Nat.lt_of_lt_of_le h.lt (Nat.pow_le_pow_right (by decide) (by omega))
theorem tx_int1 (n : Int) (hl : a.length ≤ 640) (h : PySem.intText? (Tx a) = some n) : int1E (.str (Tx a)) M = .ok (.int n) M := by
  unfold int1E
  dsimp only
  rw [if_pos (show (Tx a).length ≤ 640 from hl), h]
end
theorem decN_all (n : Nat) : NumText.AllDigits (decN n) := fun c hc => by
  obtain ⟨ch, h, rfl⟩ := List.mem_map.mp hc
  have := Nat.isDigit_of_mem_toDigits (b := 10) (by decide) (by decide) h
  unfold Char.isDigit at this
  simp only [Bool.and_eq_true, decide_eq_true_iff] at this
  obtain ⟨h1, h2⟩ := this
  exact ⟨UInt32.le_iff_toNat_le.mp h1, UInt32.le_iff_toNat_le.mp h2⟩
theorem decN_ne (n : Nat) : decN n ≠ [] := fun h => Nat.toDigits_ne_nil (List.map_eq_nil_iff.mp h)
theorem okT_decN (n : Nat) : okT (decN n) = true := okT_mem.mpr fun c hc => Nat.lt_of_le_of_lt (decN_all n c hc).2 (by decide)
theorem okT_decI (i : Int) : okT (decI i) = true := by
  unfold decI
  split
  · show (decide (45 < 128) && okT (decN i.natAbs)) = true
    rw [okT_decN]; rfl
  · exact okT_decN _
theorem decN_len {n k : Nat} (hk : 0 < k) (h : n < 10 ^ k) : (decN n).length ≤ k := by
  unfold decN
  rw [List.length_map]
  exact (Nat.length_toDigits_le_iff (by decide) hk).mpr h
theorem decN_val (n : Nat) : NumText.digitsVal (decN n) = n := by
  have e : NumText.digitsVal (decN n) = Nat.ofDigitChars 10 (Nat.toDigits 10 n) 0 := by
    unfold NumText.digitsVal decN Nat.ofDigitChars
    rw [List.foldl_map]
    congr 1
    funext acc c
    rw [Nat.mul_comm]
    rfl
  rw [e, Nat.ofDigitChars_ten_toDigits]

/-! ## Plans as data -/
theorem leave_pure {k : Bool} {b : Nat} {d : D} {M : Mem} (h : d.pure = true) : leave k b d M = .ok d (M.take b) := leave_bel (bel_of_pure b d h)
/-- a grid of a plan that is a fraction of it high; the plan itself for 1 -/
def gridD (p : T3) (pl : D) : D := if p = (1, 0, 1) then pl else .tup [.str "grid", .int p.2.2, .int p.1, pl]
def kindD (k : Int) : D := .tup [.str "kind", .int k]
def turnD (k : Int) : D := .tup [.str "turn", .tup [.str "kind", .int k]]
def leafD (k : Int) (t : Bool) : D := if t = true then turnD k else kindD k
theorem kindD_pure (k : Int) : (kindD k).pure = true := rfl
theorem turnD_pure (k : Int) : (turnD k).pure = true := rfl
theorem leafD_pure (k : Int) (t : Bool) : (leafD k t).pure = true := by cases t <;> rfl
theorem gridD_pure {p : T3} {pl : D} (h : pl.pure = true) : (gridD p pl).pure = true := by
  unfold gridD
  split
  · exact h
  · simp [D.pure, pures, h]
def joinD (xs : List D) : D := if xs.length = 1 then xs.getD 0 .non else .tup [.str "upon", .tup xs]
/-- the parts of a mixture's plan -/
def mixL (u v : T3) (k : Int) : List D := (if u = (0, 0, 1) then [] else [gridD u (kindD k)]) ++ (if v = (0, 0, 1) then [] else [gridD v (turnD k)])
theorem mixL_pure (u v : T3) (k : Int) : pures (mixL u v k) = true := by
  unfold mixL
  rw [pures_append]
  have h1 := gridD_pure (p := u) (kindD_pure k)
  have h2 := gridD_pure (p := v) (turnD_pure k)
  split <;> split <;> simp [pures, h1, h2]
theorem mixL_len (u v : T3) (k : Int) : (mixL u v k).length ≤ 2 := by
  unfold mixL
  split <;> split <;> simp

private theorem EVA_996a2e58 : type_of% (And.intro (And.intro (And.intro (And.intro (And.intro (And.intro (And.intro @varK_ok (And.intro @condK_t @condK_f)) (And.intro (And.intro @condK_and @condK_or) (And.intro @condK_int @ev_var))) (And.intro (And.intro @ev_con (And.intro @ev_prim @ev_meth)) (And.intro (And.intro @methK2_eq @ev_call) (And.intro @ev_refus @refE_ok)))) (And.intro (And.intro (And.intro @refE_NoRoot (And.intro @refE_NoNumber @refE_NoLaying)) (And.intro (And.intro @refE_NoTile @refE_NoFit) (And.intro @refE_NoKinds @refE_NoPlan))) (And.intro (And.intro @refE_NoSpot (And.intro @refE_NoNet @refE_NoText)) (And.intro (And.intro @refE_NoSaying @refE_NoName) (And.intro @refE_TooMany @ev_and))))) (And.intro (And.intro (And.intro (And.intro @andK_eq (And.intro @ev_or @orK_eq)) (And.intro (And.intro @ev_ite @iteK_t) (And.intro @iteK_f @iteK_eq))) (And.intro (And.intro @ev_chain (And.intro @chainK1_eq @chainK2_eq)) (And.intro (And.intro @chainK3_eq @chainK4_eq) (And.intro @ev_comp @evs_nil)))) (And.intro (And.intro (And.intro @evs_cons (And.intro @consK_eq @consK2_eq)) (And.intro (And.intro @st_asg @asgK_eq) (And.intro @asgO_some @st_setI))) (And.intro (And.intro @setK1_eq (And.intro @setK2_eq @setK3_eq)) (And.intro (And.intro @setK4_eq @st_expr) (And.intro @exprK_eq @st_ite)))))) (And.intro (And.intro (And.intro (And.intro (And.intro @iteSK_t (And.intro @iteSK_f @st_whil)) (And.intro (And.intro @st_for @fStep_name) (And.intro @st_ret @retK_eq))) (And.intro (And.intro @st_retN (And.intro @st_raise @st_pass)) (And.intro (And.intro @st_wipe @ss_nil) (And.intro @ss_cons @seqK_next)))) (And.intro (And.intro (And.intro @seqK_ret (And.intro @fin_ret @fin_next)) (And.intro (And.intro @fin_exc @Res.bind_ok) (And.intro @Res.bind_exc @Res.nox_ok))) (And.intro (And.intro @bindP_name (And.intro @bindP_tup @bindP_lst)) (And.intro (And.intro @bindPs_nil @bindPs_cons) (And.intro @ap1_1 @ap2_2))))) (And.intro (And.intro (And.intro (And.intro @pr_newd (And.intro @pr_add @pr_sub)) (And.intro (And.intro @pr_mul @pr_fdiv) (And.intro @pr_mod @pr_pow))) (And.intro (And.intro @pr_neg (And.intro @pr_notb @pr_eq)) (And.intro (And.intro @pr_ne @pr_lt) (And.intro @pr_le @pr_gt)))) (And.intro (And.intro (And.intro @pr_ge (And.intro @pr_isin @pr_notin)) (And.intro (And.intro @pr_is @pr_isnot) (And.intro @pr_tup @pr_lst))) (And.intro (And.intro @pr_idx (And.intro @pr_len @pr_abs)) (And.intro (And.intro @pr_int1 @pr_isi) (And.intro @pr_all @pr_any))))))) (And.intro (And.intro (And.intro (And.intro (And.intro (And.intro @pr_min2 (And.intro @pr_max2 @pr_sum)) (And.intro (And.intro @pr_tuple1 @pr_list1) (And.intro @pr_append @pr_extend))) (And.intro (And.intro @pr_pop0 (And.intro @pr_pop1 @pr_insert)) (And.intro (And.intro @pr_rev @pr_max1) (And.intro @pr_min1 @pr_lenset)))) (And.intro (And.intro (And.intro @pr_reverse (And.intro @ap3_3 @revE_tup)) (And.intro (And.intro @revE_lst @pr_slc00) (And.intro @pr_slc10 @pr_slc01))) (And.intro (And.intro @part_int' (And.intro @slcE_tup @slcE_lst)) (And.intro (And.intro @src_en @src_ent) (And.intro @src_zip @src_zipt))))) (And.intro (And.intro (And.intro (And.intro @src_ziptl (And.intro @src_ziplt @addE_int)) (And.intro (And.intro @intOp_int @negE_int) (And.intro @notE_bl @absE_int))) (And.intro (And.intro @int1E_bl (And.intro @int1E_int @isE_bl)) (And.intro (And.intro @tupE_ok @mkL_ok) (And.intro @mkL_cell @okB_some)))) (And.intro (And.intro (And.intro @lenE_tup (And.intro @lenE_lst @lenE_fix)) (And.intro (And.intro @idx0 @idx1) (And.intro @idx2 @idx3))) (And.intro (And.intro @idxl0 (And.intro @idxl1 @src_tup)) (And.intro (And.intro @src_lst @src_fix) (And.intro @Ok_ok @someK_eq)))))) (And.intro (And.intro (And.intro (And.intro (And.intro @cndK_t (And.intro @cndK_f @cStep_nm)) (And.intro (And.intro @cStep_nm1 @wipeE_nil) (And.intro @wipeE_cons @leave_int))) (And.intro (And.intro @leave_bl (And.intro @leave_non @leave_str)) (And.intro (And.intro @leave_nd @leave_tup) (And.intro @leave_lst @belows_nil)))) (And.intro (And.intro (And.intro @belows_cons (And.intro @bel_int @bel_bl)) (And.intro (And.intro @bel_non @bel_str) (And.intro @bel_tup @bel_lst))) (And.intro (And.intro @nd_bel (And.intro @take_same @idx_nd0)) (And.intro (And.intro @idx_nd1 @idx_nd2) (And.intro @bindP_nd @len_nd))))) (And.intro (And.intro (And.intro (And.intro @tup_nd (And.intro @modE_int @divE_lit)) (And.intro (And.intro @tl_cons @eqE_shp) (And.intro @inE_lst @inE_tup))) (And.intro (And.intro @shp_non (And.intro @shp_bl @shp_int)) (And.intro (And.intro @shp_tup @shp_lst) (And.intro @shps_nil @shps_cons)))) (And.intro (And.intro (And.intro @shp_nd (And.intro @eqD_int @eqD_bl)) (And.intro (And.intro @eqD_tup @eqD_lst) (And.intro @eqDs_nil @eqDs_cons))) (And.intro (And.intro (And.intro @eqD_nd @isi_int) (And.intro @isi_bl @isi_str)) (And.intro (And.intro @isi_non @isi_tup) (And.intro @isi_lst @isi_nd)))))))) := (And.intro (And.intro (And.intro (And.intro (And.intro (And.intro (And.intro @varK_ok (And.intro @condK_t @condK_f)) (And.intro (And.intro @condK_and @condK_or) (And.intro @condK_int @ev_var))) (And.intro (And.intro @ev_con (And.intro @ev_prim @ev_meth)) (And.intro (And.intro @methK2_eq @ev_call) (And.intro @ev_refus @refE_ok)))) (And.intro (And.intro (And.intro @refE_NoRoot (And.intro @refE_NoNumber @refE_NoLaying)) (And.intro (And.intro @refE_NoTile @refE_NoFit) (And.intro @refE_NoKinds @refE_NoPlan))) (And.intro (And.intro @refE_NoSpot (And.intro @refE_NoNet @refE_NoText)) (And.intro (And.intro @refE_NoSaying @refE_NoName) (And.intro @refE_TooMany @ev_and))))) (And.intro (And.intro (And.intro (And.intro @andK_eq (And.intro @ev_or @orK_eq)) (And.intro (And.intro @ev_ite @iteK_t) (And.intro @iteK_f @iteK_eq))) (And.intro (And.intro @ev_chain (And.intro @chainK1_eq @chainK2_eq)) (And.intro (And.intro @chainK3_eq @chainK4_eq) (And.intro @ev_comp @evs_nil)))) (And.intro (And.intro (And.intro @evs_cons (And.intro @consK_eq @consK2_eq)) (And.intro (And.intro @st_asg @asgK_eq) (And.intro @asgO_some @st_setI))) (And.intro (And.intro @setK1_eq (And.intro @setK2_eq @setK3_eq)) (And.intro (And.intro @setK4_eq @st_expr) (And.intro @exprK_eq @st_ite)))))) (And.intro (And.intro (And.intro (And.intro (And.intro @iteSK_t (And.intro @iteSK_f @st_whil)) (And.intro (And.intro @st_for @fStep_name) (And.intro @st_ret @retK_eq))) (And.intro (And.intro @st_retN (And.intro @st_raise @st_pass)) (And.intro (And.intro @st_wipe @ss_nil) (And.intro @ss_cons @seqK_next)))) (And.intro (And.intro (And.intro @seqK_ret (And.intro @fin_ret @fin_next)) (And.intro (And.intro @fin_exc @Res.bind_ok) (And.intro @Res.bind_exc @Res.nox_ok))) (And.intro (And.intro @bindP_name (And.intro @bindP_tup @bindP_lst)) (And.intro (And.intro @bindPs_nil @bindPs_cons) (And.intro @ap1_1 @ap2_2))))) (And.intro (And.intro (And.intro (And.intro @pr_newd (And.intro @pr_add @pr_sub)) (And.intro (And.intro @pr_mul @pr_fdiv) (And.intro @pr_mod @pr_pow))) (And.intro (And.intro @pr_neg (And.intro @pr_notb @pr_eq)) (And.intro (And.intro @pr_ne @pr_lt) (And.intro @pr_le @pr_gt)))) (And.intro (And.intro (And.intro @pr_ge (And.intro @pr_isin @pr_notin)) (And.intro (And.intro @pr_is @pr_isnot) (And.intro @pr_tup @pr_lst))) (And.intro (And.intro @pr_idx (And.intro @pr_len @pr_abs)) (And.intro (And.intro @pr_int1 @pr_isi) (And.intro @pr_all @pr_any))))))) (And.intro (And.intro (And.intro (And.intro (And.intro (And.intro @pr_min2 (And.intro @pr_max2 @pr_sum)) (And.intro (And.intro @pr_tuple1 @pr_list1) (And.intro @pr_append @pr_extend))) (And.intro (And.intro @pr_pop0 (And.intro @pr_pop1 @pr_insert)) (And.intro (And.intro @pr_rev @pr_max1) (And.intro @pr_min1 @pr_lenset)))) (And.intro (And.intro (And.intro @pr_reverse (And.intro @ap3_3 @revE_tup)) (And.intro (And.intro @revE_lst @pr_slc00) (And.intro @pr_slc10 @pr_slc01))) (And.intro (And.intro @part_int' (And.intro @slcE_tup @slcE_lst)) (And.intro (And.intro @src_en @src_ent) (And.intro @src_zip @src_zipt))))) (And.intro (And.intro (And.intro (And.intro @src_ziptl (And.intro @src_ziplt @addE_int)) (And.intro (And.intro @intOp_int @negE_int) (And.intro @notE_bl @absE_int))) (And.intro (And.intro @int1E_bl (And.intro @int1E_int @isE_bl)) (And.intro (And.intro @tupE_ok @mkL_ok) (And.intro @mkL_cell @okB_some)))) (And.intro (And.intro (And.intro @lenE_tup (And.intro @lenE_lst @lenE_fix)) (And.intro (And.intro @idx0 @idx1) (And.intro @idx2 @idx3))) (And.intro (And.intro @idxl0 (And.intro @idxl1 @src_tup)) (And.intro (And.intro @src_lst @src_fix) (And.intro @Ok_ok @someK_eq)))))) (And.intro (And.intro (And.intro (And.intro (And.intro @cndK_t (And.intro @cndK_f @cStep_nm)) (And.intro (And.intro @cStep_nm1 @wipeE_nil) (And.intro @wipeE_cons @leave_int))) (And.intro (And.intro @leave_bl (And.intro @leave_non @leave_str)) (And.intro (And.intro @leave_nd @leave_tup) (And.intro @leave_lst @belows_nil)))) (And.intro (And.intro (And.intro @belows_cons (And.intro @bel_int @bel_bl)) (And.intro (And.intro @bel_non @bel_str) (And.intro @bel_tup @bel_lst))) (And.intro (And.intro @nd_bel (And.intro @take_same @idx_nd0)) (And.intro (And.intro @idx_nd1 @idx_nd2) (And.intro @bindP_nd @len_nd))))) (And.intro (And.intro (And.intro (And.intro @tup_nd (And.intro @modE_int @divE_lit)) (And.intro (And.intro @tl_cons @eqE_shp) (And.intro @inE_lst @inE_tup))) (And.intro (And.intro @shp_non (And.intro @shp_bl @shp_int)) (And.intro (And.intro @shp_tup @shp_lst) (And.intro @shps_nil @shps_cons)))) (And.intro (And.intro (And.intro @shp_nd (And.intro @eqD_int @eqD_bl)) (And.intro (And.intro @eqD_tup @eqD_lst) (And.intro @eqDs_nil @eqDs_cons))) (And.intro (And.intro (And.intro @eqD_nd @isi_int) (And.intro @isi_bl @isi_str)) (And.intro (And.intro @isi_non @isi_tup) (And.intro @isi_lst @isi_nd))))))))
local macro_rules | `(tactic| walk_at "ev") => `(tactic| simp only [EVA_996a2e58, Option.bind_some, List.getElem?_cons_zero, List.getElem?_cons_succ, List.set_cons_zero, List.set_cons_succ, List.length_cons, List.length_nil, if_true, if_false, ite_true, ite_false, reduceIte, Bool.not_true, Bool.not_false, Nat.zero_add, Nat.reduceAdd, Nat.reduceLeDiff, Option.isSome_some, decide_true, decide_false, Bool.false_eq_true, Bool.and_true, ne_eq, Int.reduceEq, not_false_eq_true, Int.reduceNeg, Int.reduceLT, Nat.reducePow, Nat.reduceLT, List.length_map, Option.map_some, List.any_cons, List.any_nil, Bool.or_false, Bool.and_self, reduceCtorEq, beq_self_eq_true, or_false, or_true, true_or, false_or])
local macro_rules | `(tactic| walk_at "dig") => `(tactic| repeat (first | with_reducible refine Ok.fin ?_ | with_reducible refine Ok.bind ?_ | with_reducible refine Ok.nox ?_))
local macro_rules | `(tactic| walk_at "bd") => `(tactic| repeat (first | assumption | exact bd_lit64 (by decide) | apply Bd.mul | apply Bd.add' | apply Bd.sub' | apply Bd.neg | apply Bd.abs | exact Sz.a (by assumption) | exact Sz.b (by assumption) | exact Sz.c (by assumption) | exact bd_lit2k (by decide +kernel)))
local macro_rules | `(tactic| walk_at "mul") => `(tactic| rw [mulE_int _ _ _ (Bd.ok (by walk_at "bd") (by walk_at "bd") (by omega))])
local macro_rules | `(tactic| walk_at "go") => `(tactic| repeat (first | walk_at "ev" | walk_at "mul"))

/-! ## The field of a root -/
class Root (d : Int) : Prop where
  pos : 0 < d
  irr : ∀ a b : Int, a * a = d * (b * b) → b = 0
theorem irr_of {d k : Int} (hk : 0 ≤ k) (h1 : k * k < d) (h2 : d < (k + 1) * (k + 1)) : ∀ (n : Nat) (a b : Int), 0 ≤ a → 0 ≤ b → b.toNat ≤ n → a * a = d * (b * b) → b = 0
  | 0, a, b, ha, hb, hn, h => by omega
  | n + 1, a, b, ha, hb, hn, h => by
    rcases (show b = 0 ∨ 0 < b by omega) with h0 | h0
    · exact h0
    · have hb2 : 0 < b * b := Int.mul_pos h0 h0
      have g1 : k * b < a := by
        rcases Int.lt_or_le (k * b) a with z | z
        · exact z
        · have e1 : a * a ≤ (k * b) * (k * b) := Int.mul_le_mul z z ha (Int.mul_nonneg hk hb)
          have e2 : (k * k) * (b * b) < d * (b * b) := Int.mul_lt_mul_of_pos_right h1 hb2
          grind
      have g2 : a < (k + 1) * b := by
        rcases Int.lt_or_le a ((k + 1) * b) with z | z
        · exact z
        · have hkb : 0 ≤ (k + 1) * b := Int.mul_nonneg (by omega) hb
          have e1 : ((k + 1) * b) * ((k + 1) * b) ≤ a * a := Int.mul_le_mul z z hkb ha
          have e2 : d * (b * b) < ((k + 1) * (k + 1)) * (b * b) := Int.mul_lt_mul_of_pos_right h2 hb2
          grind
      have g3 : a - k * b < b := by grind
      have g4 : 0 ≤ d * b - k * a := by
        rcases Int.lt_or_le (d * b) (k * a) with z | z
        · exfalso
          have e1 : b * (d * b) < b * (k * a) := Int.mul_lt_mul_of_pos_left z h0
          have e2 : a * (k * b) ≤ a * a := Int.mul_le_mul_of_nonneg_left (Int.le_of_lt g1) ha
          have e3 : b * (d * b) = a * a := by rw [h]; grind
          have e4 : b * (k * a) = a * (k * b) := by grind
          omega
        · omega
      have key : (d * b - k * a) * (d * b - k * a) = d * ((a - k * b) * (a - k * b)) := by grind
      have := irr_of hk h1 h2 n (d * b - k * a) (a - k * b) g4 (by omega) (by omega) key
      omega
theorem root_of {d : Int} (k : Int) (hk : 0 ≤ k) (h1 : k * k < d) (h2 : d < (k + 1) * (k + 1)) : Root d := by
  refine ⟨?_, fun a b h => ?_⟩
  · have := Int.mul_nonneg hk hk; omega
  · have := irr_of hk h1 h2 b.natAbs a.natAbs b.natAbs (by omega) (by omega) (by omega) (by rw [Int.natAbs_mul_self', Int.natAbs_mul_self']; exact h)
    omega
/-- numbers a + b times the root, by fractions -/
@[ext] structure Q2 (d : Int) where
  p : Rat
  q : Rat
section
variable {d : Int}
instance : Add (Q2 d) := ⟨fun x y => ⟨x.p + y.p, x.q + y.q⟩⟩
instance : Neg (Q2 d) := ⟨fun x => ⟨-x.p, -x.q⟩⟩
instance : Sub (Q2 d) := ⟨fun x y => ⟨x.p - y.p, x.q - y.q⟩⟩
instance : Mul (Q2 d) := ⟨fun x y => ⟨x.p * y.p + d * x.q * y.q, x.p * y.q + x.q * y.p⟩⟩
instance (n : Nat) : OfNat (Q2 d) n := ⟨⟨n, 0⟩⟩
instance : NatCast (Q2 d) := ⟨fun n => ⟨n, 0⟩⟩
instance : IntCast (Q2 d) := ⟨fun n => ⟨n, 0⟩⟩
instance : SMul Nat (Q2 d) := ⟨fun n x => ⟨n * x.p, n * x.q⟩⟩
instance : SMul Int (Q2 d) := ⟨fun n x => ⟨n * x.p, n * x.q⟩⟩
def Q2.npow (x : Q2 d) : Nat → Q2 d
  | 0 => 1
  | n + 1 => x.npow n * x
instance : HPow (Q2 d) Nat (Q2 d) := ⟨Q2.npow⟩
theorem Q2.add_p (x y : Q2 d) : (x + y).p = x.p + y.p := rfl
theorem Q2.add_q (x y : Q2 d) : (x + y).q = x.q + y.q := rfl
theorem Q2.neg_p (x : Q2 d) : (-x).p = -x.p := rfl
theorem Q2.neg_q (x : Q2 d) : (-x).q = -x.q := rfl
theorem Q2.sub_p (x y : Q2 d) : (x - y).p = x.p - y.p := rfl
theorem Q2.sub_q (x y : Q2 d) : (x - y).q = x.q - y.q := rfl
theorem Q2.mul_p (x y : Q2 d) : (x * y).p = x.p * y.p + d * x.q * y.q := rfl
theorem Q2.mul_q (x y : Q2 d) : (x * y).q = x.p * y.q + x.q * y.p := rfl
theorem Q2.nat_p (n : Nat) : (OfNat.ofNat n : Q2 d).p = n := rfl
theorem Q2.nat_q (n : Nat) : (OfNat.ofNat n : Q2 d).q = 0 := rfl
theorem Q2.zero_p : (0 : Q2 d).p = 0 := rfl
theorem Q2.zero_q : (0 : Q2 d).q = 0 := rfl
theorem Q2.one_p : (1 : Q2 d).p = 1 := rfl
theorem Q2.one_q : (1 : Q2 d).q = 0 := rfl
theorem Q2.nc_p (n : Nat) : ((n : Nat) : Q2 d).p = n := rfl
theorem Q2.nc_q (n : Nat) : ((n : Nat) : Q2 d).q = 0 := rfl
theorem Q2.ic_p (n : Int) : ((n : Int) : Q2 d).p = n := rfl
theorem Q2.ic_q (n : Int) : ((n : Int) : Q2 d).q = 0 := rfl
theorem Q2.ns_p (n : Nat) (x : Q2 d) : (n • x).p = n * x.p := rfl
theorem Q2.ns_q (n : Nat) (x : Q2 d) : (n • x).q = n * x.q := rfl
theorem Q2.zs_p (n : Int) (x : Q2 d) : (n • x).p = n * x.p := rfl
theorem Q2.zs_q (n : Int) (x : Q2 d) : (n • x).q = n * x.q := rfl
instance : Lean.Grind.CommRing (Q2 d) where
  add_zero a := by ext <;> simp only [Q2.add_p, Q2.add_q, Q2.zero_p, Q2.zero_q] <;> grind
  add_comm a b := by ext <;> simp only [Q2.add_p, Q2.add_q] <;> grind
  add_assoc a b c := by ext <;> simp only [Q2.add_p, Q2.add_q] <;> grind
  mul_assoc a b c := by ext <;> simp only [Q2.mul_p, Q2.mul_q] <;> grind
  one_mul a := by ext <;> simp only [Q2.mul_p, Q2.mul_q, Q2.one_p, Q2.one_q] <;> grind
  right_distrib a b c := by ext <;> simp only [Q2.mul_p, Q2.mul_q, Q2.add_p, Q2.add_q] <;> grind
  mul_zero a := by ext <;> simp only [Q2.mul_p, Q2.mul_q, Q2.zero_p, Q2.zero_q] <;> grind
  mul_one a := by ext <;> simp only [Q2.mul_p, Q2.mul_q, Q2.one_p, Q2.one_q] <;> grind
  mul_comm a b := by ext <;> simp only [Q2.mul_p, Q2.mul_q] <;> grind
  left_distrib a b c := by ext <;> simp only [Q2.mul_p, Q2.mul_q, Q2.add_p, Q2.add_q] <;> grind
  zero_mul a := by ext <;> simp only [Q2.mul_p, Q2.mul_q, Q2.zero_p, Q2.zero_q] <;> grind
  pow_zero a := rfl
  pow_succ a n := rfl
  ofNat_succ n := by ext <;> simp only [Q2.nat_p, Q2.nat_q, Q2.add_p, Q2.add_q, Q2.one_p, Q2.one_q, Rat.natCast_add, Rat.add_zero] <;> rfl
  ofNat_eq_natCast n := rfl
  nsmul_eq_natCast_mul n a := by ext <;> simp only [Q2.mul_p, Q2.mul_q, Q2.nc_p, Q2.nc_q, Q2.ns_p, Q2.ns_q] <;> grind
  neg_add_cancel a := by ext <;> simp only [Q2.add_p, Q2.add_q, Q2.neg_p, Q2.neg_q, Q2.zero_p, Q2.zero_q] <;> grind
  sub_eq_add_neg a b := by ext <;> simp only [Q2.add_p, Q2.add_q, Q2.neg_p, Q2.neg_q, Q2.sub_p, Q2.sub_q] <;> grind
  neg_zsmul i a := by ext <;> simp only [Q2.neg_p, Q2.neg_q, Q2.zs_p, Q2.zs_q] <;> grind
  zsmul_natCast_eq_nsmul n a := by ext <;> exact congrArg (· * _) (Rat.intCast_natCast n)
  intCast_ofNat n := by
    ext
    · exact Rat.intCast_natCast n
    · rfl
  intCast_neg n := by ext <;> simp only [Q2.ic_p, Q2.ic_q, Q2.neg_p, Q2.neg_q] <;> grind
end

/-! ### its order -/
theorem rat_nd (p : Rat) : p * (p.den : Rat) = p.num := by
  have h : ((p.num : Rat) / (p.den : Rat)) = p := by rw [← Rat.mkRat_eq_div, Rat.mkRat_self]
  have h0 : (p.den : Rat) ≠ 0 := by
    have := p.den_nz
    exact fun e => this (Rat.natCast_eq_zero_iff.mp e)
  grind
theorem rlt_or (a b : Rat) : a < b ∨ b ≤ a := by grind
section
variable {d : Int}
theorem sq_nn (r : Rat) : 0 ≤ r * r := by
  rcases Rat.le_total (a := 0) (b := r) with h | h
  · exact Rat.mul_nonneg h h
  · have := Rat.mul_nonneg (show 0 ≤ -r by grind) (show 0 ≤ -r by grind)
    grind
theorem sq_pos {r : Rat} (h : r ≠ 0) : 0 < r * r := by
  have h1 := sq_nn r
  have h2 : r * r ≠ 0 := fun e => by
    rcases Rat.mul_eq_zero.mp e with e | e <;> exact h e
  grind
theorem Root.ratirr [R : Root d] (p q : Rat) (h : p * p = d * (q * q)) : q = 0 := by
  have e : (p.num * q.den) * (p.num * q.den) = d * ((q.num * p.den) * (q.num * p.den)) := by
    have hp : p * (p.den : Rat) = p.num := rat_nd p
    have hq : q * (q.den : Rat) = q.num := rat_nd q
    have : (((p.num * q.den) * (p.num * q.den) : Int) : Rat) = ((d * ((q.num * p.den) * (q.num * p.den)) : Int) : Rat) := by
      simp only [Rat.intCast_mul, Rat.intCast_natCast]
      rw [← hp, ← hq]
      grind
    exact Rat.intCast_inj.mp this
  have := R.irr _ _ e
  have hd : (p.den : Int) ≠ 0 := by have := p.den_pos; omega
  rcases Int.mul_eq_zero.mp this with z | z
  · exact Rat.num_eq_zero.mp z
  · exact absurd z hd
def Q2.N (x : Q2 d) : Rat := x.p * x.p - d * (x.q * x.q)
def Q2.Pos (x : Q2 d) : Prop := (0 < x.N ∧ 0 < x.p) ∨ (x.N < 0 ∧ 0 < x.q)
theorem Root.rpos [R : Root d] : (0 : Rat) < (d : Rat) := Rat.intCast_pos.mpr R.pos
theorem Q2.N0 [Root d] {x : Q2 d} (h : x.N = 0) : x = 0 := by
  have hq : x.q = 0 := Root.ratirr (d := d) x.p x.q (by unfold Q2.N at h; grind)
  have hp : x.p = 0 := by
    unfold Q2.N at h
    rw [hq] at h
    have : x.p * x.p = 0 := by grind
    rcases Rat.mul_eq_zero.mp this with e | e <;> exact e
  ext
  · exact hp
  · exact hq
theorem Q2.N_mul (x y : Q2 d) : (x * y).N = x.N * y.N := by
  unfold Q2.N
  rw [Q2.mul_p, Q2.mul_q]
  grind
theorem Q2.N_neg (x : Q2 d) : (-x).N = x.N := by
  unfold Q2.N
  rw [Q2.neg_p, Q2.neg_q]
  grind
theorem Q2.tri [R : Root d] (x : Q2 d) : x = 0 ∨ x.Pos ∨ (-x).Pos := by
  unfold Q2.Pos
  rw [Q2.N_neg, Q2.neg_p, Q2.neg_q]
  have hr := R.rpos
  by_cases h0 : x.N = 0
  · exact .inl (Q2.N0 h0)
  · right
    by_cases hn : 0 < x.N
    · have : x.p ≠ 0 := fun e => by
        unfold Q2.N at hn
        rw [e] at hn
        have := Rat.mul_nonneg (Rat.le_of_lt hr) (sq_nn x.q)
        grind
      grind
    · have : x.q ≠ 0 := fun e => by
        unfold Q2.N at hn h0
        rw [e] at hn h0
        have := sq_nn x.p
        grind
      grind
theorem Q2.not_both (x : Q2 d) (h : x.Pos) (k : (-x).Pos) : False := by
  unfold Q2.Pos at h k
  rw [Q2.N_neg, Q2.neg_p, Q2.neg_q] at k
  grind
theorem Q2.zero_not_pos : ¬ (0 : Q2 d).Pos := by
  unfold Q2.Pos Q2.N
  rw [Q2.zero_p, Q2.zero_q]
  grind
/-- the greater square tells -/
theorem lt_of_sq {a b : Rat} (ha : 0 < a) (h : b * b < a * a) : -a < b ∧ b < a := by
  constructor
  · rcases rlt_or (-a) b with z | z
    · exact z
    · have : a * a ≤ b * b := by
        have := Rat.mul_le_mul_of_nonneg_left (show a ≤ -b by grind) (Rat.le_of_lt ha)
        have := Rat.mul_le_mul_of_nonneg_right (show a ≤ -b by grind) (show 0 ≤ -b by grind)
        grind
      grind
  · rcases rlt_or b a with z | z
    · exact z
    · have : a * a ≤ b * b := by
        have := Rat.mul_le_mul_of_nonneg_left z (Rat.le_of_lt ha)
        have := Rat.mul_le_mul_of_nonneg_right z (show 0 ≤ b by grind)
        grind
      grind
theorem Q2.pos_mul [R : Root d] {x y : Q2 d} (hx : x.Pos) (hy : y.Pos) : (x * y).Pos := by
  have hr := R.rpos
  unfold Q2.Pos at hx hy ⊢
  rw [Q2.N_mul, Q2.mul_p, Q2.mul_q]
  have nx := sq_nn x.p
  have ny := sq_nn y.p
  have mx := Rat.mul_nonneg (Rat.le_of_lt hr) (sq_nn x.q)
  have my := Rat.mul_nonneg (Rat.le_of_lt hr) (sq_nn y.q)
  rcases hx with ⟨a, b⟩ | ⟨a, b⟩ <;> rcases hy with ⟨c, e⟩ | ⟨c, e⟩
  · left
    refine ⟨Rat.mul_pos a c, ?_⟩
    have key : (d * x.q * y.q) * (d * x.q * y.q) < (x.p * y.p) * (x.p * y.p) := by
      have := Rat.mul_pos a (show 0 < y.p * y.p from Rat.mul_pos e e)
      have := Rat.mul_nonneg mx (Rat.le_of_lt c)
      unfold Q2.N at *
      grind
    have := (lt_of_sq (Rat.mul_pos b e) key).1
    grind
  · right
    have hq : 0 < y.q := e
    refine ⟨?_, ?_⟩
    · have := Rat.mul_pos a (show 0 < -y.N by grind)
      grind
    · have key : (x.q * y.p) * (x.q * y.p) < (x.p * y.q) * (x.p * y.q) := by
        have t1 := Rat.mul_pos a (show 0 < y.q * y.q from Rat.mul_pos e e)
        have t2 := Rat.mul_nonneg (sq_nn x.q) (Rat.le_of_lt (show 0 < -y.N by grind))
        unfold Q2.N at *
        grind
      have := (lt_of_sq (Rat.mul_pos b e) key).1
      grind
  · right
    refine ⟨?_, ?_⟩
    · have := Rat.mul_pos c (show 0 < -x.N by grind)
      grind
    · have key : (x.p * y.q) * (x.p * y.q) < (x.q * y.p) * (x.q * y.p) := by
        have t1 := Rat.mul_pos c (show 0 < x.q * x.q from Rat.mul_pos b b)
        have t2 := Rat.mul_nonneg (sq_nn y.q) (Rat.le_of_lt (show 0 < -x.N by grind))
        unfold Q2.N at *
        grind
      have := (lt_of_sq (Rat.mul_pos b e) key).1
      grind
  · left
    refine ⟨?_, ?_⟩
    · have := Rat.mul_pos (show 0 < -x.N by grind) (show 0 < -y.N by grind)
      grind
    · have bq := Rat.mul_pos (Rat.mul_pos hr b) e
      have key : (x.p * y.p) * (x.p * y.p) < (d * x.q * y.q) * (d * x.q * y.q) := by
        have t1 := Rat.mul_pos (show 0 < -x.N by grind) (show 0 < d * (y.q * y.q) from Rat.mul_pos hr (Rat.mul_pos e e))
        have t2 := Rat.mul_nonneg nx (Rat.le_of_lt (show 0 < -y.N by grind))
        unfold Q2.N at *
        grind
      have := (lt_of_sq bq key).1
      grind
/-- one more than what is above nought -/
theorem Q2.pos_one_add [R : Root d] {z : Q2 d} (h : z.Pos) : (1 + z).Pos := by
  have hr := R.rpos
  have hq := Rat.mul_nonneg (Rat.le_of_lt hr) (sq_nn z.q)
  unfold Q2.Pos at h ⊢
  unfold Q2.N at *
  rw [Q2.add_p, Q2.add_q, Q2.one_p, Q2.one_q]
  rcases h with ⟨a, b⟩ | ⟨a, b⟩
  · left
    have := Rat.mul_pos b b
    constructor <;> grind
  · have e : (0 : Rat) + z.q = z.q := by grind
    rw [e]
    by_cases hs : 0 < (1 + z.p) * (1 + z.p) - d * (z.q * z.q)
    · left
      refine ⟨hs, ?_⟩
      rcases rlt_or 0 (1 + z.p) with g | g
      · exact g
      · have := Rat.mul_nonneg (show 0 ≤ -(1 + z.p) by grind) (show 0 ≤ -(1 + z.p) by grind)
        have := Rat.mul_nonneg (show 0 ≤ -(1 + z.p) by grind) (show 0 ≤ 1 - z.p by grind)
        grind
    · right
      refine ⟨?_, b⟩
      have hne : (1 + z.p) * (1 + z.p) - d * (z.q * z.q) ≠ 0 := fun e2 => by
        have := Root.ratirr (d := d) (1 + z.p) z.q (by grind)
        grind
      grind
end

section
variable {d : Int}
/-- the mate -/
def Q2.conj (x : Q2 d) : Q2 d := ⟨x.p, -x.q⟩
instance : Inv (Q2 d) := ⟨fun x => ⟨x.p / x.N, -x.q / x.N⟩⟩
instance : Div (Q2 d) := ⟨fun x y => x * y⁻¹⟩
theorem Q2.inv_p (x : Q2 d) : (x⁻¹).p = x.p / x.N := rfl
theorem Q2.inv_q (x : Q2 d) : (x⁻¹).q = -x.q / x.N := rfl
theorem Q2.mul_inv [Root d] {x : Q2 d} (h : x ≠ 0) : x * x⁻¹ = 1 := by
  have hn : x.N ≠ 0 := fun e => h (Q2.N0 e)
  ext
  · rw [Q2.mul_p, Q2.inv_p, Q2.inv_q, Q2.one_p]
    have e : x.N = x.p * x.p - d * (x.q * x.q) := rfl
    generalize x.N = n at *
    grind
  · rw [Q2.mul_q, Q2.inv_p, Q2.inv_q, Q2.one_q]
    generalize x.N = n at *
    grind
def Q2.zpow (x : Q2 d) : Int → Q2 d
  | .ofNat n => x.npow n
  | .negSucc n => (x.npow (n + 1))⁻¹
instance : HPow (Q2 d) Int (Q2 d) := ⟨Q2.zpow⟩
theorem Q2.inv0 : (0 : Q2 d)⁻¹ = 0 := by
  ext
  · rw [Q2.inv_p, Q2.zero_p]; grind
  · rw [Q2.inv_q, Q2.zero_q]; grind
theorem Q2.conj_mul (x y : Q2 d) : (x * y).conj = x.conj * y.conj := by
  ext
  · show (x * y).p = (x.conj * y.conj).p
    rw [Q2.mul_p, Q2.mul_p]; simp only [Q2.conj]; grind
  · show -(x * y).q = (x.conj * y.conj).q
    rw [Q2.mul_q, Q2.mul_q]; simp only [Q2.conj]; grind
theorem Q2.conj_add (x y : Q2 d) : (x + y).conj = x.conj + y.conj := by
  ext
  · rfl
  · show -(x.q + y.q) = -x.q + -y.q
    grind
theorem Q2.conj_neg (x : Q2 d) : (-x).conj = -x.conj := by
  ext <;> rfl
theorem Q2.conj_conj (x : Q2 d) : x.conj.conj = x := by
  ext
  · rfl
  · show - -x.q = x.q
    grind
theorem Q2.inv_inv' [Root d] (x : Q2 d) : x⁻¹⁻¹ = x := by
  by_cases h : x = 0
  · subst h; rw [Q2.inv0, Q2.inv0]
  · have h1 := Q2.mul_inv h
    have hi : x⁻¹ ≠ 0 := fun e => by
      rw [e] at h1
      have := congrArg Q2.p h1
      rw [Q2.mul_p, Q2.zero_p, Q2.zero_q, Q2.one_p] at this
      grind
    have h2 := Q2.mul_inv hi
    calc x⁻¹⁻¹ = (x * x⁻¹) * x⁻¹⁻¹ := by rw [h1]; grind
      _ = x * (x⁻¹ * x⁻¹⁻¹) := by grind
      _ = x := by rw [h2]; grind
instance [Root d] : Lean.Grind.Field (Q2 d) where
  div_eq_mul_inv a b := rfl
  zero_ne_one := fun e => by
    have := congrArg Q2.p e
    rw [Q2.zero_p, Q2.one_p] at this
    grind
  inv_zero := Q2.inv0
  mul_inv_cancel := Q2.mul_inv
  zpow_zero a := rfl
  zpow_succ a n := rfl
  zpow_neg a n := by
    cases n with
    | ofNat n =>
      cases n with
      | zero =>
        show (1 : Q2 d) = (1 : Q2 d)⁻¹
        have h1 : (1 : Q2 d) ≠ 0 := fun e => by
          have := congrArg Q2.p e
          rw [Q2.zero_p, Q2.one_p] at this
          grind
        have := Q2.mul_inv h1
        calc (1 : Q2 d) = 1 * (1 : Q2 d)⁻¹ := this.symm
          _ = (1 : Q2 d)⁻¹ := by grind
      | succ n => rfl
    | negSucc n =>
      show a.npow (n + 1) = ((a.npow (n + 1))⁻¹)⁻¹
      rw [Q2.inv_inv']
instance : LE (Q2 d) := ⟨fun x y => y - x = 0 ∨ (y - x).Pos⟩
instance : LT (Q2 d) := ⟨fun x y => (y - x).Pos⟩
theorem Q2.lt_def (x y : Q2 d) : x < y ↔ (y - x).Pos := Iff.rfl
theorem Q2.le_def (x y : Q2 d) : x ≤ y ↔ (y - x = 0 ∨ (y - x).Pos) := Iff.rfl
theorem Q2.pos_add [R : Root d] {x y : Q2 d} (hx : x.Pos) (hy : y.Pos) : (x + y).Pos := by
  have h0 : x ≠ 0 := fun e => by rw [e] at hx; exact Q2.zero_not_pos hx
  have e1 := Lean.Grind.Field.mul_inv_cancel h0
  have hi : (x⁻¹).Pos := by
    rcases Q2.tri x⁻¹ with z | z | z
    · rw [z] at e1
      have := congrArg Q2.p e1
      rw [Q2.mul_p, Q2.zero_p, Q2.zero_q, Q2.one_p] at this
      grind
    · exact z
    · have := Q2.pos_mul hx z
      have e2 : x * -x⁻¹ = -1 := by rw [← e1]; grind
      rw [e2] at this
      exfalso
      have o : (1 : Q2 d).Pos := by
        left
        unfold Q2.N
        rw [Q2.one_p, Q2.one_q]
        grind
      exact Q2.not_both 1 o this
  have k := Q2.pos_mul hx (Q2.pos_one_add (Q2.pos_mul hi hy))
  have e3 : x * (1 + x⁻¹ * y) = x + y := by
    calc x * (1 + x⁻¹ * y) = x + (x * x⁻¹) * y := by grind
      _ = x + y := by rw [e1]; grind
  rw [e3] at k
  exact k
instance [Root d] : Std.IsLinearOrder (Q2 d) where
  le_refl a := .inl (by grind)
  le_trans a b c h k := by
    rcases h with h | h <;> rcases k with k | k
    · left; grind
    · right
      have : c - a = c - b := by grind
      rw [this]; exact k
    · right
      have : c - a = b - a := by grind
      rw [this]; exact h
    · right
      have : c - a = (b - a) + (c - b) := by grind
      rw [this]; exact Q2.pos_add h k
  le_antisymm a b h k := by
    rcases h with h | h
    · grind
    · rcases k with k | k
      · grind
      · exfalso
        have : a - b = -(b - a) := by grind
        rw [this] at k
        exact Q2.not_both _ h k
  le_total a b := by
    rcases Q2.tri (b - a) with z | z | z
    · exact .inl (.inl z)
    · exact .inl (.inr z)
    · refine .inr (.inr ?_)
      have : a - b = -(b - a) := by grind
      rw [this]; exact z
instance [Root d] : Std.LawfulOrderLT (Q2 d) where
  lt_iff a b := by
    constructor
    · intro h
      refine ⟨.inr h, fun k => ?_⟩
      rcases k with k | k
      · have : b - a = 0 := by grind
        rw [Q2.lt_def, this] at h
        exact Q2.zero_not_pos h
      · have : a - b = -(b - a) := by grind
        rw [this] at k
        exact Q2.not_both _ h k
    · intro ⟨h, k⟩
      rcases h with h | h
      · exact absurd (.inl (by grind)) k
      · exact h
instance [Root d] : Lean.Grind.OrderedRing (Q2 d) where
  add_le_left_iff {a b} c := by
    rw [Q2.le_def, Q2.le_def]
    have : b + c - (a + c) = b - a := by grind
    rw [this]
  zero_lt_one := by
    rw [Q2.lt_def]
    left
    unfold Q2.N
    rw [Q2.sub_p, Q2.sub_q, Q2.one_p, Q2.one_q, Q2.zero_p, Q2.zero_q]
    grind
  mul_lt_mul_of_pos_left {a b c} h k := by
    rw [Q2.lt_def] at h k ⊢
    have e1 : c - 0 = c := by grind
    rw [e1] at k
    have := Q2.pos_mul k h
    have e : c * b - c * a = c * (b - a) := by grind
    rw [e]; exact this
  mul_lt_mul_of_pos_right {a b c} h k := by
    rw [Q2.lt_def] at h k ⊢
    have e1 : c - 0 = c := by grind
    rw [e1] at k
    have := Q2.pos_mul k h
    have e : b * c - a * c = c * (b - a) := by grind
    rw [e]; exact this
theorem Q2.mul_pos [Root d] {x y : Q2 d} (h : 0 < x) (k : 0 < y) : 0 < x * y := by
  have := Lean.Grind.OrderedRing.mul_lt_mul_of_pos_left h k
  have e : y * (0 : Q2 d) = 0 := by grind
  have e2 : y * x = x * y := by grind
  rw [e, e2] at this
  exact this
example [Root d] (x y z : Q2 d) (h : x < y) (k : y ≤ z) : x + 1 < z + 2 := by grind
example [Root d] (x y : Q2 d) (h : x ≠ 0) : x * y / x = y := by grind
end

/-! ## What a number stands for -/
section
variable {d : Int}
def val (d : Int) (x : T3) : Q2 d := ⟨x.1 / x.2.2, x.2.1 / x.2.2⟩
theorem ic_ne {c : Int} (h : c ≠ 0) : (c : Rat) ≠ 0 := fun e => h (Rat.intCast_eq_zero_iff.mp e)
theorem val_low {a b c : Int} (h : c ≠ 0) : val d (low a b c) = ⟨a / c, b / c⟩ := by
  have gp := gcd3_pos (a := a) (b := b) h
  have hg : gcd3 a b c * sg c ≠ 0 := Int.mul_ne_zero (Int.ne_of_gt gp) (sg_ne c)
  obtain ⟨a', ha⟩ := dvd_sg (c := c) (gcd3_a a b c)
  obtain ⟨b', hb⟩ := dvd_sg (c := c) (gcd3_b a b c)
  obtain ⟨c', hc⟩ := dvd_sg (c := c) (gcd3_c a b c)
  have key : ∀ x y : Int, x = gcd3 a b c * sg c * y → x / (gcd3 a b c * sg c) = y := fun x y e => by
    rw [e, Int.mul_ediv_cancel_left _ hg]
  have e1 := key a a' ha
  have e2 := key b b' hb
  have e3 := key c c' hc
  have c0 : c' ≠ 0 := fun z => by rw [z, Int.mul_zero] at hc; exact h hc
  have q0 := ic_ne c0
  have qg := ic_ne hg
  have qc := ic_ne h
  have r1 : (a : Rat) = ((gcd3 a b c * sg c : Int) : Rat) * a' := by rw [← Rat.intCast_mul, ← ha]
  have r2 : (b : Rat) = ((gcd3 a b c * sg c : Int) : Rat) * b' := by rw [← Rat.intCast_mul, ← hb]
  have r3 : (c : Rat) = ((gcd3 a b c * sg c : Int) : Rat) * c' := by rw [← Rat.intCast_mul, ← hc]
  ext
  · show ((a / (gcd3 a b c * sg c) : Int) : Rat) / ((c / (gcd3 a b c * sg c) : Int) : Rat) = _
    rw [e1, e3]
    show _ = (a : Rat) / c
    rw [r1, r3] at *
    grind
  · show ((b / (gcd3 a b c * sg c) : Int) : Rat) / ((c / (gcd3 a b c * sg c) : Int) : Rat) = _
    rw [e2, e3]
    show _ = (b : Rat) / c
    rw [r2, r3] at *
    grind
theorem val_plus {x y : T3} (hx : 0 < x.2.2) (hy : 0 < y.2.2) : val d (nplus x y) = val d x + val d y := by
  have h1 := ic_ne (Int.ne_of_gt hx)
  have h2 := ic_ne (Int.ne_of_gt hy)
  unfold nplus
  rw [val_low (Int.ne_of_gt (Int.mul_pos hx hy))]
  ext
  · rw [Q2.add_p]
    simp only [val, Rat.intCast_mul, Rat.intCast_add]
    grind
  · rw [Q2.add_q]
    simp only [val, Rat.intCast_mul, Rat.intCast_add]
    grind
theorem val_times {x y : T3} (hx : 0 < x.2.2) (hy : 0 < y.2.2) : val d (ntimes d x y) = val d x * val d y := by
  have h1 := ic_ne (Int.ne_of_gt hx)
  have h2 := ic_ne (Int.ne_of_gt hy)
  unfold ntimes
  rw [val_low (Int.ne_of_gt (Int.mul_pos hx hy))]
  ext
  · rw [Q2.mul_p]
    simp only [val, Rat.intCast_mul, Rat.intCast_add]
    grind
  · rw [Q2.mul_q]
    simp only [val, Rat.intCast_mul, Rat.intCast_add]
    grind
theorem val_neg (x : T3) : val d (nneg x) = -val d x := by
  ext
  · rw [Q2.neg_p]
    simp only [val, nneg, Rat.intCast_sub, Rat.intCast_zero]
    grind
  · rw [Q2.neg_q]
    simp only [val, nneg, Rat.intCast_sub, Rat.intCast_zero]
    grind
theorem val_mate (x : T3) : val d (nmate x) = (val d x).conj := by
  ext
  · rfl
  · show ((0 - x.2.1 : Int) : Rat) / _ = -((x.2.1 : Rat) / _)
    simp only [nmate, Rat.intCast_sub, Rat.intCast_zero]
    grind
theorem isn_low {a b c : Int} (h : c ≠ 0) : IsN (low a b c) := low_isN h
theorem isn_plus {x y : T3} (hx : 0 < x.2.2) (hy : 0 < y.2.2) : IsN (nplus x y) := low_isN (Int.ne_of_gt (Int.mul_pos hx hy))
theorem isn_times {x y : T3} (hx : 0 < x.2.2) (hy : 0 < y.2.2) : IsN (ntimes d x y) := low_isN (Int.ne_of_gt (Int.mul_pos hx hy))
theorem gcd3_abs {a b c a' b' c' : Int} (h1 : a.natAbs = a'.natAbs) (h2 : b.natAbs = b'.natAbs) (h3 : c.natAbs = c'.natAbs) : gcd3 a b c = gcd3 a' b' c' := by
  unfold gcd3
  simp only [Int.gcd, h1, h2, h3]
theorem isn_neg {x : T3} (h : IsN x) : IsN (nneg x) := by
  refine ⟨h.pos, ?_⟩
  have := h.low
  rw [← this]
  exact gcd3_abs (by simp [nneg]) (by simp [nneg]) rfl
theorem isn_mate {x : T3} (h : IsN x) : IsN (nmate x) := by
  refine ⟨h.pos, ?_⟩
  have := h.low
  rw [← this]
  exact gcd3_abs rfl (by simp [nmate]) rfl
theorem val_inj {x y : T3} (hx : IsN x) (hy : IsN y) (h : val d x = val d y) : x = y := by
  have h1 := ic_ne (Int.ne_of_gt hx.pos)
  have h2 := ic_ne (Int.ne_of_gt hy.pos)
  have e1 := congrArg Q2.p h
  have e2 := congrArg Q2.q h
  simp only [val] at e1 e2
  have f1 : y.2.2 * x.1 = x.2.2 * y.1 := by
    refine Rat.intCast_inj.mp ?_
    simp only [Rat.intCast_mul]
    grind
  have f2 : y.2.2 * x.2.1 = x.2.2 * y.2.1 := by
    refine Rat.intCast_inj.mp ?_
    simp only [Rat.intCast_mul]
    grind
  have g1 := gcd3_mul (a := x.1) (b := x.2.1) (c := x.2.2) (Int.le_of_lt hy.pos)
  have g2 := gcd3_mul (a := y.1) (b := y.2.1) (c := y.2.2) (Int.le_of_lt hx.pos)
  rw [hx.low, Int.mul_one, f1, f2, Int.mul_comm y.2.2 x.2.2, g2, hy.low, Int.mul_one] at g1
  have p := hx.pos
  obtain ⟨a, b, c⟩ := x
  obtain ⟨a', b', c'⟩ := y
  simp only at g1 f1 f2 p
  subst g1
  have c0 : c ≠ 0 := Int.ne_of_gt p
  rw [Int.eq_of_mul_eq_mul_left c0 f1, Int.eq_of_mul_eq_mul_left c0 f2]
/-! signs -/
/-- the sign of a value, as a number -/
noncomputable def vsgn [Root d] (v : Q2 d) : Int := open Classical in if 0 < v then 1 else if v < 0 then -1 else 0
theorem vsgn_pos [Root d] {v : Q2 d} (h : 0 < v) : vsgn v = 1 := by unfold vsgn; rw [if_pos h]
theorem vsgn_neg [Root d] {v : Q2 d} (h : v < 0) : vsgn v = -1 := by
  unfold vsgn; rw [if_neg (by grind), if_pos h]
theorem vsgn_zero [Root d] : vsgn (0 : Q2 d) = 0 := by
  unfold vsgn; rw [if_neg (by grind), if_neg (by grind)]
theorem vsgn_cases [Root d] (v : Q2 d) : (0 < v ∧ vsgn v = 1) ∨ (v = 0 ∧ vsgn v = 0) ∨ (v < 0 ∧ vsgn v = -1) := by
  rcases (show 0 < v ∨ v = 0 ∨ v < 0 by grind) with h | h | h
  · exact .inl ⟨h, vsgn_pos h⟩
  · subst h; exact .inr (.inl ⟨rfl, vsgn_zero⟩)
  · exact .inr (.inr ⟨h, vsgn_neg h⟩)
theorem vsgn_mul [Root d] (v w : Q2 d) : vsgn (v * w) = vsgn v * vsgn w := by
  rcases vsgn_cases v with ⟨h, e⟩ | ⟨h, e⟩ | ⟨h, e⟩ <;> rcases vsgn_cases w with ⟨k, f⟩ | ⟨k, f⟩ | ⟨k, f⟩ <;> rw [e, f]
  · exact vsgn_pos (Q2.mul_pos h k)
  · rw [k, show v * (0 : Q2 d) = 0 by grind]; exact vsgn_zero
  · have := Q2.mul_pos h (show 0 < -w by grind)
    exact vsgn_neg (by grind)
  · rw [h, show (0 : Q2 d) * w = 0 by grind]; exact vsgn_zero
  · rw [h, show (0 : Q2 d) * w = 0 by grind]; exact vsgn_zero
  · rw [h, show (0 : Q2 d) * w = 0 by grind]; exact vsgn_zero
  · have := Q2.mul_pos (show 0 < -v by grind) k
    exact vsgn_neg (by grind)
  · rw [k, show v * (0 : Q2 d) = 0 by grind]; exact vsgn_zero
  · have := Q2.mul_pos (show 0 < -v by grind) (show 0 < -w by grind)
    exact vsgn_pos (by grind)
theorem vsgn_negv [Root d] (v : Q2 d) : vsgn (-v) = -vsgn v := by
  rcases vsgn_cases v with ⟨h, e⟩ | ⟨h, e⟩ | ⟨h, e⟩ <;> rw [e]
  · exact vsgn_neg (by grind)
  · rw [h, show -(0 : Q2 d) = 0 by grind]; exact vsgn_zero
  · exact vsgn_pos (by grind)
theorem Q2.pos_iff (v : Q2 d) : 0 < v ↔ v.Pos := by
  rw [Q2.lt_def]
  have : v - 0 = v := by grind
  rw [this]
theorem isq_pos {a : Int} (h : a ≠ 0) : 0 < a * a := by
  rcases Int.lt_or_lt_of_ne h with z | z
  · exact Int.mul_pos_of_neg_of_neg z z
  · exact Int.mul_pos z z
theorem isq_nn (a : Int) : 0 ≤ a * a := by
  by_cases h : a = 0
  · rw [h]; decide
  · exact Int.le_of_lt (isq_pos h)
theorem rdiv_pos {r s : Rat} (h : 0 < s) : 0 < r / s ↔ 0 < r := by
  have hs : s ≠ 0 := by grind
  constructor
  · intro k
    have e : r / s * s = r := by grind
    have := Rat.mul_pos k h
    rw [e] at this
    exact this
  · intro k
    rw [Rat.div_def]
    exact Rat.mul_pos k (Rat.inv_pos.mpr h)
/-- the numbers' sign by whole numbers -/
theorem nsign_pos_iff [R : Root d] {a b c : Int} (hc : 0 < c) : 0 < val d (a, b, c) ↔ 0 < a * a.natAbs + d * b * b.natAbs := by
  have hcr : (0 : Rat) < c := Rat.intCast_pos.mpr hc
  have hn : (c : Rat) ≠ 0 := ic_ne (Int.ne_of_gt hc)
  have hcc := Rat.mul_pos hcr hcr
  rw [Q2.pos_iff]
  unfold Q2.Pos Q2.N val
  simp only
  have e1 : (a : Rat) / c * (a / c) - d * ((b : Rat) / c * (b / c)) = ((a * a - d * (b * b) : Int) : Rat) / (c * c) := by
    simp only [Rat.intCast_sub, Rat.intCast_mul]
    grind
  have pd : ∀ i : Int, (0 : Rat) < (i : Rat) / (c * c) ↔ 0 < i := fun i => by
    rw [rdiv_pos hcc, Rat.intCast_pos]
  have pd1 : ∀ i : Int, (0 : Rat) < (i : Rat) / c ↔ 0 < i := fun i => by
    rw [rdiv_pos hcr, Rat.intCast_pos]
  have nd : ∀ i : Int, (i : Rat) / (c * c) < 0 ↔ i < 0 := fun i => by
    have := pd (-i)
    rw [Rat.intCast_neg] at this
    constructor
    · intro h
      have := this.mp (by grind)
      omega
    · intro h
      have := this.mpr (by omega)
      grind
  rw [e1, pd, pd1, nd, pd1]
  have dp := R.pos
  have hd : 0 ≤ d * (b * b) := Int.mul_nonneg (Int.le_of_lt dp) (isq_nn b)
  have ha := isq_nn a
  have h0 : a * a = d * (b * b) → b = 0 := R.irr a b
  have hd2 : b ≠ 0 → 0 < d * (b * b) := fun z => Int.mul_pos dp (isq_pos z)
  have ha2 : a ≠ 0 → 0 < a * a := isq_pos
  have fa : a * (a.natAbs : Int) = if 0 ≤ a then a * a else -(a * a) := by
    split
    · rw [show (a.natAbs : Int) = a by omega]
    · rw [show (a.natAbs : Int) = -a by omega]; grind
  have fb : d * b * (b.natAbs : Int) = if 0 ≤ b then d * (b * b) else -(d * (b * b)) := by
    split
    · rw [show (b.natAbs : Int) = b by omega]; grind
    · rw [show (b.natAbs : Int) = -b by omega]; grind
  rw [fa, fb]
  have z1 : a = 0 → a * a = 0 := fun e => by rw [e]; rfl
  have z2 : b = 0 → d * (b * b) = 0 := fun e => by rw [e]; simp
  generalize a * a = A at *
  generalize d * (b * b) = B at *
  by_cases s1 : a = 0
  · have := z1 s1
    by_cases s2 : b = 0
    · have := z2 s2
      subst s1 s2
      simp only [Int.le_refl, if_true]
      omega
    · have := hd2 s2
      subst s1
      simp only [Int.le_refl, if_true]
      split <;> omega
  · have := ha2 s1
    by_cases s2 : b = 0
    · have := z2 s2
      subst s2
      simp only [Int.le_refl, if_true]
      split <;> omega
    · have := hd2 s2
      split <;> split <;> omega
theorem nsign_val [R : Root d] {x : T3} (hx : 0 < x.2.2) : nsign d x = vsgn (val d x) := by
  obtain ⟨a, b, c⟩ := x
  have p := nsign_pos_iff (d := d) (a := a) (b := b) hx
  have q := nsign_pos_iff (d := d) (a := -a) (b := -b) hx
  have e : val d (-a, -b, c) = -val d (a, b, c) := by
    rw [← val_neg]
    unfold nneg
    simp only [Int.zero_sub]
  rw [e, Int.natAbs_neg, Int.natAbs_neg] at q
  have e2 : -a * (a.natAbs : Int) + d * -b * (b.natAbs : Int) = -(a * (a.natAbs : Int) + d * b * (b.natAbs : Int)) := by grind
  rw [e2] at q
  unfold nsign sgnI
  simp only
  rcases vsgn_cases (val d (a, b, c)) with ⟨h, e⟩ | ⟨h, e⟩ | ⟨h, e⟩ <;> rw [e]
  · rw [if_pos (p.mp h)]
  · have n1 : ¬ 0 < val d (a, b, c) := by grind
    have n2 : ¬ 0 < -val d (a, b, c) := by grind
    rw [p] at n1
    rw [q] at n2
    rw [if_neg n1, if_neg (by omega)]
  · have n2 : 0 < -val d (a, b, c) := by grind
    rw [q] at n2
    rw [if_neg (by omega), if_pos (by omega)]
end

/-! ## The greatest whole number beneath -/
section
variable {d : Int}
theorem Q2.ic_add [Root d] (i j : Int) : ((i + j : Int) : Q2 d) = (i : Q2 d) + j := by
  ext
  · rw [Q2.add_p]; simp only [Q2.ic_p, Rat.intCast_add]
  · rw [Q2.add_q]; simp only [Q2.ic_q]; grind
theorem Q2.ic_mul [Root d] (i j : Int) : ((i * j : Int) : Q2 d) = (i : Q2 d) * j := by
  ext
  · rw [Q2.mul_p]; simp only [Q2.ic_p, Q2.ic_q, Rat.intCast_mul]; grind
  · rw [Q2.mul_q]; simp only [Q2.ic_p, Q2.ic_q]; grind
theorem Q2.ic_neg [Root d] (i : Int) : ((-i : Int) : Q2 d) = -(i : Q2 d) := by
  ext
  · rw [Q2.neg_p]; simp only [Q2.ic_p, Rat.intCast_neg]
  · rw [Q2.neg_q]; simp only [Q2.ic_q]; grind
theorem Q2.ic_one [Root d] : ((1 : Int) : Q2 d) = 1 := rfl
theorem Q2.ic_zero [Root d] : ((0 : Int) : Q2 d) = 0 := rfl
theorem Q2.ic_pos [Root d] {i : Int} : (0 : Q2 d) < (i : Q2 d) ↔ 0 < i := by
  rw [Q2.pos_iff]
  unfold Q2.Pos Q2.N
  rw [Q2.ic_p, Q2.ic_q]
  constructor
  · intro h
    rcases h with h | h
    · exact Rat.intCast_pos.mp h.2
    · exact absurd h.2 (by grind)
  · intro h
    left
    have := Rat.intCast_pos.mpr h
    have h2 := Rat.mul_pos this this
    exact ⟨by grind, this⟩
theorem Q2.ic_lt [Root d] {i j : Int} : (i : Q2 d) < (j : Q2 d) ↔ i < j := by
  have h := Q2.ic_pos (d := d) (i := j - i)
  rw [show j - i = j + -i by omega, Q2.ic_add, Q2.ic_neg] at h
  constructor
  · intro k
    have := h.mp (by grind)
    omega
  · intro k
    have := h.mpr (by omega)
    grind
theorem Q2.ic_le [Root d] {i j : Int} : (i : Q2 d) ≤ (j : Q2 d) ↔ i ≤ j := by
  have h := Q2.ic_lt (d := d) (i := j) (j := i)
  constructor
  · intro k
    have : ¬ (j : Q2 d) < i := by grind
    rw [h] at this
    omega
  · intro k
    have : ¬ (j : Q2 d) < i := by rw [h]; omega
    grind
/-- k is the greatest whole number that isn't above v -/
def Fl [Root d] (v : Q2 d) (k : Int) : Prop := (k : Q2 d) ≤ v ∧ v < (k : Q2 d) + 1
theorem Fl.uniq [Root d] {v : Q2 d} {k l : Int} (h : Fl v k) (g : Fl v l) : k = l := by
  obtain ⟨a, b⟩ := h
  obtain ⟨c, e⟩ := g
  have h1 : (k : Q2 d) < ((l + 1 : Int) : Q2 d) := by rw [Q2.ic_add, Q2.ic_one]; grind
  have h2 : (l : Q2 d) < ((k + 1 : Int) : Q2 d) := by rw [Q2.ic_add, Q2.ic_one]; grind
  rw [Q2.ic_lt] at h1 h2
  omega
theorem Fl.add [Root d] {v : Q2 d} {k : Int} (h : Fl v k) (m : Int) : Fl (v + (m : Q2 d)) (k + m) := by
  obtain ⟨a, b⟩ := h
  unfold Fl
  rw [Q2.ic_add]
  constructor <;> grind
theorem val_int [Root d] (k : Int) : val d (k, 0, 1) = (k : Q2 d) := by
  ext
  · rw [Q2.ic_p]; simp only [val]; grind
  · rw [Q2.ic_q]; simp only [val]; grind
end

section
variable {d : Int}
/-- the root so many times, beneath -/
theorem fl_root [R : Root d] {b r : Int} (h0 : 0 ≤ r) (h1 : r * r ≤ d * b * b) (h2 : d * b * b < (r + 1) * (r + 1)) :
    Fl (val d (0, b, 1)) (if b < 0 then 0 - r - (if r * r < d * b * b then 1 else 0) else r) := by
  have ps : ∀ a b : Int, 0 < val d (a, b, 1) ↔ 0 < a * a.natAbs + d * b * b.natAbs := fun a b => nsign_pos_iff (by decide)
  have dp := R.pos
  have nn : ∀ a b : Int, 0 ≤ a * a.natAbs + d * b * b.natAbs → 0 ≤ val d (a, b, 1) := fun a b h => by
    have := ps (-a) (-b)
    have e : val d (-a, -b, 1) = -val d (a, b, 1) := by
      rw [← val_neg]
      unfold nneg
      simp only [Int.zero_sub]
    have e2 : -a * ((-a).natAbs : Int) + d * -b * ((-b).natAbs : Int) = -(a * (a.natAbs : Int) + d * b * (b.natAbs : Int)) := by
      rw [Int.natAbs_neg, Int.natAbs_neg]; grind
    rw [e, e2] at this
    have h3 : ¬ 0 < -val d (a, b, 1) := by rw [this]; omega
    grind
  have sp : ∀ a b c : Int, val d (a, b, 1) - (c : Q2 d) = val d (a - c, b, 1) := fun a b c => by
    ext
    · rw [Q2.sub_p, Q2.ic_p]; simp only [val, Rat.intCast_sub]; grind
    · rw [Q2.sub_q, Q2.ic_q]; simp only [val]; grind
  have np : ∀ a b c : Int, (c : Q2 d) - val d (a, b, 1) = val d (c - a, -b, 1) := fun a b c => by
    ext
    · rw [Q2.sub_p, Q2.ic_p]; simp only [val, Rat.intCast_sub]; grind
    · rw [Q2.sub_q, Q2.ic_q]; simp only [val, Rat.intCast_neg]; grind
  have fin : ∀ k : Int, 0 ≤ (0 - k) * ((0 - k).natAbs : Int) + d * b * (b.natAbs : Int) → 0 < (k + 1 - 0) * ((k + 1 - 0).natAbs : Int) + d * -b * ((-b).natAbs : Int) → Fl (val d (0, b, 1)) k := fun k g1 g2 => by
    have q1 := nn _ _ g1
    have q2 := (ps _ _).mpr g2
    rw [← sp] at q1
    rw [← np, Q2.ic_add, Q2.ic_one] at q2
    constructor <;> grind
  have e3 : d * b * b = d * (b * b) := by grind
  rw [e3] at h1 h2 ⊢
  split
  · rename_i hb
    have fb : d * b * (b.natAbs : Int) = -(d * (b * b)) := by rw [show (b.natAbs : Int) = -b by omega]; grind
    have fb2 : d * -b * ((-b).natAbs : Int) = d * (b * b) := by rw [show ((-b).natAbs : Int) = -b by omega]; grind
    split
    · rename_i hr
      refine fin _ ?_ ?_
      · rw [fb, show ((0 - (0 - r - 1)).natAbs : Int) = r + 1 by omega, show 0 - (0 - r - 1) = r + 1 by omega]
        omega
      · rw [fb2, show ((0 - r - 1 + 1 - 0).natAbs : Int) = r by omega, show 0 - r - 1 + 1 - 0 = -r by omega]
        have : -r * r = -(r * r) := by grind
        omega
    · rename_i hr
      refine fin _ ?_ ?_
      · rw [fb, show ((0 - (0 - r - 0)).natAbs : Int) = r by omega, show 0 - (0 - r - 0) = r by omega]
        omega
      · rw [fb2]
        rcases (show r = 0 ∨ 1 ≤ r by omega) with h | h
        · subst h
          have hb2 := Int.mul_pos dp (isq_pos (show b ≠ 0 by omega))
          have : (0 - 0 - 0 + 1 - 0 : Int) * ((0 - 0 - 0 + 1 - 0 : Int).natAbs : Int) = 1 := by decide
          omega
        · rw [show ((0 - r - 0 + 1 - 0).natAbs : Int) = r - 1 by omega, show 0 - r - 0 + 1 - 0 = -(r - 1) by omega]
          have : -(r - 1) * (r - 1) = -(r * r) + 2 * r - 1 := by grind
          omega
  · rename_i hb
    have fb : d * b * (b.natAbs : Int) = d * (b * b) := by rw [show (b.natAbs : Int) = b by omega]; grind
    have fb2 : d * -b * ((-b).natAbs : Int) = -(d * (b * b)) := by rw [show ((-b).natAbs : Int) = b by omega]; grind
    refine fin _ ?_ ?_
    · rw [fb, show ((0 - r).natAbs : Int) = r by omega]
      have : (0 - r) * r = -(r * r) := by grind
      omega
    · rw [fb2, show ((r + 1 - 0).natAbs : Int) = r + 1 by omega, show r + 1 - 0 = r + 1 by omega]
      omega
/-- of a fraction -/
theorem fl_div [R : Root d] {a b c w : Int} (hc : 0 < c) (h : Fl (val d (0, b, 1)) w) : Fl (val d (a, b, c)) ((a + w).fdiv c) := by
  obtain ⟨h1, h2⟩ := h
  have hcq : (0 : Q2 d) < (c : Q2 d) := Q2.ic_pos.mpr hc
  have hn := ic_ne (Int.ne_of_gt hc)
  have e : val d (a, b, c) * (c : Q2 d) = (a : Q2 d) + val d (0, b, 1) := by
    ext
    · rw [Q2.mul_p, Q2.add_p, Q2.ic_p, Q2.ic_q, Q2.ic_p]; simp only [val]; grind
    · rw [Q2.mul_q, Q2.add_q, Q2.ic_p, Q2.ic_q, Q2.ic_q]; simp only [val]; grind
  have ef : (a + w).fdiv c = (a + w) / c := Int.fdiv_eq_ediv_of_nonneg _ (Int.le_of_lt hc)
  rw [ef]
  have q1 : (a + w) / c * c ≤ a + w := Int.ediv_mul_le _ (Int.ne_of_gt hc)
  have q2 : a + w + 1 ≤ ((a + w) / c + 1) * c := by
    have := Int.lt_ediv_add_one_mul_self (a + w) hc
    omega
  generalize (a + w) / c = k at *
  have r1 := (Q2.ic_le (d := d)).mpr q1
  have r2 := (Q2.ic_le (d := d)).mpr q2
  rw [Q2.ic_mul, Q2.ic_add] at r1
  rw [Q2.ic_mul, Q2.ic_add, Q2.ic_add, Q2.ic_add, Q2.ic_one] at r2
  constructor
  · rcases (show (k : Q2 d) ≤ val d (a, b, c) ∨ 0 < (k : Q2 d) - val d (a, b, c) by grind) with z | z
    · exact z
    · have := Q2.mul_pos z hcq
      have e4 : ((k : Q2 d) - val d (a, b, c)) * (c : Q2 d) = (k : Q2 d) * c - val d (a, b, c) * c := by grind
      rw [e4, e] at this
      exfalso
      grind
  · rcases (show val d (a, b, c) < (k : Q2 d) + 1 ∨ 0 ≤ val d (a, b, c) - ((k : Q2 d) + 1) by grind) with z | z
    · exact z
    · have e4 : (val d (a, b, c) - ((k : Q2 d) + 1)) * (c : Q2 d) = val d (a, b, c) * c - ((k : Q2 d) + 1) * c := by grind
      rcases (show val d (a, b, c) - ((k : Q2 d) + 1) = 0 ∨ 0 < val d (a, b, c) - ((k : Q2 d) + 1) by grind) with y | y
      · rw [y, e] at e4
        have : (0 : Q2 d) * (c : Q2 d) = 0 := by grind
        rw [this] at e4
        exfalso
        grind
      · have := Q2.mul_pos y hcq
        rw [e4, e] at this
        exfalso
        grind
end

/-! ## Numbers by what they stand for -/
structure V {d : Int} (s : Nat) (v : Q2 d) (x : T3) : Prop where
  n : IsN x
  z : Sz s x
  e : val d x = v
section
variable {d : Int} {s t : Nat} {v w : Q2 d} {x y : T3}
theorem V.of (h : Nm s x) : V s (val d x) x := ⟨h.n, h.z, rfl⟩
theorem V.nm (h : V s v x) : Nm s x := ⟨h.n, h.z⟩
theorem V.mono (h : V s v x) (l : s ≤ t) : V t v x := ⟨h.n, h.z.mono l, h.e⟩
theorem V.to (h : V s v x) (e : v = w) : V s w x := e ▸ h
theorem V.pos (h : V s v x) : 0 < x.2.2 := h.n.pos
theorem V.uniq (h : V s v x) (g : V t v y) : x = y := val_inj h.n g.n (h.e.trans g.e.symm)
theorem V.plus (h : V s v x) (g : V t w y) : V (s + t + 1) (v + w) (nplus x y) := ⟨isn_plus h.pos g.pos, h.z.plus g.z, by rw [val_plus h.pos g.pos, h.e, g.e]⟩
theorem V.neg (h : V s v x) : V s (-v) (nneg x) := ⟨isn_neg h.n, h.z.neg, by rw [val_neg, h.e]⟩
theorem V.mate (h : V s v x) : V s v.conj (nmate x) := ⟨isn_mate h.n, h.z.mate, by rw [val_mate, h.e]⟩
theorem V.times (hd : Bd 5 d) (h : V s v x) (g : V t w y) : V (s + t + 6) (v * w) (ntimes d x y) := ⟨isn_times h.pos g.pos, (Sz.times hd h.z g.z).mono (by omega), by rw [val_times h.pos g.pos, h.e, g.e]⟩
theorem V.sign [Root d] (h : V s v x) : nsign d x = vsgn v := by rw [nsign_val h.pos, h.e]
theorem V.int [Root d] (k : Int) (hk : Bd s k) (hs : 1 ≤ s) : V s ((k : Int) : Q2 d) (k, 0, 1) := by
  refine ⟨⟨show (0 : Int) < 1 by decide, ?_⟩, ⟨hk, ⟨by show (0 : Int).natAbs < _; exact Nat.pow_pos (by decide)⟩, ⟨?_⟩⟩, val_int k⟩
  · show gcd3 k 0 1 = 1
    unfold gcd3
    rw [Int.gcd_one_right]
    rfl
  · show (1 : Int).natAbs < _
    exact Nat.lt_of_lt_of_le (show (1 : Int).natAbs < 2 ^ 1 by decide) (Nat.pow_le_pow_right (by decide) hs)
theorem V.ne0 [Root d] (h : V s v x) (hv : v ≠ 0) : x.1 ≠ 0 ∨ x.2.1 ≠ 0 := by
  by_cases a : x.1 = 0
  · by_cases b : x.2.1 = 0
    · exfalso
      apply hv
      rw [← h.e]
      ext
      · rw [Q2.zero_p]; simp only [val, a]; grind
      · rw [Q2.zero_q]; simp only [val, b]; grind
    · exact .inr b
  · exact .inl a
/-- one over a number -/
def ninv (d : Int) (x : T3) : T3 := low (x.1 * x.2.2) (0 - x.2.1 * x.2.2) (x.1 * x.1 - d * x.2.1 * x.2.1)
theorem norm_ne [R : Root d] (h : V s v x) (hv : v ≠ 0) : x.1 * x.1 - d * x.2.1 * x.2.1 ≠ 0 := by
  intro e
  have e2 : x.1 * x.1 = d * (x.2.1 * x.2.1) := by grind
  have b := R.irr _ _ e2
  rw [b] at e2
  have a : x.1 = 0 := by
    by_cases z : x.1 = 0
    · exact z
    · have := isq_pos z
      rw [e2] at this
      simp at this
  rcases h.ne0 hv with z | z
  · exact z a
  · exact z b
theorem V.inv [R : Root d] (hd : Bd 5 d) (h : V s v x) (hv : v ≠ 0) : V (s + s + 6) v⁻¹ (ninv d x) := by
  have hn := norm_ne h hv
  have b1 := h.z.a.mul h.z.c
  have b2 := (h.z.b.mul h.z.c).neg0
  have b3 := Bd.sub (u := s + s + 6) (h.z.a.mul h.z.a) ((hd.mul h.z.b).mul h.z.b) (by omega) (by omega)
  refine ⟨low_isN hn, low_sz (b1.mono (by omega)) (b2.mono (by omega)) b3, ?_⟩
  unfold ninv
  rw [val_low hn, ← h.e]
  have hc := ic_ne (Int.ne_of_gt h.pos)
  have hr := ic_ne hn
  have hN : (val d x).N = ((x.1 * x.1 - d * x.2.1 * x.2.1 : Int) : Rat) / (x.2.2 * x.2.2) := by
    unfold Q2.N val
    simp only [Rat.intCast_sub, Rat.intCast_mul]
    grind
  ext
  · rw [Q2.inv_p, hN]
    show ((x.1 * x.2.2 : Int) : Rat) / _ = (x.1 : Rat) / x.2.2 / _
    rw [Rat.intCast_mul]
    generalize ((x.1 * x.1 - d * x.2.1 * x.2.1 : Int) : Rat) = n at *
    grind
  · rw [Q2.inv_q, hN]
    show ((0 - x.2.1 * x.2.2 : Int) : Rat) / _ = -((x.2.1 : Rat) / x.2.2) / _
    rw [Rat.intCast_sub, Rat.intCast_mul, Rat.intCast_zero]
    generalize ((x.1 * x.1 - d * x.2.1 * x.2.1 : Int) : Rat) = n at *
    grind
end
/-! what is a number -/
def isWholeD : D → Bool
  | .int _ => true
  | _ => false
def isNumD : D → Bool
  | .tup [.int a, .int b, .int c] => decide (1 ≤ c) && (gcd3 a b c == 1)
  | _ => false
theorem isNumD_nd {x : T3} (h : IsN x) : isNumD (nd x) = true := by
  show (decide (1 ≤ x.2.2) && (gcd3 x.1 x.2.1 x.2.2 == 1)) = true
  rw [h.low, decide_eq_true (show 1 ≤ x.2.2 from h.pos)]
  rfl
/-- data in the plain sense -/
def Plain : D → Prop
  | .ref _ => False
  | .fix _ => False
  | _ => True
theorem isi_plain {M : Mem} {t : Ty} {x : D} (h : Plain x) : ∃ b, isiE M t x = some b := by
  cases x <;> first | exact ⟨_, rfl⟩ | exact absurd h id

/-! ### more of the field -/
section
variable {d : Int} [R : Root d]
theorem Q2.inv_pos {v : Q2 d} (h : 0 < v) : 0 < v⁻¹ := by
  have e : v * v⁻¹ = 1 := Lean.Grind.Field.mul_inv_cancel (by grind)
  rcases (show 0 < v⁻¹ ∨ v⁻¹ = 0 ∨ v⁻¹ < 0 by grind) with k | k | k
  · exact k
  · rw [k] at e; exfalso; grind
  · have := Q2.mul_pos h (show 0 < -v⁻¹ by grind)
    exfalso; grind
theorem Q2.pos_of_mul {a b : Q2 d} (h : 0 < a * b) (ha : 0 < a) : 0 < b := by
  rcases (show 0 < b ∨ b = 0 ∨ b < 0 by grind) with k | k | k
  · exact k
  · rw [k] at h; exfalso; grind
  · have := Q2.mul_pos ha (show 0 < -b by grind)
    exfalso; grind
theorem Q2.neg_of_mul {a b : Q2 d} (h : a * b < 0) (ha : 0 < a) : b < 0 := by
  have := Q2.pos_of_mul (show 0 < a * (-b) by grind) ha
  grind
theorem Q2.conj_N (v : Q2 d) : v.conj.N = v.N := by
  unfold Q2.N Q2.conj
  simp only
  grind
theorem Q2.conj_inv (v : Q2 d) : (v⁻¹).conj = (v.conj)⁻¹ := by
  ext
  · show v.p / v.N = v.p / v.conj.N
    rw [Q2.conj_N]
  · show -(-v.q / v.N) = -(-v.q) / v.conj.N
    rw [Q2.conj_N]
    generalize v.N = n
    grind
/-- between -/
structure Btw (a b x : Q2 d) : Prop where
  e : a = b → x = a
  u : a < b → a < x ∧ x < b
  o : b < a → b < x ∧ x < a
theorem Btw.of {a b r : Q2 d} (h0 : 0 < r) (h1 : r < 1) : Btw a b (a + (b - a) * r) := by
  refine ⟨fun h => ?_, fun h => ?_, fun h => ?_⟩
  · rw [h]; grind
  · have e1 := Q2.mul_pos (show 0 < b - a by grind) h0
    have e2 := Q2.mul_pos (show 0 < b - a by grind) (show 0 < 1 - r by grind)
    constructor <;> grind
  · have e1 := Q2.mul_pos (show 0 < a - b by grind) h0
    have e2 := Q2.mul_pos (show 0 < a - b by grind) (show 0 < 1 - r by grind)
    constructor <;> grind
noncomputable def qlt (v w : Q2 d) : Bool := open Classical in decide (v < w)
theorem qlt_t {v w : Q2 d} (h : v < w) : qlt v w = true := by unfold qlt; exact @decide_eq_true _ (Classical.propDecidable _) h
theorem qlt_f {v w : Q2 d} (h : ¬ v < w) : qlt v w = false := by unfold qlt; exact @decide_eq_false _ (Classical.propDecidable _) h
theorem qlt_iff {v w : Q2 d} : qlt v w = true ↔ v < w := by
  constructor
  · intro h
    by_cases k : v < w
    · exact k
    · rw [qlt_f k] at h; cases h
  · exact qlt_t
theorem val_frac_pos {a c : Int} (ha : 0 < a) (hc : 0 < c) : 0 < val d (low a 0 c) := by
  rw [val_low (Int.ne_of_gt hc), Q2.pos_iff]
  have h := (rdiv_pos (r := (a : Rat)) (Rat.intCast_pos.mpr hc)).mpr (Rat.intCast_pos.mpr ha)
  left
  refine ⟨?_, h⟩
  have h2 := Rat.mul_pos h h
  unfold Q2.N
  simp only
  have e : ((0 : Int) : Rat) / (c : Rat) = 0 := by
    rw [show ((0 : Int) : Rat) = 0 from rfl]; grind
  rw [e]
  grind
theorem sign_lt {s t : Nat} {v w : Q2 d} {x y : T3} (h : V s v x) (g : V t w y) : decide (0 < nsign d (nplus y (nneg x))) = qlt v w := by
  rw [(g.plus h.neg).sign]
  by_cases k : v < w
  · rw [qlt_t k, vsgn_pos (by grind)]; rfl
  · rw [qlt_f k]
    rcases vsgn_cases (w + -v) with ⟨z, e⟩ | ⟨z, e⟩ | ⟨z, e⟩
    · exfalso; grind
    · rw [e]; rfl
    · rw [e]; rfl
end

/-! ## Specs as conditional equations, for simp with a discharger -/
theorem Q2.conj_ne {d : Int} {v : Q2 d} (h : v ≠ 0) : v.conj ≠ 0 := fun e => by
  apply h
  have e1 := congrArg Q2.p e
  have e2 := congrArg Q2.q e
  ext
  · exact e1
  · have : -v.q = 0 := e2
    rw [Q2.zero_q]; grind
theorem Q2.mul_ne {d : Int} [Root d] {v w : Q2 d} (h : v ≠ 0) (k : w ≠ 0) : v * w ≠ 0 := fun e => by
  have : v * w * w⁻¹ = 0 := by rw [e]; grind
  have h2 : v * w * w⁻¹ = v := by grind
  exact h (h2.symm.trans this)
section
variable {d : Int}
theorem Q2.ne_pos [Root d] {v : Q2 d} (h : 0 < v) : v ≠ 0 := by grind
theorem Q2.ne_neg [Root d] {v : Q2 d} (h : v < 0) : v ≠ 0 := by grind
theorem Q2.add_pos [Root d] {v w : Q2 d} (h : 0 < v) (g : 0 < w) : 0 < v + w := by grind
theorem Q2.inv_ne [Root d] {v : Q2 d} (h : v ≠ 0) : v⁻¹ ≠ 0 := fun e => by
  have : v * v⁻¹ = 1 := Lean.Grind.Field.mul_inv_cancel h
  rw [e] at this
  grind
theorem Q2.neg_ne [Root d] {v : Q2 d} (h : v ≠ 0) : -v ≠ 0 := by grind
theorem Q2.one_ne [Root d] : (1 : Q2 d) ≠ 0 := by grind
theorem Q2.one_pos [Root d] : (0 : Q2 d) < 1 := by grind
noncomputable def qeq (v w : Q2 d) : Bool := open Classical in decide (v = w)
theorem qeq_t {v w : Q2 d} (h : v = w) : qeq v w = true := by unfold qeq; exact @decide_eq_true _ (Classical.propDecidable _) h
theorem qeq_f {v w : Q2 d} (h : v ≠ w) : qeq v w = false := by unfold qeq; exact @decide_eq_false _ (Classical.propDecidable _) h
theorem qeq_iff {v w : Q2 d} : qeq v w = true ↔ v = w := by
  constructor
  · intro h
    by_cases k : v = w
    · exact k
    · rw [qeq_f k] at h; cases h
  · exact qeq_t
theorem qeq_self (v : Q2 d) : qeq v v = true := qeq_t rfl
theorem deq_V {s t : Nat} {v w : Q2 d} {x y : T3} (h : V s v x) (g : V t w y) : decide (x = y) = qeq v w := by
  by_cases e : v = w
  · rw [qeq_t e, decide_eq_true]
    exact h.uniq (g.to e.symm)
  · rw [qeq_f e, decide_eq_false]
    intro z
    subst z
    exact e (h.e.symm.trans g.e)
theorem deq_t {s t : Nat} {v w : Q2 d} {x y : T3} (h : V s v x) (g : V t w y) (e : v = w) : decide (x = y) = true := decide_eq_true (h.uniq (g.to e.symm))
theorem deq_f {s t : Nat} {v w : Q2 d} {x y : T3} (h : V s v x) (g : V t w y) (e : v ≠ w) : decide (x = y) = false := decide_eq_false fun z => e (by rw [← h.e, ← g.e, z])
theorem V.b0 {s : Nat} {v : Q2 d} {x : T3} (h : V s v x) (e : v.conj = v) : x.2.1 = 0 := by
  have e2 := congrArg Q2.q e
  have e3 : -v.q = v.q := e2
  have e4 : v.q = 0 := by grind
  rw [← h.e] at e4
  have hc := ic_ne (Int.ne_of_gt h.pos)
  have e5 : (x.2.1 : Rat) / x.2.2 = 0 := e4
  have e6 : (x.2.1 : Rat) = 0 := by grind
  exact Rat.intCast_eq_zero_iff.mp e6
theorem frac_t {s : Nat} {v : Q2 d} {x : T3} (h : V s v x) (e : v.conj = v) : (x.2.1 == 0) = true := by rw [h.b0 e]; rfl
theorem Q2.conj_zero : (0 : Q2 d).conj = 0 := rfl
theorem Q2.conj_one : (1 : Q2 d).conj = 1 := rfl
theorem Q2.sub_conj (x y : Q2 d) : (x - y).conj = x.conj - y.conj := by
  rw [show x - y = x + -y by grind, Q2.conj_add, Q2.conj_neg]; grind
theorem vsgn_lt [Root d] (v : Q2 d) : decide (vsgn v < 0) = qlt v 0 := by
  rcases vsgn_cases v with ⟨h, e⟩ | ⟨h, e⟩ | ⟨h, e⟩ <;> rw [e]
  · rw [qlt_f (by grind)]; rfl
  · rw [qlt_f (by grind)]; rfl
  · rw [qlt_t h]; rfl
theorem vsgn_gt [Root d] (v : Q2 d) : decide (0 < vsgn v) = qlt 0 v := by
  rcases vsgn_cases v with ⟨h, e⟩ | ⟨h, e⟩ | ⟨h, e⟩ <;> rw [e]
  · rw [qlt_t h]; rfl
  · rw [qlt_f (by grind)]; rfl
  · rw [qlt_f (by grind)]; rfl
theorem vsgn_ge [Root d] (v : Q2 d) : decide (0 ≤ vsgn v) = !qlt v 0 := by
  rcases vsgn_cases v with ⟨h, e⟩ | ⟨h, e⟩ | ⟨h, e⟩ <;> rw [e]
  · rw [qlt_f (by grind)]; rfl
  · rw [qlt_f (by grind)]; rfl
  · rw [qlt_t h]; rfl
theorem vsgn_le [Root d] (v : Q2 d) : decide (vsgn v ≤ 0) = !qlt 0 v := by
  rcases vsgn_cases v with ⟨h, e⟩ | ⟨h, e⟩ | ⟨h, e⟩ <;> rw [e]
  · rw [qlt_t h]; rfl
  · rw [qlt_f (by grind)]; rfl
  · rw [qlt_f (by grind)]; rfl
theorem vsgn_lt1 [Root d] (v : Q2 d) : decide (vsgn v < 1) = !qlt 0 v := by
  rcases vsgn_cases v with ⟨h, e⟩ | ⟨h, e⟩ | ⟨h, e⟩ <;> rw [e]
  · rw [qlt_t h]; rfl
  · rw [qlt_f (by grind)]; rfl
  · rw [qlt_f (by grind)]; rfl
theorem vsgn_eq1 [Root d] (v : Q2 d) : (vsgn v == 1) = qlt 0 v := by
  rcases vsgn_cases v with ⟨h, e⟩ | ⟨h, e⟩ | ⟨h, e⟩ <;> rw [e]
  · rw [qlt_t h]; rfl
  · rw [qlt_f (by grind)]; rfl
  · rw [qlt_f (by grind)]; rfl
theorem vsgn_eq0 [Root d] (v : Q2 d) : (vsgn v == 0) = qeq v 0 := by
  rcases vsgn_cases v with ⟨h, e⟩ | ⟨h, e⟩ | ⟨h, e⟩ <;> rw [e]
  · rw [qeq_f (by grind)]; rfl
  · rw [qeq_t h]; rfl
  · rw [qeq_f (by grind)]; rfl
/-- a whole number, as a number -/
theorem val_int' (k : Int) : val d (k, 0, 1) = (k : Q2 d) := by
  ext
  · rw [Q2.ic_p]; simp only [val]; grind
  · rw [Q2.ic_q]; simp only [val]; grind
theorem V.int' {s : Nat} (k : Int) (hk : Bd s k) (hs : 1 ≤ s) : V s ((k : Int) : Q2 d) (k, 0, 1) := by
  refine ⟨⟨show (0 : Int) < 1 by decide, ?_⟩, ⟨hk, ⟨by show (0 : Int).natAbs < _; exact Nat.pow_pos (by decide)⟩, ⟨?_⟩⟩, val_int' k⟩
  · show gcd3 k 0 1 = 1
    unfold gcd3
    rw [Int.gcd_one_right]
    rfl
  · show (1 : Int).natAbs < _
    exact Nat.lt_of_lt_of_le (show (1 : Int).natAbs < 2 ^ 1 by decide) (Nat.pow_le_pow_right (by decide) hs)
theorem V.lit0 : V 1 (0 : Q2 d) (0, 0, 1) := V.int' (d := d) 0 ⟨by decide⟩ (by decide)
theorem V.lit1 : V 1 (1 : Q2 d) (1, 0, 1) := V.int' (d := d) 1 ⟨by decide⟩ (by decide)
theorem V.lit4 : V 3 (4 : Q2 d) (4, 0, 1) := V.int' (d := d) 4 ⟨by decide⟩ (by decide)
theorem V.plus0 {t : Nat} {w : Q2 d} {y : T3} (g : V t w y) : V (1 + t + 1) (0 + w) (nplus (0, 0, 1) y) := V.plus V.lit0 g
theorem V.isn {s : Nat} {v : Q2 d} {x : T3} (h : V s v x) : IsN x := h.n
theorem V.c_ne {s : Nat} {v : Q2 d} {x : T3} (h : V s v x) : x.2.2 ≠ 0 := Int.ne_of_gt h.pos
end

/-! ## Leanings -/
section
variable {d : Int} [R : Root d]
/-- the lean of a value -/
def vl (v : Q2 d) : Q2 d := v.conj * v⁻¹
/-- the lean fraction by the lean -/
def vfr (l : Q2 d) : Q2 d := l + 2 + l⁻¹
theorem frac_vl {v : Q2 d} (h : v ≠ 0) : (v + v.conj) * (v + v.conj) * (v * v.conj)⁻¹ = vfr (vl v) := by
  unfold vfr vl
  have h1 := Q2.conj_ne h
  generalize v.conj = a at *
  grind
theorem vfr_sub {l m : Q2 d} (hl : l ≠ 0) (hm : m ≠ 0) : (vfr l - vfr m) * (l * m) = (l - m) * (l * m - 1) := by
  unfold vfr
  grind
theorem mul_lt_l {a b c : Q2 d} (h : a < b) (k : 0 < c) : c * a < c * b := by
  have := Q2.mul_pos k (show 0 < b - a by grind)
  grind
theorem vl_inv {v : Q2 d} (h : v ≠ 0) : vl v⁻¹ = (vl v)⁻¹ := by
  unfold vl
  rw [Q2.conj_inv]
  have h1 := Q2.conj_ne h
  generalize v.conj = a at *
  grind
theorem vl_mul {v : Q2 d} (h : v ≠ 0) : vl v * v = v.conj := by unfold vl; grind
theorem vl_ne {v : Q2 d} (h : v ≠ 0) : vl v ≠ 0 := by
  unfold vl
  exact Q2.mul_ne (Q2.conj_ne h) (Q2.inv_ne h)
/-- the sign of a leaning is that of the mate -/
theorem vl_pos {v : Q2 d} (h : 0 < v) : 0 < vl v ↔ 0 < v.conj := by
  have e := vl_mul (show v ≠ 0 by grind)
  constructor
  · intro k
    have := Q2.mul_pos k h
    rw [e] at this; exact this
  · intro k
    rw [← e] at k
    have : 0 < v * vl v := by grind
    exact Q2.pos_of_mul this h
theorem vl_neg {v : Q2 d} (h : 0 < v) : vl v < 0 ↔ v.conj < 0 := by
  have e := vl_mul (show v ≠ 0 by grind)
  constructor
  · intro k
    have := Q2.mul_pos (show 0 < -vl v by grind) h
    grind
  · intro k
    have : v * vl v < 0 := by grind
    exact Q2.neg_of_mul this h
theorem vl_add {x y : Q2 d} (hx : 0 < x) (hy : 0 < y) : vl (x + y) = vl x + (vl y - vl x) * (y * (x + y)⁻¹) := by
  unfold vl
  rw [Q2.conj_add]
  have h1 : x ≠ 0 := by grind
  have h2 : y ≠ 0 := by grind
  have h3 : x + y ≠ 0 := by grind
  generalize x.conj = a
  generalize y.conj = b
  grind
theorem btw_add {x y : Q2 d} (hx : 0 < x) (hy : 0 < y) : Btw (vl x) (vl y) (vl (x + y)) := by
  rw [vl_add hx hy]
  have hs : 0 < x + y := by grind
  have hi := Q2.inv_pos hs
  have h3 : x + y ≠ 0 := by grind
  refine Btw.of (Q2.mul_pos hy hi) ?_
  have := Q2.mul_pos hx hi
  have e : x * (x + y)⁻¹ + y * (x + y)⁻¹ = 1 := by grind
  grind
end

/-! ## What is laid, by leanings -/
section
variable {d : Int} [R : Root d]
theorem Q2.mul_neg {a b : Q2 d} (h : 0 < a) (k : b < 0) : a * b < 0 := by
  have := Q2.mul_pos h (show 0 < -b by grind)
  grind
theorem Q2.inv_neg {a : Q2 d} (h : a < 0) : a⁻¹ < 0 := by
  have := Q2.inv_pos (show 0 < -a by grind)
  have e : (-a)⁻¹ = -a⁻¹ := by grind
  grind
theorem Q2.mul_pos_cases {p q : Q2 d} (h : 0 < p * q) : (0 < p ∧ 0 < q) ∨ (p < 0 ∧ q < 0) := by
  rcases (show 0 < p ∨ p = 0 ∨ p < 0 by grind) with k | k | k
  · exact .inl ⟨k, Q2.pos_of_mul h k⟩
  · rw [k] at h; exfalso; grind
  · have := Q2.pos_of_mul (show 0 < (-p) * (-q) by grind) (by grind)
    exact .inr ⟨k, by grind⟩
theorem Q2.mul_pos_neg {p q : Q2 d} (h : p < 0) (k : q < 0) : 0 < p * q := by
  have := Q2.mul_pos (show 0 < -p by grind) (show 0 < -q by grind)
  grind
/-- between a number and its contrary -/
def Bt (a x : Q2 d) : Prop := (a ≤ x ∧ x ≤ a⁻¹) ∨ (a⁻¹ ≤ x ∧ x ≤ a)
theorem fr_key {a x : Q2 d} (ha : a ≠ 0) (hx : x ≠ 0) (hp : 0 < x * a) : vfr a < vfr x ↔ 0 < (x - a) * (x * a - 1) := by
  have key := vfr_sub hx ha
  constructor
  · intro h
    rw [← key]
    exact Q2.mul_pos (by grind) hp
  · intro h
    rw [← key] at h
    have := Q2.pos_of_mul (a := x * a) (b := vfr x - vfr a) (by grind) hp
    grind
theorem fr_pos {a x : Q2 d} (ha : 0 < a) (hx : 0 < x) : ¬ vfr a < vfr x ↔ Bt a x := by
  rw [fr_key (Q2.ne_pos ha) (Q2.ne_pos hx) (Q2.mul_pos hx ha)]
  have e1 : a * (x - a⁻¹) = x * a - 1 := by grind
  have p1 : a⁻¹ < x → 0 < x * a - 1 := fun h => by rw [← e1]; exact Q2.mul_pos ha (by grind)
  have p2 : x < a⁻¹ → x * a - 1 < 0 := fun h => by rw [← e1]; exact Q2.mul_neg ha (by grind)
  have p3 : 0 < x * a - 1 → a⁻¹ < x := fun h => by rw [← e1] at h; have := Q2.pos_of_mul h ha; grind
  have p4 : x * a - 1 < 0 → x < a⁻¹ := fun h => by rw [← e1] at h; have := Q2.neg_of_mul h ha; grind
  unfold Bt
  constructor
  · intro h
    rcases (show x < a ∨ a ≤ x by grind) with c | c <;> rcases (show x < a⁻¹ ∨ a⁻¹ ≤ x by grind) with c2 | c2
    · exact absurd (Q2.mul_pos_neg (show x - a < 0 by grind) (p2 c2)) h
    · exact .inr ⟨c2, by grind⟩
    · exact .inl ⟨c, by grind⟩
    · rcases (show x = a ∨ a < x by grind) with c3 | c3
      · exact .inr ⟨c2, by grind⟩
      · rcases (show x = a⁻¹ ∨ a⁻¹ < x by grind) with c4 | c4
        · exact .inl ⟨c, by grind⟩
        · exact absurd (Q2.mul_pos (show 0 < x - a by grind) (p1 c4)) h
  · intro h k
    rcases Q2.mul_pos_cases k with ⟨k1, k2⟩ | ⟨k1, k2⟩
    · have := p3 k2; grind
    · have := p4 k2; grind
theorem fr_neg {a x : Q2 d} (ha : a < 0) (hx : x < 0) : ¬ vfr x < vfr a ↔ Bt a x := by
  rw [fr_key (Q2.ne_neg hx) (Q2.ne_neg ha) (Q2.mul_pos_neg ha hx)]
  have e1 : (-a) * (a⁻¹ - x) = a * x - 1 := by grind
  have na : 0 < -a := by grind
  have p1 : x < a⁻¹ → 0 < a * x - 1 := fun h => by rw [← e1]; exact Q2.mul_pos na (by grind)
  have p2 : a⁻¹ < x → a * x - 1 < 0 := fun h => by rw [← e1]; exact Q2.mul_neg na (by grind)
  have p3 : 0 < a * x - 1 → x < a⁻¹ := fun h => by rw [← e1] at h; have := Q2.pos_of_mul h na; grind
  have p4 : a * x - 1 < 0 → a⁻¹ < x := fun h => by rw [← e1] at h; have := Q2.neg_of_mul h na; grind
  unfold Bt
  constructor
  · intro h
    rcases (show x < a ∨ a ≤ x by grind) with c | c <;> rcases (show x < a⁻¹ ∨ a⁻¹ ≤ x by grind) with c2 | c2
    · exact absurd (Q2.mul_pos (show 0 < a - x by grind) (p1 c2)) h
    · exact .inr ⟨c2, by grind⟩
    · exact .inl ⟨c, by grind⟩
    · rcases (show x = a ∨ a < x by grind) with c3 | c3
      · exact .inr ⟨c2, by grind⟩
      · rcases (show x = a⁻¹ ∨ a⁻¹ < x by grind) with c4 | c4
        · exact .inl ⟨c, by grind⟩
        · exact absurd (Q2.mul_pos_neg (show a - x < 0 by grind) (p2 c4)) h
  · intro h k
    rcases Q2.mul_pos_cases k with ⟨k1, k2⟩ | ⟨k1, k2⟩
    · have := p3 k2; grind
    · have := p4 k2; grind
theorem Bt.pos {a x : Q2 d} (h : Bt a x) (ha : 0 < a) : 0 < x := by
  have := Q2.inv_pos ha
  unfold Bt at h
  grind
theorem Bt.neg {a x : Q2 d} (h : Bt a x) (ha : a < 0) : x < 0 := by
  have := Q2.inv_neg ha
  unfold Bt at h
  grind
theorem inv_le_pos {a b : Q2 d} (ha : 0 < a) (h : a ≤ b) : b⁻¹ ≤ a⁻¹ := by
  have hb : 0 < b := by grind
  have ia := Q2.inv_pos ha
  have ib := Q2.inv_pos hb
  rcases (show a = b ∨ a < b by grind) with e | k
  · rw [e]; grind
  have e : a⁻¹ - b⁻¹ = (b - a) * (a⁻¹ * b⁻¹) := by grind
  have := Q2.mul_pos (show 0 < b - a by grind) (Q2.mul_pos ia ib)
  grind
theorem inv_le_neg {a b : Q2 d} (hb : b < 0) (h : a ≤ b) : b⁻¹ ≤ a⁻¹ := by
  have ha : a < 0 := by grind
  have ia := Q2.inv_neg ha
  have ib := Q2.inv_neg hb
  rcases (show a = b ∨ a < b by grind) with e | k
  · rw [e]; grind
  have e : a⁻¹ - b⁻¹ = (b - a) * (a⁻¹ * b⁻¹) := by grind
  have := Q2.mul_pos (show 0 < b - a by grind) (Q2.mul_pos_neg ia ib)
  grind
theorem Q2.inv2 {a : Q2 d} (h : a ≠ 0) : (a⁻¹)⁻¹ = a := by
  have := Q2.inv_ne h
  grind
/-- kinds: one to three numbers above 0 -/
structure Kd (d : Int) [Root d] (s : Nat) (ks : List T3) : Prop where
  l0 : 1 ≤ ks.length
  l1 : ks.length ≤ 3
  v : ∀ k ∈ ks, ∃ u : Q2 d, V s u k ∧ 0 < u
def Both (d : Int) [Root d] (ks : List T3) : Prop := (∃ k ∈ ks, 0 < vl (val d k)) ∧ ∃ k ∈ ks, vl (val d k) < 0
def Laid (ks : List T3) (X : Q2 d) : Prop := Both d ks ∨ ∃ k ∈ ks, Bt (vl (val d k)) (vl X)
/-- the least and the greatest leaning of the ways -/
structure Outer (ks : List T3) (l h : Q2 d) : Prop where
  lo : ∃ k ∈ ks, l = vl (val d k) ∨ l = (vl (val d k))⁻¹
  hi : ∃ k ∈ ks, h = vl (val d k) ∨ h = (vl (val d k))⁻¹
  all : ∀ k ∈ ks, (l ≤ vl (val d k) ∧ vl (val d k) ≤ h) ∧ l ≤ (vl (val d k))⁻¹ ∧ (vl (val d k))⁻¹ ≤ h
  ne : ∀ k ∈ ks, vl (val d k) ≠ 0
section
variable {ks : List T3} {l h : Q2 d}
theorem Q2.of_inv_pos {a : Q2 d} (h : 0 < a⁻¹) (n : a ≠ 0) : 0 < a := by
  rcases (show 0 < a ∨ a < 0 by grind) with k | k
  · exact k
  · have := Q2.inv_neg k; grind
theorem Q2.of_inv_neg {a : Q2 d} (h : a⁻¹ < 0) (n : a ≠ 0) : a < 0 := by
  rcases (show 0 < a ∨ a < 0 by grind) with k | k
  · have := Q2.inv_pos k; grind
  · exact k
theorem Outer.both (o : Outer ks l h) : Both d ks ↔ l < 0 ∧ 0 < h := by
  constructor
  · rintro ⟨⟨k, hk, p⟩, k2, hk2, p2⟩
    have := (o.all k hk).1
    have := (o.all k2 hk2).1
    constructor <;> grind
  · rintro ⟨hl, hh⟩
    obtain ⟨k, hk, e⟩ := o.lo
    obtain ⟨k2, hk2, e2⟩ := o.hi
    refine ⟨⟨k2, hk2, ?_⟩, k, hk, ?_⟩
    · rcases e2 with e2 | e2
      · rw [← e2]; exact hh
      · exact Q2.of_inv_pos (by rw [← e2]; exact hh) (o.ne _ hk2)
    · rcases e with e | e
      · rw [← e]; exact hl
      · exact Q2.of_inv_neg (by rw [← e]; exact hl) (o.ne _ hk)
theorem Outer.lne (o : Outer ks l h) : l ≠ 0 := by
  obtain ⟨k, hk, e⟩ := o.lo
  rcases e with e | e
  · rw [e]; exact o.ne k hk
  · rw [e]; exact Q2.inv_ne (o.ne k hk)
theorem Outer.hne (o : Outer ks l h) : h ≠ 0 := by
  obtain ⟨k, hk, e⟩ := o.hi
  rcases e with e | e
  · rw [e]; exact o.ne k hk
  · rw [e]; exact Q2.inv_ne (o.ne k hk)
theorem Outer.le (o : Outer ks l h) : l ≤ h := by
  obtain ⟨k, hk, e⟩ := o.lo
  have := o.all k hk
  grind
theorem Outer.inv (o : Outer ks l h) (nb : ¬ Both d ks) : h = l⁻¹ := by
  have ln := o.lne
  have hn := o.hne
  have lh := o.le
  have h1 : l⁻¹ ≤ h := by
    obtain ⟨k, hk, e⟩ := o.lo
    have a := o.all k hk
    have := Q2.inv2 (o.ne k hk)
    rcases e with e | e
    · rw [e]; exact a.2.2
    · rw [e, this]; exact a.1.2
  have h2 : l ≤ h⁻¹ := by
    obtain ⟨k, hk, e⟩ := o.hi
    have a := o.all k hk
    have := Q2.inv2 (o.ne k hk)
    rcases e with e | e
    · rw [e]; exact a.2.1
    · rw [e, this]; exact a.1.1
  rw [o.both] at nb
  have hi := Q2.inv2 hn
  rcases (show 0 < l ∨ l < 0 by grind) with c | c
  · have := inv_le_pos c h2
    rw [hi] at this
    grind
  · have : h < 0 := by grind
    have := inv_le_neg (Q2.inv_neg this) h2
    rw [hi] at this
    grind
theorem Outer.range (o : Outer ks l h) (nb : ¬ Both d ks) {x : Q2 d} : (l ≤ x ∧ x ≤ h) ↔ ∃ k ∈ ks, Bt (vl (val d k)) x := by
  have e := o.inv nb
  constructor
  · rintro ⟨h1, h2⟩
    obtain ⟨k, hk, e1⟩ := o.lo
    refine ⟨k, hk, ?_⟩
    have := Q2.inv2 (o.ne k hk)
    unfold Bt
    rcases e1 with e1 | e1
    · rw [← e1, ← e]; exact .inl ⟨h1, h2⟩
    · rw [← e1]; rw [e, e1, this] at h2; exact .inr ⟨h1, h2⟩
  · rintro ⟨k, hk, b⟩
    have a := o.all k hk
    unfold Bt at b
    grind
theorem Outer.laid (o : Outer ks l h) {X : Q2 d} : Laid ks X ↔ Both d ks ∨ (l ≤ vl X ∧ vl X ≤ h) := by
  unfold Laid
  by_cases nb : Both d ks
  · simp [nb]
  · rw [o.range nb]
theorem Outer.turned (o : Outer ks l h) (b : Both d ks) {x : Q2 d} (hx : x ≠ 0) (hn : ¬ (l ≤ x ∧ x ≤ h)) : l ≤ x⁻¹ ∧ x⁻¹ ≤ h := by
  obtain ⟨⟨k, hk, p⟩, k2, hk2, p2⟩ := b
  have a := o.all k hk
  have a2 := o.all k2 hk2
  generalize vl (val d k) = y at *
  generalize vl (val d k2) = z at *
  have h1 : 1 ≤ h := by
    rcases (show 1 ≤ y ∨ y < 1 by grind) with c | c
    · grind
    · have := inv_le_pos p (show y ≤ 1 by grind)
      have e : (1 : Q2 d)⁻¹ = 1 := by grind
      grind
  have h2 : l ≤ -1 := by
    rcases (show z ≤ -1 ∨ -1 < z by grind) with c | c
    · grind
    · have := inv_le_neg p2 (show -1 ≤ z by grind)
      have e : (-1 : Q2 d)⁻¹ = -1 := by grind
      grind
  rcases (show 0 < x ∨ x < 0 by grind) with c | c
  · have c2 : 1 < x := by grind
    have := Q2.inv_pos c
    have := inv_le_pos (show (0 : Q2 d) < 1 by grind) (show 1 ≤ x by grind)
    have e : (1 : Q2 d)⁻¹ = 1 := by grind
    constructor <;> grind
  · have c2 : x < -1 := by grind
    have := Q2.inv_neg c
    have := inv_le_neg (show (-1 : Q2 d) < 0 by grind) (show x ≤ -1 by grind)
    have e : (-1 : Q2 d)⁻¹ = -1 := by grind
    constructor <;> grind
end
noncomputable def laidB (ks : List T3) (X : Q2 d) : Bool := open Classical in decide (Laid ks X)
theorem laidB_t {ks : List T3} {X : Q2 d} (h : Laid ks X) : laidB ks X = true := by unfold laidB; exact @decide_eq_true _ (Classical.propDecidable _) h
theorem laidB_f {ks : List T3} {X : Q2 d} (h : ¬ Laid ks X) : laidB ks X = false := by unfold laidB; exact @decide_eq_false _ (Classical.propDecidable _) h
end
section
variable {d : Int} [R : Root d] {ks : List T3} {l h X Y P : Q2 d}
theorem Bt.inv {a x : Q2 d} (b : Bt a x) (ha : a ≠ 0) : Bt a x⁻¹ := by
  have i := Q2.inv2 ha
  rcases (show 0 < a ∨ a < 0 by grind) with k | k
  · have hx := b.pos k
    have ia := Q2.inv_pos k
    rcases b with ⟨b1, b2⟩ | ⟨b1, b2⟩
    · have e1 := inv_le_pos k b1
      have e2 := inv_le_pos hx b2
      rw [i] at e2
      exact .inl ⟨e2, e1⟩
    · have e1 := inv_le_pos ia b1
      have e2 := inv_le_pos hx b2
      rw [i] at e1
      exact .inr ⟨e2, e1⟩
  · have hx := b.neg k
    have ia := Q2.inv_neg k
    rcases b with ⟨b1, b2⟩ | ⟨b1, b2⟩
    · have e1 := inv_le_neg hx b1
      have e2 := inv_le_neg ia b2
      rw [i] at e2
      exact .inl ⟨e2, e1⟩
    · have e1 := inv_le_neg hx b1
      have e2 := inv_le_neg k b2
      rw [i] at e1
      exact .inr ⟨e2, e1⟩
theorem Laid.inv (L : Laid ks X) (X0 : X ≠ 0) (h0 : ∀ k ∈ ks, vl (val d k) ≠ 0) : Laid ks X⁻¹ := by
  rcases L with L | ⟨k, hk, b⟩
  · exact .inl L
  · exact .inr ⟨k, hk, by rw [vl_inv X0]; exact b.inv (h0 k hk)⟩
theorem vl_frac (hP : P.conj = P) (P0 : P ≠ 0) (X0 : X ≠ 0) : vl (P * X) = vl X := by
  unfold vl
  rw [Q2.conj_mul, hP]
  generalize X.conj = a
  grind
theorem Laid.frac (L : Laid ks X) (hP : P.conj = P) (P0 : P ≠ 0) (X0 : X ≠ 0) : Laid ks (P * X) := by
  unfold Laid at L ⊢
  rw [vl_frac hP P0 X0]
  exact L
theorem Laid.add (o : Outer ks l h) (L : Laid ks X) (L2 : Laid ks Y) (hX : 0 < X) (hY : 0 < Y) : Laid ks (X + Y) := by
  rw [o.laid] at L L2 ⊢
  have b := btw_add hX hY
  rcases L with L | L
  · exact .inl L
  rcases L2 with L2 | L2
  · exact .inl L2
  right
  rcases (show vl X = vl Y ∨ vl X < vl Y ∨ vl Y < vl X by grind) with z | z | z
  · have := b.e z; grind
  · have := b.u z; grind
  · have := b.o z; grind
theorem Laid.kind {k : T3} (hk : k ∈ ks) (h0 : vl (val d k) ≠ 0) : Laid ks (val d k) := by
  by_cases B : Both d ks
  · exact .inl B
  refine .inr ⟨k, hk, ?_⟩
  unfold Bt
  rcases (show vl (val d k) ≤ (vl (val d k))⁻¹ ∨ (vl (val d k))⁻¹ ≤ vl (val d k) by grind) with z | z
  · exact .inl ⟨by grind, z⟩
  · exact .inr ⟨z, by grind⟩
end
section
variable {d : Int} [Root d] {s : Nat} {ks : List T3}
theorem vsgn_t {v : Q2 d} (h : 0 < v) : vsgn v = 1 := by
  have := vsgn_eq1 v
  rw [qlt_t h] at this
  exact eq_of_beq this
theorem vsgn_f {v : Q2 d} (h : v < 0) : vsgn v = -1 := by
  have e1 := vsgn_lt v
  rw [qlt_t h] at e1
  have := of_decide_eq_true e1
  have : vsgn v = 1 ∨ vsgn v = 0 ∨ vsgn v = -1 := by
    unfold vsgn
    split <;> (try split) <;> simp
  omega
theorem Kd.val (h : Kd d s ks) {k : T3} (hk : k ∈ ks) : V s (val d k) k ∧ 0 < val d k ∧ val d k ≠ 0 ∧ (val d k).conj ≠ 0 := by
  obtain ⟨u, hu, pu⟩ := h.v k hk
  rw [hu.e]
  exact ⟨hu, pu, Q2.ne_pos pu, Q2.conj_ne (Q2.ne_pos pu)⟩
end

/-! ## Numbers as quotients of whole ones: how great they get -/
section
variable {d : Int} [R : Root d]
def Zw (d a b : Int) : Q2 d := ⟨(a : Rat), (b : Rat)⟩
theorem Zw.mul (a b c e : Int) : Zw d a b * Zw d c e = Zw d (a * c + d * b * e) (a * e + b * c) := by
  ext
  · show (a : Rat) * c + d * b * e = ((a * c + d * b * e : Int) : Rat)
    rw [Rat.intCast_add, Rat.intCast_mul, Rat.intCast_mul, Rat.intCast_mul]
  · show (a : Rat) * e + b * c = ((a * e + b * c : Int) : Rat)
    rw [Rat.intCast_add, Rat.intCast_mul, Rat.intCast_mul]
theorem Zw.add (a b c e : Int) : Zw d a b + Zw d c e = Zw d (a + c) (b + e) := by
  ext
  · show (a : Rat) + c = ((a + c : Int) : Rat)
    rw [Rat.intCast_add]
  · show (b : Rat) + e = ((b + e : Int) : Rat)
    rw [Rat.intCast_add]
/-- a quotient of two, their parts less than 2^s -/
structure Rt (s : Nat) (v : Q2 d) : Prop where
  ex : ∃ a b c e : Int, Bd s a ∧ Bd s b ∧ Bd s c ∧ Bd s e ∧ Zw d c e ≠ 0 ∧ v * Zw d c e = Zw d a b
variable {s t : Nat} {v w : Q2 d} {x : T3}
theorem Rt.mono (h : Rt s v) (l : s ≤ t) : Rt t v := by
  obtain ⟨a, b, c, e, ha, hb, hc, he, n, q⟩ := h.ex
  exact ⟨a, b, c, e, ha.mono l, hb.mono l, hc.mono l, he.mono l, n, q⟩
theorem Bd.zero (s : Nat) : Bd s 0 := ⟨Nat.pow_pos (by decide)⟩
theorem V.rt (h : V s v x) : Rt s v := by
  have hc := h.pos
  have hn : (x.2.2 : Rat) ≠ 0 := ic_ne (Int.ne_of_gt hc)
  refine ⟨x.1, x.2.1, x.2.2, 0, h.z.a, h.z.b, h.z.c, Bd.zero s, fun z => ?_, ?_⟩
  · have := congrArg Q2.p z
    exact hn this
  · rw [← h.e]
    ext
    · show (x.1 : Rat) / x.2.2 * x.2.2 + d * (x.2.1 / x.2.2) * ((0 : Int) : Rat) = x.1
      rw [show ((0 : Int) : Rat) = 0 from rfl]
      grind
    · show (x.1 : Rat) / x.2.2 * ((0 : Int) : Rat) + x.2.1 / x.2.2 * x.2.2 = x.2.1
      rw [show ((0 : Int) : Rat) = 0 from rfl]
      grind
theorem Rt.inv (h : Rt s v) (v0 : v ≠ 0) : Rt s v⁻¹ := by
  obtain ⟨a, b, c, e, ha, hb, hc, he, n, q⟩ := h.ex
  refine ⟨c, e, a, b, hc, he, ha, hb, fun z => ?_, ?_⟩
  · rw [z] at q
    exact Q2.mul_ne v0 n q
  · rw [← q]
    grind
theorem Bd.zw1 {a b c e : Int} (hd : Bd 5 d) (ha : Bd s a) (hb : Bd s b) (hc : Bd t c) (he : Bd t e) : Bd (s + t + 6) (a * c + d * b * e) ∧ Bd (s + t + 6) (a * e + b * c) :=
  ⟨Bd.add (ha.mul hc) ((hd.mul hb).mul he) (by omega) (by omega), Bd.add (ha.mul he) (hb.mul hc) (by omega) (by omega)⟩
theorem Rt.mul (hd : Bd 5 d) (h : Rt s v) (g : Rt t w) : Rt (s + t + 6) (v * w) := by
  obtain ⟨a, b, c, e, ha, hb, hc, he, n, q⟩ := h.ex
  obtain ⟨a', b', c', e', ha', hb', hc', he', n', q'⟩ := g.ex
  obtain ⟨p1, p2⟩ := Bd.zw1 hd ha hb ha' hb'
  obtain ⟨p3, p4⟩ := Bd.zw1 hd hc he hc' he'
  refine ⟨_, _, _, _, p1, p2, p3, p4, ?_, ?_⟩
  · rw [← Zw.mul]; exact Q2.mul_ne n n'
  · rw [← Zw.mul, ← Zw.mul, ← q, ← q']; grind
theorem Rt.add (hd : Bd 5 d) (h : Rt s v) (g : Rt t w) : Rt (s + t + 7) (v + w) := by
  obtain ⟨a, b, c, e, ha, hb, hc, he, n, q⟩ := h.ex
  obtain ⟨a', b', c', e', ha', hb', hc', he', n', q'⟩ := g.ex
  obtain ⟨p1, p2⟩ := Bd.zw1 hd ha hb hc' he'
  obtain ⟨p3, p4⟩ := Bd.zw1 hd hc he ha' hb'
  obtain ⟨p5, p6⟩ := Bd.zw1 hd hc he hc' he'
  refine ⟨_, _, _, _, Bd.add p1 p3 (by omega) (by omega), Bd.add p2 p4 (by omega) (by omega), p5.mono (by omega), p6.mono (by omega), ?_, ?_⟩
  · rw [← Zw.mul]; exact Q2.mul_ne n n'
  · rw [← Zw.mul c e c' e', ← Zw.add (a * c' + d * b * e') (a * e' + b * c') (c * a' + d * e * b') (c * b' + e * a'), ← Zw.mul a b c' e', ← Zw.mul c e a' b', ← q, ← q']; grind
theorem Rt.V (hd : Bd 5 d) (h : Rt s v) (hx : IsN x) (e : val d x = v) : V (2 * s + 6) v x := by
  obtain ⟨a, b, c, f, ha, hb, hc, hf, n, q⟩ := h.ex
  have hf' : Bd s (-f) := hf.neg
  obtain ⟨p1, p2⟩ := Bd.zw1 hd ha hb hc hf'
  obtain ⟨p3, p4⟩ := Bd.zw1 hd hc hf hc hf'
  have k1 := Zw.mul (d := d) a b c (-f)
  have k2 := Zw.mul (d := d) c f c (-f)
  have z0 : c * -f + f * c = 0 := by rw [Int.mul_neg, Int.mul_comm f c]; omega
  rw [z0] at k2
  have n2 : Zw d c (-f) ≠ 0 := by
    have : Zw d c (-f) = (Zw d c f).conj := by
      ext
      · rfl
      · show (((-f : Int)) : Rat) = -(f : Rat)
        rw [Rat.intCast_neg]
    rw [this]
    exact Q2.conj_ne n
  generalize a * c + d * b * -f = A at *
  generalize a * -f + b * c = B at *
  generalize c * c + d * f * -f = C at *
  have hC : C ≠ 0 := fun z => by
    subst z
    exact Q2.mul_ne n n2 (k2.trans rfl)
  have hv : v * Zw d C 0 = Zw d A B := by
    rw [← k1, ← k2, ← q]; grind
  have hCr := ic_ne hC
  have ev : v = val d (low A B C) := by
    rw [val_low hC]
    have e1 := congrArg Q2.p hv
    have e2 := congrArg Q2.q hv
    have e1 : v.p * C + d * v.q * ((0 : Int) : Rat) = A := e1
    have e2 : v.p * ((0 : Int) : Rat) + v.q * C = B := e2
    rw [show ((0 : Int) : Rat) = 0 from rfl] at e1 e2
    ext
    · show v.p = (A : Rat) / C
      grind
    · show v.q = (B : Rat) / C
      grind
  have : x = low A B C := val_inj hx (low_isN hC) (e.trans ev)
  exact ⟨hx, by rw [this]; exact (low_sz p1 p2 p3).mono (by omega), e⟩
theorem V.re (hd : Bd 5 d) (h : V t v x) (r : Rt s v) : V (2 * s + 6) v x := r.V hd h.n h.e
end
section
variable {d : Int} [R : Root d] {s : Nat} {v : Q2 d} {x : T3}
theorem V.rt_lean (h : V s v x) (h0 : v ≠ 0) : Rt s (vl v) := by
  obtain ⟨a, b, c, e, ha, hb, hc, he, n, q⟩ := h.rt.ex
  have hn : (x.2.2 : Rat) ≠ 0 := ic_ne (Int.ne_of_gt h.pos)
  have key : v * Zw d x.2.2 0 = Zw d x.1 x.2.1 := by
    rw [← h.e]
    ext
    · show (x.1 : Rat) / x.2.2 * x.2.2 + d * (x.2.1 / x.2.2) * ((0 : Int) : Rat) = x.1
      rw [show ((0 : Int) : Rat) = 0 from rfl]
      grind
    · show (x.1 : Rat) / x.2.2 * ((0 : Int) : Rat) + x.2.1 / x.2.2 * x.2.2 = x.2.1
      rw [show ((0 : Int) : Rat) = 0 from rfl]
      grind
  have zc : ∀ a b : Int, (Zw d a b).conj = Zw d a (-b) := fun a b => by
    ext
    · rfl
    · show -(b : Rat) = ((-b : Int) : Rat)
      rw [Rat.intCast_neg]
  have c0 : Zw d x.2.2 0 ≠ 0 := fun z => hn (congrArg Q2.p z)
  have n0 : Zw d x.1 x.2.1 ≠ 0 := by rw [← key]; exact Q2.mul_ne h0 c0
  have kc := congrArg Q2.conj key
  rw [Q2.conj_mul, zc, zc, Int.neg_zero] at kc
  refine ⟨x.1, -x.2.1, x.1, x.2.1, h.z.a, h.z.b.neg, h.z.a, h.z.b, n0, ?_⟩
  rw [← kc, ← key]
  unfold vl
  grind
end

/-! ## Loops of laws -/
theorem list_len_succ {A : Type} {l : List A} {n : Nat} (h : l.length = n + 1) : ∃ a t, l = a :: t ∧ t.length = n := by
  cases l with
  | nil => simp at h
  | cons a t => exact ⟨a, t, rfl, by simpa using h⟩
section
variable {cf : Nat → List D → Mem → Res D} {b : Nat} {p : Pat} {a : Sms} {ρ : Env} {M : Mem} {Q : Flow → Mem → Prop}
theorem ok_for_rng {k : Int} (hk : -1000000 ≤ k ∧ k ≤ 1000000) (I : Env → Mem → Prop)
    (hs : ∀ i ρ M, 0 ≤ i → i < k → I ρ M → Ok (fStep cf b p a (.int i) ρ M) (fun f M' => ∃ ρ', f = .next ρ' ∧ I ρ' M'))
    (hI : I ρ M) (he : ∀ ρ M, I ρ M → Q (.next ρ) M) : Ok (forK cf b p .range1 a ρ [.int k] M) Q := by
  rw [forK_eq (its := rangeD 0 k) (g := []) (h := src_range1 _ _ (by unfold small; exact decide_eq_true ⟨by omega, by omega⟩))]
  refine ok_forP (fun d => ∃ i, d = .int i ∧ 0 ≤ i ∧ i < k) I (fun _ _ _ => grd_nil _) ?_ he (fun d hd => mem_rangeD hd) hI
  rintro d ρ M ⟨i, rfl, h0, h1⟩ hI
  exact hs i ρ M h0 h1 hI
/-- with what may be told back -/
theorem ok_for_rngR {k : Int} (hk : -1000000 ≤ k ∧ k ≤ 1000000) (I : Env → Mem → Prop)
    (hs : ∀ i ρ M, 0 ≤ i → i < k → I ρ M → Ok (fStep cf b p a (.int i) ρ M) (fun f M' => match f with | .next ρ' => I ρ' M' | .ret v => Q (.ret v) M'))
    (hI : I ρ M) (he : ∀ ρ M, I ρ M → Q (.next ρ) M) : Ok (forK cf b p .range1 a ρ [.int k] M) Q := by
  rw [forK_eq (its := rangeD 0 k) (g := []) (h := src_range1 _ _ (by unfold small; exact decide_eq_true ⟨by omega, by omega⟩))]
  refine ok_for (fun its ρ M => (∀ d ∈ its, ∃ i, d = .int i ∧ 0 ≤ i ∧ i < k) ∧ I ρ M) (fun _ _ _ _ => grd_nil _) ?_ (fun ρ M h => he ρ M h.2) _ ρ M ⟨fun d hd => mem_rangeD hd, hI⟩
  rintro d r ρ M ⟨hp, hI⟩
  obtain ⟨i, rfl, h0, h1⟩ := hp d List.mem_cons_self
  refine (hs i ρ M h0 h1 hI).mono fun f M' q => ?_
  cases f with
  | next ρ' => exact ⟨fun d hd => hp d (List.mem_cons_of_mem _ hd), q⟩
  | ret v => exact q
theorem ok_for_lst {xs : List D} (P : D → Prop) (I : Env → Mem → Prop)
    (hs : ∀ d ρ M, P d → I ρ M → Ok (fStep cf b p a d ρ M) (fun f M' => ∃ ρ', f = .next ρ' ∧ I ρ' M'))
    (hp : ∀ d ∈ xs, P d) (hI : I ρ M) (he : ∀ ρ M, I ρ M → Q (.next ρ) M) : Ok (forK cf b p .seq a ρ [.lst xs] M) Q := by
  rw [forK_eq (h := src_lst _ _)]
  exact ok_forP P I (fun _ _ _ => grd_none _) hs he hp hI
theorem ok_for_tup {xs : List D} (P : D → Prop) (I : Env → Mem → Prop)
    (hs : ∀ d ρ M, P d → I ρ M → Ok (fStep cf b p a d ρ M) (fun f M' => ∃ ρ', f = .next ρ' ∧ I ρ' M'))
    (hp : ∀ d ∈ xs, P d) (hI : I ρ M) (he : ∀ ρ M, I ρ M → Q (.next ρ) M) : Ok (forK cf b p .seq a ρ [.tup xs] M) Q := by
  rw [forK_eq (h := src_tup _ _)]
  exact ok_forP P I (fun _ _ _ => grd_none _) hs he hp hI
/-- by the turn -/
theorem ok_for_rngI {k : Int} (hk : 0 ≤ k ∧ k ≤ 1000000) (I : Int → Env → Mem → Prop)
    (hs : ∀ i ρ M, 0 ≤ i → i < k → I i ρ M → Ok (fStep cf b p a (.int i) ρ M) (fun f M' => ∃ ρ', f = .next ρ' ∧ I (i + 1) ρ' M'))
    (hI : I 0 ρ M) (he : ∀ ρ M, I k ρ M → Q (.next ρ) M) : Ok (forK cf b p .range1 a ρ [.int k] M) Q := by
  rw [forK_eq (its := rangeD 0 k) (g := []) (h := src_range1 _ _ (by unfold small; exact decide_eq_true ⟨by omega, by omega⟩))]
  refine ok_for (fun its ρ M => ∃ i : Nat, (i : Int) ≤ k ∧ its = ((List.range k.toNat).drop i).map (fun j : Nat => D.int (0 + (j : Int))) ∧ I i ρ M) (fun _ _ _ _ => grd_nil _) ?_ ?_ _ ρ M ⟨0, by omega, by unfold rangeD; rw [Int.sub_zero, List.drop_zero], hI⟩
  · rintro d r ρ M ⟨i, hi, e, h⟩
    have hlt : i < k.toNat := by
      rcases Nat.lt_or_ge i k.toNat with z | z
      · exact z
      · rw [List.drop_of_length_le (by rw [List.length_range]; exact z)] at e; cases e
    rw [List.drop_eq_getElem_cons (by rw [List.length_range]; exact hlt), List.map_cons, List.getElem_range] at e
    injection e with e1 e2
    subst e1
    rw [Int.zero_add]
    refine (hs i ρ M (by omega) (by omega) h).mono fun f M' q => ?_
    obtain ⟨ρ', rfl, q⟩ := q
    exact ⟨i + 1, by omega, e2, by rw [Int.natCast_add]; exact q⟩
  · rintro ρ M ⟨i, hi, e, h⟩
    have hl : k.toNat ≤ i := by
      have := congrArg List.length e
      rw [List.length_map, List.length_drop, List.length_range] at this
      simp at this
      omega
    have : (i : Int) = k := by omega
    rw [this] at h
    exact he ρ M h
theorem ok_cellsI {ns : List Int} {m : Int} (hm : 2 ≤ m ∧ m ≤ 20) (I : Int → Env → Mem → Prop)
    (hs : ∀ i ρ M, 0 ≤ i → i < 20 → I i ρ M → Ok (fStep cf b p a (.int i) ρ M) (fun f M' => ∃ ρ', f = .next ρ' ∧ I (i + 1) ρ' M'))
    (hI : I 0 ρ M) (he : ∀ k ρ M, 0 ≤ k → k ≤ 20 → I k ρ M → Q (.next ρ) M) : Ok (forK cf b p .range1 a ρ [.int (if (if ((ns.length : Nat) : Int) < m then ((ns.length : Nat) : Int) else m) > 2 then (if ((ns.length : Nat) : Int) < m then ((ns.length : Nat) : Int) else m) else 2)] M) Q := by
  have h : ∃ k : Int, (if (if ((ns.length : Nat) : Int) < m then ((ns.length : Nat) : Int) else m) > 2 then (if ((ns.length : Nat) : Int) < m then ((ns.length : Nat) : Int) else m) else 2) = k ∧ 0 ≤ k ∧ k ≤ 20 := ⟨_, rfl, by split <;> (try split) <;> omega, by split <;> (try split) <;> omega⟩
  obtain ⟨k, e, k0, k1⟩ := h
  rw [e]
  exact ok_for_rngI (by omega) I (fun i ρ M h0 h1 hI => hs i ρ M h0 (by omega) hI) hI fun ρ M h => he k ρ M k0 k1 h
/-- a law's loop over its cells -/
theorem ok_cells {ns : List Int} {m : Int} (hm : 2 ≤ m ∧ m ≤ 20) (I : Env → Mem → Prop)
    (hs : ∀ i ρ M, 0 ≤ i → i < 64 → I ρ M → Ok (fStep cf b p a (.int i) ρ M) (fun f M' => ∃ ρ', f = .next ρ' ∧ I ρ' M'))
    (hI : I ρ M) (he : ∀ ρ M, I ρ M → Q (.next ρ) M) : Ok (forK cf b p .range1 a ρ [.int (if (if ((ns.length : Nat) : Int) < m then ((ns.length : Nat) : Int) else m) > 2 then (if ((ns.length : Nat) : Int) < m then ((ns.length : Nat) : Int) else m) else 2)] M) Q := by
  have h : ∃ k : Int, (if (if ((ns.length : Nat) : Int) < m then ((ns.length : Nat) : Int) else m) > 2 then (if ((ns.length : Nat) : Int) < m then ((ns.length : Nat) : Int) else m) else 2) = k ∧ 0 ≤ k ∧ k ≤ 20 := ⟨_, rfl, by split <;> (try split) <;> omega, by split <;> (try split) <;> omega⟩
  obtain ⟨k, e, k0, k1⟩ := h
  rw [e]
  exact ok_for_rng (by omega) I (fun i ρ M h0 h1 hI => hs i ρ M h0 (by omega) hI) hI he
end
section
variable {cf : Nat → List D → Mem → Res D} {b : Nat} {ρ : Env} {M : Mem} {i : Nat} {own : List Nat} {pt : Pat} {cond : Tms} {elt : Tm} {Q : D → Mem → Prop}
/-- a comprehension that draws -/
theorem ok_comp_bag {g : List Grd} {step : D → Mem → Res (Option D)} (P : D → Prop) (hg : NoGrd g) {its : List D} {M : Mem} (h : Bag i M)
    (hs : ∀ d ∈ its, ∀ M, Bag i M → Ok (step d M) (fun o M' => ∃ v, o = some v ∧ P v ∧ BagSt i M M')) :
    Ok (compL g step its M) (fun vs M' => (∀ v ∈ vs, P v) ∧ vs.length = its.length ∧ BagSt i M M') := by
  refine (ok_comp (fun _ v => P v) (fun M' => BagSt i M M') (fun M' _ => hg.ok M') its M (fun d hd M' st => ?_) (BagSt.refl h)).mono fun vs M' q => ⟨q.1.all fun _ _ p => p, q.1.length, q.2⟩
  refine (hs d hd M' st.bag).mono fun o M2 q => ?_
  obtain ⟨v, e, p, st2⟩ := q
  exact ⟨v, e, p, st.trans st2⟩
theorem compK_rng {k : Int} {m : Bool} (hk : 0 ≤ k ∧ k ≤ 1000) : compK cf b m own pt .range1 cond elt ρ [.int k] M = (compL [] (cStep cf b pt own cond elt ρ) (rangeD 0 k) M).nox.bind (mkL m) :=
  compK_eq (h := src_range1 _ _ (by unfold small; exact decide_eq_true ⟨by omega, by omega⟩)) (hl := by rw [len_rangeD]; exact Nat.le_trans (show (k - 0).toNat ≤ 1000 by omega) (by decide)) ..
/-- [.. for x in range(k)], drawing -/
theorem ok_draws {k : Int} (P : D → Prop) (hk : 0 ≤ k ∧ k ≤ 1000) (h : Bag i M)
    (hs : ∀ d M, 0 ≤ d → d < k → Bag i M → Ok (cStep cf b pt own cond elt ρ (.int d) M) (fun o M' => ∃ v, o = some v ∧ P v ∧ BagSt i M M'))
    (hq : ∀ vs M', (∀ v ∈ vs, P v) → vs.length = k.toNat → BagSt i M M' → Q (.lst vs) M') : Ok (compK cf b false own pt .range1 cond elt ρ [.int k] M) Q := by
  rw [compK_rng hk]
  refine Ok.bind (Ok.nox ((ok_comp_bag P noGrd0 h fun d hd M hb => ?_).mono fun vs M' q => ?_))
  · obtain ⟨j, rfl, h0, h1⟩ := mem_rangeD hd
    exact hs j M h0 h1 hb
  · obtain ⟨p, hl, st⟩ := q
    rw [len_rangeD, Int.sub_zero] at hl
    rw [mkL_ok _ _ (by omega)]
    exact hq vs M' p hl st
end
theorem V.frac0 {d : Int} {a c : Int} {s : Nat} (ha : Bd s a) (hc : Bd s c) (h : c ≠ 0) : V (d := d) s (val d (low a 0 c)) (low a 0 c) := ⟨low_isN h, low_sz ha ⟨by show (0 : Int).natAbs < _; exact Nat.pow_pos (by decide)⟩ hc, rfl⟩
theorem comp_mapT {A : Type} {g : List Grd} {step : D → Mem → Res (Option D)} {M : Mem} (e f : A → D) (hg : NoGrd g) : ∀ (xs : List A), (∀ x ∈ xs, step (e x) M = .ok (some (f x)) M) → compL g step (xs.map e) M = .ok (xs.map f) M
  | [], _ => by rw [List.map_nil, compL_nil (h := hg)]; rfl
  | x :: r, h => by
    rw [List.map_cons, compL_cons (h := hg), h x List.mem_cons_self, Res.bind_ok, compC_eq, comp_mapT e f hg r (fun y hy => h y (List.mem_cons_of_mem _ hy)), Res.bind_ok, compC2_some, List.map_cons]
theorem boolsOf_map {A : Type} (f : A → Bool) : ∀ xs : List A, boolsOf (xs.map fun x => D.bl (f x)) = some (xs.map f)
  | [] => rfl
  | x :: r => by rw [List.map_cons, List.map_cons, boolsOf, boolsOf_map f r]; rfl
theorem intsOf_map {A : Type} (f : A → Int) : ∀ xs : List A, intsOf (xs.map fun x => D.int (f x)) = some (xs.map f)
  | [] => rfl
  | x :: r => by rw [List.map_cons, List.map_cons, intsOf, intsOf_map f r]; rfl
theorem anyE_map {A : Type} {M : Mem} (f : A → Bool) (xs : List A) : anyE (.lst (xs.map fun x => D.bl (f x))) M = .ok (.bl (xs.any f)) M := by
  rw [anyE_of _ (boolsOf_map f xs), List.any_map]
  rfl
theorem lensetE_map {A : Type} {M : Mem} (f : A → Int) (xs : List A) (h : xs.length ≤ 1000) : lensetE (.lst (xs.map fun x => D.int (f x))) M = .ok (.int (distinct (xs.map f)).length) M := by
  unfold lensetE
  rw [show (look M (.lst (xs.map fun x => D.int (f x)))).bind intsOf = intsOf (xs.map fun x => D.int (f x)) from rfl, intsOf_map]
  dsimp only
  rw [if_pos (by rw [List.length_map]; exact h)]
theorem ok_idxP {xs : List D} {M : Mem} {k : Int} {Q : D → Mem → Prop} (P : D → Prop) (h0 : 0 ≤ k) (h1 : k < xs.length) (hP : ∀ x ∈ xs, P x) (h : ∀ x, P x → Q x M) : Ok (idxE (.lst xs) (.int k) M) Q := by
  obtain ⟨x, hx, e⟩ := idx_mem (xs := xs) M h0 h1
  exact Ok.of e (h x (hP x hx))
/-! ## Things of any kind -/
mutual
theorem pure_of_shp : ∀ (k : Nat) (d : D), d.shp k = true → d.pure = true
  | _, .non, _ => rfl
  | _, .bl _, _ => rfl
  | _, .int _, _ => rfl
  | _, .str _, _ => rfl
  | k + 1, .tup xs, h => by rw [pure_tup]; exact pures_of_shps k xs (by simpa [D.shp] using h)
  | k + 1, .lst xs, h => by rw [pure_lst]; exact pures_of_shps k xs (by simpa [D.shp] using h)
  | 0, .tup _, h => by simp [D.shp] at h
  | 0, .lst _, h => by simp [D.shp] at h
  | _, .ref _, h => by simp [D.shp] at h
  | _, .fix _, h => by simp [D.shp] at h
theorem pures_of_shps : ∀ (k : Nat) (xs : List D), shps k xs = true → pures xs = true
  | _, [], _ => rfl
  | k, x :: r, h => by
    simp only [shps, Bool.and_eq_true] at h
    rw [pures_cons, pure_of_shp k x h.1, pures_of_shps k r h.2]
    rfl
end
theorem plain_of_shp {k : Nat} {d : D} (h : d.shp k = true) : Plain d := by
  cases d <;> first | trivial | (simp [D.shp] at h)
theorem shps_mem {k : Nat} : ∀ {xs : List D}, shps k xs = true → ∀ x ∈ xs, x.shp k = true
  | [], _, x, hx => by cases hx
  | y :: r, h, x, hx => by
    simp only [shps, Bool.and_eq_true] at h
    rcases List.mem_cons.mp hx with rfl | hx
    · exact h.1
    · exact shps_mem h.2 x hx
theorem plain_parts {k : Nat} {d : D} (h : d.shp k = true) : ∀ xs, d = .tup xs → ∀ x ∈ xs, Plain x := fun xs e x hx => by
  subst e
  cases k with
  | zero => simp [D.shp] at h
  | succ k =>
    rw [shp_tup] at h
    exact plain_of_shp (shps_mem h x hx)
theorem compR_rng {cf : Nat → List D → Mem → Res D} {b : Nat} {ρ : Env} {M : Mem} {own : List Nat} {pt : Pat} {cond : Tms} {elt : Tm} {a k : Int} {m : Bool} (ha : -1000 ≤ a) (hk : k ≤ 1000) (ha2 : a ≤ 1000) (hk2 : -1000 ≤ k) : compK cf b m own pt .range2 cond elt ρ [.int a, .int k] M = (compL [] (cStep cf b pt own cond elt ρ) ((List.range (k - a).toNat).map (fun i : Nat => D.int (a + (i : Int)))) M).nox.bind (mkL m) :=
  compK_eq (its := (List.range (k - a).toNat).map (fun i : Nat => D.int (a + (i : Int)))) (g := []) (h := by
    show (if small a = true ∧ small k = true then some ((List.range (k - a).toNat).map (fun (i : Nat) => D.int (a + (i : Int))), []) else none) = _
    rw [if_pos ⟨by unfold small; exact decide_eq_true ⟨by omega, by omega⟩, by unfold small; exact decide_eq_true ⟨by omega, by omega⟩⟩]) (hl := by rw [List.length_map, List.length_range]; exact Nat.le_trans (show (k - a).toNat ≤ 2000 by omega) (by decide)) ..

/-! the defs of the text as terms (printed by gen.py) -/
def Fn0 : Fn := { name := "", ps := [], N := [], keep := false, body := .nil }
def B_is_whole : Sms :=
    (.cons (.ret (.and (.prim (.isi .int) (.cons (.var 0) .nil)) (.prim .notb (.cons (.prim (.isi .bool) (.cons (.var 0) .nil)) .nil))))
    .nil)
def F_is_whole : Fn := { name := "is_whole", ps := ["thing"], N := ["thing"], keep := false, body := B_is_whole }
def B_shared : Sms :=
    (.cons (.asg (.tup [(.name 0), (.name 1)]) (.prim .tup (.cons (.prim .abs (.cons (.var 0) .nil)) (.cons (.prim .abs (.cons (.var 1) .nil)) .nil))))
    (.cons (.whil (.prim .gt (.cons (.var 1) (.cons (.con (.int 0)) .nil))) (.cons (.asg (.tup [(.name 0), (.name 1)]) (.prim .tup (.cons (.var 1) (.cons (.prim .mod (.cons (.var 0) (.cons (.var 1) .nil))) .nil)))) .nil))
    (.cons (.ret (.var 0))
    .nil)))
def F_shared : Fn := { name := "shared", ps := ["one", "other"], N := ["one", "other"], keep := false, body := B_shared }
def B_is_number : Sms :=
    (.cons (.ite (.or (.prim .notb (.cons (.prim (.isi .tuple) (.cons (.var 0) .nil)) .nil)) (.or (.prim .ne (.cons (.prim .len (.cons (.var 0) .nil)) (.cons (.con (.int 3)) .nil))) (.prim .notb (.cons (.prim .all (.cons (.comp false [4] (.name 4) .seq (.cons (.var 0) .nil) .nil (.call 0 (.cons (.var 4) .nil))) .nil)) .nil)))) (.cons (.ret (.con (.bl false))) .nil) .nil)
    (.cons (.asg (.tup [(.name 1), (.name 2), (.name 3)]) (.var 0))
    (.cons (.ret (.and (.prim .ge (.cons (.var 3) (.cons (.con (.int 1)) .nil))) (.prim .eq (.cons (.call 2 (.cons (.call 2 (.cons (.var 1) (.cons (.var 2) .nil))) (.cons (.var 3) .nil))) (.cons (.con (.int 1)) .nil)))))
    .nil)))
def F_is_number : Fn := { name := "is_number", ps := ["thing"], N := ["thing", "a", "b", "c", "part"], keep := false, body := B_is_number }
def B_root_text : Sms :=
    (.cons (.ite (.prim .isin (.cons (.var 0) (.cons (.prim .tup (.cons (.con (.int 1)) (.cons (.prim .neg (.cons (.con (.int 1)) .nil)) .nil))) .nil))) (.cons (.ret (.ite (.prim .gt (.cons (.var 0) (.cons (.con (.int 0)) .nil))) (.con (.str "r")) (.con (.str "-r")))) .nil) .nil)
    (.cons (.ret (.prim .add (.cons (.prim .str1 (.cons (.var 0) .nil)) (.cons (.con (.str "r")) .nil))))
    .nil))
def F_root_text : Fn := { name := "root_text", ps := ["b"], N := ["b"], keep := false, body := B_root_text }
def B_show_number : Sms :=
    (.cons (.asg (.tup [(.name 3), (.name 4), (.name 5)]) (.var 0))
    (.cons (.asg (.name 1) (.ite (.prim .eq (.cons (.var 5) (.cons (.con (.int 1)) .nil))) (.con (.str "")) (.prim .add (.cons (.con (.str "/")) (.cons (.prim .str1 (.cons (.var 5) .nil)) .nil)))))
    (.cons (.ite (.prim .eq (.cons (.var 4) (.cons (.con (.int 0)) .nil))) (.cons (.ret (.prim .add (.cons (.prim .str1 (.cons (.var 3) .nil)) (.cons (.var 1) .nil)))) .nil) .nil)
    (.cons (.ite (.prim .eq (.cons (.var 3) (.cons (.con (.int 0)) .nil))) (.cons (.ret (.prim .add (.cons (.call 386 (.cons (.var 4) .nil)) (.cons (.var 1) .nil)))) .nil) .nil)
    (.cons (.asg (.name 2) (.prim .add (.cons (.prim .add (.cons (.prim .str1 (.cons (.var 3) .nil)) (.cons (.ite (.prim .gt (.cons (.var 4) (.cons (.con (.int 0)) .nil))) (.con (.str "+")) (.con (.str ""))) .nil))) (.cons (.call 386 (.cons (.var 4) .nil)) .nil))))
    (.cons (.ret (.ite (.prim .eq (.cons (.var 5) (.cons (.con (.int 1)) .nil))) (.var 2) (.prim .add (.cons (.prim .add (.cons (.prim .add (.cons (.con (.str "(")) (.cons (.var 2) .nil))) (.cons (.con (.str ")")) .nil))) (.cons (.var 1) .nil)))))
    .nil))))))
def F_show_number : Fn := { name := "show_number", ps := ["x"], N := ["x", "end", "text", "a", "b", "c"], keep := false, body := B_show_number }
def B_whole_of : Sms :=
    (.cons (.asg (.name 1) (.ite (.prim .eq (.cons (.prim (.slc false true false) (.cons (.var 0) (.cons (.con (.int 1)) .nil))) (.cons (.con (.str "-")) .nil))) (.prim (.slc true false false) (.cons (.var 0) (.cons (.con (.int 1)) .nil))) (.var 0)))
    (.cons (.ite (.or (.prim .eq (.cons (.var 1) (.cons (.con (.str "")) .nil))) (.or (.prim .gt (.cons (.prim .len (.cons (.var 1) .nil)) (.cons (.con (.int 40)) .nil))) (.prim .notb (.cons (.prim .all (.cons (.comp false [2] (.name 2) .seq (.cons (.var 1) .nil) .nil (.prim .isin (.cons (.var 2) (.cons (.con (.str "0123456789")) .nil)))) .nil)) .nil)))) (.cons (.ret (.con .non)) .nil) .nil)
    (.cons (.ret (.prim .int1 (.cons (.var 0) .nil)))
    .nil)))
def F_whole_of : Fn := { name := "whole_of", ps := ["text"], N := ["text", "figures", "sign"], keep := false, body := B_whole_of }
def B_roots_of : Sms :=
    (.cons (.ite (.prim .isin (.cons (.var 0) (.cons (.prim .tup (.cons (.con (.str "")) (.cons (.con (.str "+")) (.cons (.con (.str "-")) .nil)))) .nil))) (.cons (.ret (.ite (.prim .eq (.cons (.var 0) (.cons (.con (.str "-")) .nil))) (.prim .neg (.cons (.con (.int 1)) .nil)) (.con (.int 1)))) .nil) .nil)
    (.cons (.ret (.call 388 (.cons (.ite (.prim .eq (.cons (.prim (.slc false true false) (.cons (.var 0) (.cons (.con (.int 1)) .nil))) (.cons (.con (.str "+")) .nil))) (.prim (.slc true false false) (.cons (.var 0) (.cons (.con (.int 1)) .nil))) (.var 0)) .nil)))
    .nil))
def F_roots_of : Fn := { name := "roots_of", ps := ["text"], N := ["text"], keep := false, body := B_roots_of }
def B_top_of : Sms :=
    (.cons (.ite (.prim .ne (.cons (.prim (.slc true false false) (.cons (.var 0) (.cons (.prim .neg (.cons (.con (.int 1)) .nil)) .nil))) (.cons (.con (.str "r")) .nil))) (.cons (.ret (.prim .tup (.cons (.call 388 (.cons (.var 0) .nil)) (.cons (.con (.int 0)) .nil)))) .nil) .nil)
    (.cons (.asg (.name 1) (.prim .max2 (.cons (.smeth .rfind (.var 0) (.cons (.con (.str "+")) .nil)) (.cons (.smeth .rfind (.var 0) (.cons (.con (.str "-")) .nil)) .nil))))
    (.cons (.ite (.prim .lt (.cons (.var 1) (.cons (.con (.int 1)) .nil))) (.cons (.ret (.prim .tup (.cons (.con (.int 0)) (.cons (.call 389 (.cons (.prim (.slc false true false) (.cons (.var 0) (.cons (.prim .neg (.cons (.con (.int 1)) .nil)) .nil))) .nil)) .nil)))) .nil) .nil)
    (.cons (.ret (.prim .tup (.cons (.call 388 (.cons (.prim (.slc false true false) (.cons (.var 0) (.cons (.var 1) .nil))) .nil)) (.cons (.call 389 (.cons (.slc2 false (.var 0) (.var 1) (.prim .neg (.cons (.con (.int 1)) .nil))) .nil)) .nil))))
    .nil))))
def F_top_of : Fn := { name := "top_of", ps := ["text"], N := ["text", "place"], keep := false, body := B_top_of }
def B_number_in : Sms :=
    (.cons (.asg (.tup [(.name 2), (.name 3), (.name 4)]) (.smeth .part3 (.var 0) (.cons (.con (.str "/")) .nil)))
    (.cons (.ite (.and (.prim .eq (.cons (.prim (.slc false true false) (.cons (.var 2) (.cons (.con (.int 1)) .nil))) (.cons (.con (.str "(")) .nil))) (.prim .eq (.cons (.prim (.slc true false false) (.cons (.var 2) (.cons (.prim .neg (.cons (.con (.int 1)) .nil)) .nil))) (.cons (.con (.str ")")) .nil)))) (.cons (.asg (.name 2) (.slc2 false (.var 2) (.con (.int 1)) (.prim .neg (.cons (.con (.int 1)) .nil)))) .nil) .nil)
    (.cons (.asg (.tup [(.name 5), (.name 6)]) (.call 390 (.cons (.var 2) .nil)))
    (.cons (.asg (.name 1) (.ite (.prim .eq (.cons (.var 3) (.cons (.con (.str "/")) .nil))) (.call 388 (.cons (.var 4) .nil)) (.con (.int 1))))
    (.cons (.ite (.or (.prim .is (.cons (.var 5) (.cons (.con .non) .nil))) (.or (.prim .is (.cons (.var 6) (.cons (.con .non) .nil))) (.or (.prim .is (.cons (.var 1) (.cons (.con .non) .nil))) (.prim .notb (.cons (.call 3 (.cons (.prim .tup (.cons (.var 5) (.cons (.var 6) (.cons (.var 1) .nil)))) .nil)) .nil))))) (.cons (.ret (.con .non)) .nil) .nil)
    (.cons (.ret (.prim .tup (.cons (.var 5) (.cons (.var 6) (.cons (.var 1) .nil)))))
    .nil))))))
def F_number_in : Fn := { name := "number_in", ps := ["text"], N := ["text", "c", "ahead", "stroke", "behind", "a", "b"], keep := false, body := B_number_in }
def B_number_by : Sms :=
    (.cons (.asg (.name 1) (.call 391 (.cons (.var 0) .nil)))
    (.cons (.ret (.ite (.and (.prim .isnot (.cons (.var 1) (.cons (.con .non) .nil))) (.prim .eq (.cons (.call 387 (.cons (.var 1) .nil)) (.cons (.var 0) .nil)))) (.var 1) (.con .non)))
    .nil))
def F_number_by : Fn := { name := "number_by", ps := ["text"], N := ["text", "found"], keep := false, body := B_number_by }
def B_read_number : Sms :=
    (.cons (.asg (.name 1) (.ite (.prim (.isi .str) (.cons (.var 0) .nil)) (.call 392 (.cons (.var 0) .nil)) (.con .non)))
    (.cons (.ite (.prim .is (.cons (.var 1) (.cons (.con .non) .nil))) (.cons (.raise "NoText") .nil) .nil)
    (.cons (.ret (.var 1))
    .nil)))
def F_read_number : Fn := { name := "read_number", ps := ["text"], N := ["text", "found"], keep := false, body := B_read_number }
def B_law_bag : Sms :=
    (.cons (.asg (.name 2) (.con (.int 0)))
    (.cons (.ite (.prim .lt (.cons (.var 1) (.cons (.prim .len (.cons (.var 0) .nil)) .nil))) (.cons (.asg (.name 2) (.prim .idx (.cons (.var 0) (.cons (.var 1) .nil)))) .nil) .nil)
    (.cons (.asg (.name 3) (.con (.int 0)))
    (.cons (.ite (.prim .ge (.cons (.prim .abs (.cons (.var 2) .nil)) (.cons (.prim .pow (.cons (.con (.int 10)) (.cons (.con (.int 18)) .nil))) .nil))) (.cons (.asg (.name 3) (.prim .abs (.cons (.var 2) .nil))) .nil) .nil)
    (.cons (.asg (.name 4) (.prim (.lst false) (.cons (.con (.int 2147483647)) (.cons (.con (.int 2147483629)) (.cons (.con (.int 2147483587)) (.cons (.con (.int 2147483579)) (.cons (.con (.int 2147483563)) (.cons (.con (.int 2147483549)) (.cons (.con (.int 2147483543)) (.cons (.con (.int 2147483497)) .nil))))))))))
    (.cons (.asg (.name 5) (.prim .add (.cons (.prim .add (.cons (.prim .add (.cons (.prim .mul (.cons (.prim .mod (.cons (.var 2) (.cons (.con (.int 2147483647)) .nil))) (.cons (.con (.int 69623)) .nil))) (.cons (.prim .mul (.cons (.prim .mul (.cons (.con (.int 104729)) (.cons (.var 1) .nil))) (.cons (.var 1) .nil))) .nil))) (.cons (.prim .mul (.cons (.con (.int 7919)) (.cons (.var 1) .nil))) .nil))) (.cons (.con (.int 12345)) .nil))))
    (.cons (.ret (.prim (.lst true) (.cons (.var 3) (.cons (.prim .mod (.cons (.var 5) (.cons (.prim .idx (.cons (.var 4) (.cons (.prim .mod (.cons (.var 1) (.cons (.con (.int 8)) .nil))) .nil))) .nil))) .nil))))
    .nil)))))))
def F_law_bag : Fn := { name := "_law_bag", ps := ["_law_script", "_law_at"], N := ["_law_script", "_law_at", "_law_cell", "_law_great", "_law_primes", "_law_mixed"], keep := true, body := B_law_bag }
def B_law_take : Sms :=
    (.cons (.ite (.prim .gt (.cons (.prim .idx (.cons (.var 0) (.cons (.con (.int 0)) .nil))) (.cons (.con (.int 0)) .nil))) (.cons (.asg (.name 2) (.prim .mod (.cons (.prim .idx (.cons (.var 0) (.cons (.con (.int 0)) .nil))) (.cons (.var 1) .nil)))) (.cons (.setI (.var 0) (.con (.int 0)) (.prim .fdiv (.cons (.prim .idx (.cons (.var 0) (.cons (.con (.int 0)) .nil))) (.cons (.var 1) .nil)))) (.cons (.ret (.var 2)) .nil))) .nil)
    (.cons (.setI (.var 0) (.con (.int 1)) (.prim .mod (.cons (.prim .add (.cons (.prim .mul (.cons (.prim .idx (.cons (.var 0) (.cons (.con (.int 1)) .nil))) (.cons (.con (.int 48271)) .nil))) (.cons (.con (.int 2531011)) .nil))) (.cons (.con (.int 2147483647)) .nil))))
    (.cons (.ret (.prim .mod (.cons (.prim .fdiv (.cons (.prim .mod (.cons (.prim .pow (.cons (.prim .idx (.cons (.var 0) (.cons (.con (.int 1)) .nil))) (.cons (.con (.int 3)) .nil))) (.cons (.con (.int 2147483629)) .nil))) (.cons (.con (.int 64)) .nil))) (.cons (.var 1) .nil))))
    .nil)))
def F_law_take : Fn := { name := "_law_take", ps := ["_law_bag_here", "_law_many"], N := ["_law_bag_here", "_law_many", "_law_digit"], keep := false, body := B_law_take }
def B_law_is_whole : Sms :=
    (.cons (.ret (.and (.prim (.isi .int) (.cons (.var 0) .nil)) (.prim .notb (.cons (.prim (.isi .bool) (.cons (.var 0) .nil)) .nil))))
    .nil)
def F_law_is_whole : Fn := { name := "_law_is_whole", ps := ["_law_thing"], N := ["_law_thing"], keep := false, body := B_law_is_whole }
def B_law_shared : Sms :=
    (.cons (.asg (.tup [(.name 0), (.name 1)]) (.prim .tup (.cons (.prim .abs (.cons (.var 0) .nil)) (.cons (.prim .abs (.cons (.var 1) .nil)) .nil))))
    (.cons (.whil (.prim .gt (.cons (.var 1) (.cons (.con (.int 0)) .nil))) (.cons (.asg (.tup [(.name 0), (.name 1)]) (.prim .tup (.cons (.var 1) (.cons (.prim .mod (.cons (.var 0) (.cons (.var 1) .nil))) .nil)))) .nil))
    (.cons (.ret (.var 0))
    .nil)))
def F_law_shared : Fn := { name := "_law_shared", ps := ["_law_one", "_law_other"], N := ["_law_one", "_law_other"], keep := false, body := B_law_shared }
def B_law_low : Sms :=
    (.cons (.asg (.name 3) (.prim .mul (.cons (.call 7 (.cons (.call 7 (.cons (.var 0) (.cons (.var 1) .nil))) (.cons (.var 2) .nil))) (.cons (.prim .idx (.cons (.prim (.lst false) (.cons (.con (.int 1)) (.cons (.prim .neg (.cons (.con (.int 1)) .nil)) .nil))) (.cons (.prim .int1 (.cons (.prim .lt (.cons (.var 2) (.cons (.con (.int 0)) .nil))) .nil)) .nil))) .nil))))
    (.cons (.ret (.prim .tup (.cons (.prim .fdiv (.cons (.var 0) (.cons (.var 3) .nil))) (.cons (.prim .fdiv (.cons (.var 1) (.cons (.var 3) .nil))) (.cons (.prim .fdiv (.cons (.var 2) (.cons (.var 3) .nil))) .nil)))))
    .nil))
def F_law_low : Fn := { name := "_law_low", ps := ["_law_a", "_law_b", "_law_c"], N := ["_law_a", "_law_b", "_law_c", "_law_common"], keep := false, body := B_law_low }
def B_law_is_number : Sms :=
    (.cons (.ite (.or (.prim .notb (.cons (.prim (.isi .tuple) (.cons (.var 0) .nil)) .nil)) (.or (.prim .ne (.cons (.prim .len (.cons (.var 0) .nil)) (.cons (.con (.int 3)) .nil))) (.prim .notb (.cons (.prim .all (.cons (.comp false [1] (.name 1) .seq (.cons (.var 0) .nil) .nil (.call 6 (.cons (.var 1) .nil))) .nil)) .nil)))) (.cons (.ret (.con (.bl false))) .nil) .nil)
    (.cons (.ret (.and (.prim .gt (.cons (.prim .idx (.cons (.var 0) (.cons (.con (.int 2)) .nil))) (.cons (.con (.int 0)) .nil))) (.prim .eq (.cons (.call 7 (.cons (.call 7 (.cons (.prim .idx (.cons (.var 0) (.cons (.con (.int 0)) .nil))) (.cons (.prim .idx (.cons (.var 0) (.cons (.con (.int 1)) .nil))) .nil))) (.cons (.prim .idx (.cons (.var 0) (.cons (.con (.int 2)) .nil))) .nil))) (.cons (.con (.int 1)) .nil)))))
    .nil))
def F_law_is_number : Fn := { name := "_law_is_number", ps := ["_law_thing"], N := ["_law_thing", "_law_one"], keep := false, body := B_law_is_number }
def B_law_number : Sms :=
    (.cons (.asg (.name 1) (.prim .idx (.cons (.prim (.lst false) (.cons (.con (.int 4)) (.cons (.con (.int 10)) (.cons (.con (.int 100)) (.cons (.con (.int 1000000)) .nil))))) (.cons (.call 5 (.cons (.var 0) (.cons (.con (.int 4)) .nil))) .nil))))
    (.cons (.asg (.tup [(.name 4), (.name 5)]) (.prim .tup (.cons (.prim .sub (.cons (.call 5 (.cons (.var 0) (.cons (.var 1) .nil))) (.cons (.prim .fdiv (.cons (.var 1) (.cons (.con (.int 2)) .nil))) .nil))) (.cons (.prim .sub (.cons (.call 5 (.cons (.var 0) (.cons (.var 1) .nil))) (.cons (.prim .fdiv (.cons (.var 1) (.cons (.con (.int 2)) .nil))) .nil))) .nil))))
    (.cons (.asg (.name 2) (.prim .add (.cons (.con (.int 1)) (.cons (.call 5 (.cons (.var 0) (.cons (.prim .sub (.cons (.var 1) (.cons (.con (.int 1)) .nil))) .nil))) .nil))))
    (.cons (.asg (.name 3) (.call 5 (.cons (.var 0) (.cons (.con (.int 8)) .nil))))
    (.cons (.ret (.call 8 (.cons (.prim .idx (.cons (.prim (.lst false) (.cons (.var 4) (.cons (.var 4) (.cons (.var 4) (.cons (.var 4) (.cons (.var 4) (.cons (.var 4) (.cons (.var 4) (.cons (.con (.int 0)) .nil))))))))) (.cons (.var 3) .nil))) (.cons (.prim .idx (.cons (.prim (.lst false) (.cons (.var 5) (.cons (.var 5) (.cons (.var 5) (.cons (.var 5) (.cons (.var 5) (.cons (.con (.int 0)) (.cons (.con (.int 0)) (.cons (.var 5) .nil))))))))) (.cons (.var 3) .nil))) (.cons (.prim .idx (.cons (.prim (.lst false) (.cons (.var 2) (.cons (.var 2) (.cons (.con (.int 1)) (.cons (.var 2) (.cons (.con (.int 1)) (.cons (.var 2) (.cons (.con (.int 1)) (.cons (.var 2) .nil))))))))) (.cons (.var 3) .nil))) .nil)))))
    .nil)))))
def F_law_number : Fn := { name := "_law_number", ps := ["_law_bag_here"], N := ["_law_bag_here", "_law_wide", "_law_c", "_law_way", "_law_a", "_law_b"], keep := false, body := B_law_number }
def B_law_roots : Sms :=
    (.cons (.ite (.prim .eq (.cons (.var 0) (.cons (.con (.int 1)) .nil))) (.cons (.ret (.con (.str "r"))) .nil) .nil)
    (.cons (.ite (.prim .eq (.cons (.var 0) (.cons (.prim .neg (.cons (.con (.int 1)) .nil)) .nil))) (.cons (.ret (.con (.str "-r"))) .nil) .nil)
    (.cons (.ret (.prim .add (.cons (.prim .str1 (.cons (.var 0) .nil)) (.cons (.con (.str "r")) .nil))))
    .nil)))
def F_law_roots : Fn := { name := "_law_roots", ps := ["_law_b"], N := ["_law_b"], keep := false, body := B_law_roots }
def B_law_text : Sms :=
    (.cons (.asg (.tup [(.name 2), (.name 3), (.name 4)]) (.var 0))
    (.cons (.asg (.name 1) (.prim .str1 (.cons (.var 2) .nil)))
    (.cons (.ite (.and (.prim .ne (.cons (.var 3) (.cons (.con (.int 0)) .nil))) (.prim .eq (.cons (.var 2) (.cons (.con (.int 0)) .nil)))) (.cons (.asg (.name 1) (.call 394 (.cons (.var 3) .nil))) .nil) (.cons (.ite (.prim .ne (.cons (.var 3) (.cons (.con (.int 0)) .nil))) (.cons (.asg (.name 1) (.ite (.prim .gt (.cons (.var 3) (.cons (.con (.int 0)) .nil))) (.prim .add (.cons (.prim .add (.cons (.prim .str1 (.cons (.var 2) .nil)) (.cons (.con (.str "+")) .nil))) (.cons (.call 394 (.cons (.var 3) .nil)) .nil))) (.prim .add (.cons (.prim .str1 (.cons (.var 2) .nil)) (.cons (.call 394 (.cons (.var 3) .nil)) .nil))))) (.cons (.ite (.prim .ne (.cons (.var 4) (.cons (.con (.int 1)) .nil))) (.cons (.asg (.name 1) (.prim .add (.cons (.prim .add (.cons (.con (.str "(")) (.cons (.var 1) .nil))) (.cons (.con (.str ")")) .nil)))) .nil) .nil) .nil)) .nil) .nil))
    (.cons (.ret (.ite (.prim .eq (.cons (.var 4) (.cons (.con (.int 1)) .nil))) (.var 1) (.prim .add (.cons (.prim .add (.cons (.var 1) (.cons (.con (.str "/")) .nil))) (.cons (.prim .str1 (.cons (.var 4) .nil)) .nil)))))
    .nil))))
def F_law_text : Fn := { name := "_law_text", ps := ["_law_x"], N := ["_law_x", "_law_text_here", "_law_a", "_law_b", "_law_c"], keep := false, body := B_law_text }
def B_law_any_number : Sms :=
    (.cons (.asg (.name 1) (.call 5 (.cons (.var 0) (.cons (.con (.int 4)) .nil))))
    (.cons (.ite (.prim .lt (.cons (.var 1) (.cons (.con (.int 2)) .nil))) (.cons (.ret (.call 10 (.cons (.var 0) .nil))) .nil) .nil)
    (.cons (.asg (.name 2) (.con (.int 10)))
    (.cons (.for_ (.name 3) .range1 (.cons (.prim .idx (.cons (.prim (.lst false) (.cons (.con (.int 39)) (.cons (.call 5 (.cons (.var 0) (.cons (.con (.int 39)) .nil))) .nil))) (.cons (.prim .sub (.cons (.con (.int 3)) (.cons (.var 1) .nil))) .nil))) .nil) (.cons (.asg (.name 2) (.prim .mul (.cons (.var 2) (.cons (.con (.int 10)) .nil)))) .nil))
    (.cons (.asg (.tup [(.name 5), (.name 6)]) (.comp false [7] (.name 7) .range1 (.cons (.con (.int 2)) .nil) .nil (.prim .mul (.cons (.call 397 (.cons (.var 0) (.cons (.var 2) .nil))) (.cons (.prim .sub (.cons (.con (.int 1)) (.cons (.prim .mul (.cons (.con (.int 2)) (.cons (.call 5 (.cons (.var 0) (.cons (.con (.int 2)) .nil))) .nil))) .nil))) .nil)))))
    (.cons (.asg (.name 4) (.prim .add (.cons (.con (.int 1)) (.cons (.prim .mod (.cons (.call 397 (.cons (.var 0) (.cons (.var 2) .nil))) (.cons (.prim .sub (.cons (.var 2) (.cons (.con (.int 1)) .nil))) .nil))) .nil))))
    (.cons (.ret (.call 8 (.cons (.prim .idx (.cons (.prim (.lst false) (.cons (.var 5) (.cons (.var 5) (.cons (.con (.int 0)) (.cons (.var 5) .nil))))) (.cons (.call 5 (.cons (.var 0) (.cons (.con (.int 4)) .nil))) .nil))) (.cons (.prim .idx (.cons (.prim (.lst false) (.cons (.var 6) (.cons (.con (.int 1)) (.cons (.var 6) (.cons (.prim .neg (.cons (.con (.int 1)) .nil)) (.cons (.con (.int 0)) .nil)))))) (.cons (.call 5 (.cons (.var 0) (.cons (.con (.int 5)) .nil))) .nil))) (.cons (.prim .idx (.cons (.prim (.lst false) (.cons (.var 4) (.cons (.con (.int 1)) .nil))) (.cons (.call 5 (.cons (.var 0) (.cons (.con (.int 2)) .nil))) .nil))) .nil)))))
    .nil)))))))
def F_law_any_number : Fn := { name := "_law_any_number", ps := ["_law_bag_here"], N := ["_law_bag_here", "_law_way", "_law_wide", "_law_turn", "_law_c", "_law_a", "_law_b", "_law_k"], keep := false, body := B_law_any_number }
def B_law_digits : Sms :=
    (.cons (.asg (.name 2) (.con (.int 0)))
    (.cons (.for_ (.name 3) .range1 (.cons (.con (.int 10)) .nil) (.cons (.asg (.name 2) (.prim .add (.cons (.prim .mul (.cons (.var 2) (.cons (.prim .pow (.cons (.con (.int 10)) (.cons (.con (.int 4)) .nil))) .nil))) (.cons (.call 5 (.cons (.var 0) (.cons (.prim .pow (.cons (.con (.int 10)) (.cons (.con (.int 4)) .nil))) .nil))) .nil)))) .nil))
    (.cons (.ret (.prim .mod (.cons (.var 2) (.cons (.var 1) .nil))))
    .nil)))
def F_law_digits : Fn := { name := "_law_digits", ps := ["_law_bag_here", "_law_wide"], N := ["_law_bag_here", "_law_wide", "_law_found", "_law_turn"], keep := false, body := B_law_digits }
def B_law_k47 : Sms :=
    (.cons (.asg (.name 1) (.prim (.lst true) .nil))
    (.cons (.for_ (.name 2) .range1 (.cons (.prim .max2 (.cons (.con (.int 2)) (.cons (.prim .min2 (.cons (.con (.int 6)) (.cons (.prim .len (.cons (.var 0) .nil)) .nil))) .nil))) .nil) (.cons (.asg (.name 3) (.call 4 (.cons (.var 0) (.cons (.var 2) .nil)))) (.cons (.for_ (.name 4) .range1 (.cons (.con (.int 6)) .nil) (.cons (.asg (.name 5) (.call 396 (.cons (.var 3) .nil))) (.cons (.asg (.name 6) (.call 387 (.cons (.var 5) .nil))) (.cons (.ite (.or (.prim .notb (.cons (.prim (.isi .str) (.cons (.var 6) .nil)) .nil)) (.prim .ne (.cons (.var 6) (.cons (.call 395 (.cons (.var 5) .nil)) .nil)))) (.cons (.ret (.con (.bl false))) .nil) .nil) (.cons (.asg (.name 7) (.call 393 (.cons (.var 6) .nil))) (.cons (.ite (.or (.prim .notb (.cons (.call 9 (.cons (.var 7) .nil)) .nil)) (.prim .ne (.cons (.var 7) (.cons (.var 5) .nil)))) (.cons (.ret (.con (.bl false))) .nil) .nil) (.cons (.expr (.meth .append (.var 1) (.cons (.prim .tup (.cons (.var 5) (.cons (.var 6) .nil))) .nil))) .nil))))))) .nil)))
    (.cons (.for_ (.tup [(.name 5), (.name 6)]) .seq (.cons (.var 1) .nil) (.cons (.ite (.or (.prim .ne (.cons (.call 387 (.cons (.var 5) .nil)) (.cons (.var 6) .nil))) (.prim .ne (.cons (.call 393 (.cons (.var 6) .nil)) (.cons (.var 5) .nil)))) (.cons (.ret (.con (.bl false))) .nil) .nil) .nil))
    (.cons (.ret (.and (.prim .eq (.cons (.call 387 (.cons (.prim .tup (.cons (.con (.int 0)) (.cons (.prim .neg (.cons (.con (.int 1)) .nil)) (.cons (.con (.int 1)) .nil)))) .nil)) (.cons (.con (.str "-r")) .nil))) (.and (.prim .eq (.cons (.call 387 (.cons (.prim .tup (.cons (.con (.int 1)) (.cons (.prim .neg (.cons (.con (.int 1)) .nil)) (.cons (.con (.int 2)) .nil)))) .nil)) (.cons (.con (.str "(1-r)/2")) .nil))) (.prim .eq (.cons (.call 393 (.cons (.con (.str "0")) .nil)) (.cons (.prim .tup (.cons (.con (.int 0)) (.cons (.con (.int 0)) (.cons (.con (.int 1)) .nil)))) .nil))))))
    .nil))))
def F_law_k47 : Fn := { name := "law", ps := ["_law_script"], N := ["_law_script", "_law_ahead", "_law_k", "_law_bag_here", "_law_turn", "_law_x", "_law_text_here", "_law_told"], keep := false, body := B_law_k47 }
def FNS : List Fn := [F_is_whole, Fn0, F_shared, F_is_number, F_law_bag, F_law_take, F_law_is_whole, F_law_shared, F_law_low, F_law_is_number, F_law_number, Fn0, Fn0, Fn0, Fn0, Fn0, Fn0, Fn0, Fn0, Fn0, Fn0, Fn0, Fn0, Fn0, Fn0, Fn0, Fn0, Fn0, Fn0, Fn0, Fn0, Fn0, Fn0, Fn0, Fn0, Fn0, Fn0, Fn0, Fn0, Fn0, Fn0, Fn0, Fn0, Fn0, Fn0, Fn0, Fn0, Fn0, Fn0, Fn0, Fn0, Fn0, Fn0, Fn0, Fn0, Fn0, Fn0, Fn0, Fn0, Fn0, Fn0, Fn0, Fn0, Fn0, Fn0, Fn0, Fn0, Fn0, Fn0, Fn0, Fn0, Fn0, Fn0, Fn0, Fn0, Fn0, Fn0, Fn0, Fn0, Fn0, Fn0, Fn0, Fn0, Fn0, Fn0, Fn0, Fn0, Fn0, Fn0, Fn0, Fn0, Fn0, Fn0, Fn0, Fn0, Fn0, Fn0, Fn0, Fn0, Fn0, Fn0, Fn0, Fn0, Fn0, Fn0, Fn0, Fn0, Fn0, Fn0, Fn0, Fn0, Fn0, Fn0, Fn0, Fn0, Fn0, Fn0, Fn0, Fn0, Fn0, Fn0, Fn0, Fn0, Fn0, Fn0, Fn0, Fn0, Fn0, Fn0, Fn0, Fn0, Fn0, Fn0, Fn0, Fn0, Fn0, Fn0, Fn0, Fn0, Fn0, Fn0, Fn0, Fn0, Fn0, Fn0, Fn0, Fn0, Fn0, Fn0, Fn0, Fn0, Fn0, Fn0, Fn0, Fn0, Fn0, Fn0, Fn0, Fn0, Fn0, Fn0, Fn0, Fn0, Fn0, Fn0, Fn0, Fn0, Fn0, Fn0, Fn0, Fn0, Fn0, Fn0, Fn0, Fn0, Fn0, Fn0, Fn0, Fn0, Fn0, Fn0, Fn0, Fn0, Fn0, Fn0, Fn0, Fn0, Fn0, Fn0, Fn0, Fn0, Fn0, Fn0, Fn0, Fn0, Fn0, Fn0, Fn0, Fn0, Fn0, Fn0, Fn0, Fn0, Fn0, Fn0, Fn0, Fn0, Fn0, Fn0, Fn0, Fn0, Fn0, Fn0, Fn0, Fn0, Fn0, Fn0, Fn0, Fn0, Fn0, Fn0, Fn0, Fn0, Fn0, Fn0, Fn0, Fn0, Fn0, Fn0, Fn0, Fn0, Fn0, Fn0, Fn0, Fn0, Fn0, Fn0, Fn0, Fn0, Fn0, Fn0, Fn0, Fn0, Fn0, Fn0, Fn0, Fn0, Fn0, Fn0, Fn0, Fn0, Fn0, Fn0, Fn0, Fn0, Fn0, Fn0, Fn0, Fn0, Fn0, Fn0, Fn0, Fn0, Fn0, Fn0, Fn0, Fn0, Fn0, Fn0, Fn0, Fn0, Fn0, Fn0, Fn0, Fn0, Fn0, Fn0, Fn0, Fn0, Fn0, Fn0, Fn0, Fn0, Fn0, Fn0, Fn0, Fn0, Fn0, Fn0, Fn0, Fn0, Fn0, Fn0, Fn0, Fn0, Fn0, Fn0, Fn0, Fn0, Fn0, Fn0, Fn0, Fn0, Fn0, Fn0, Fn0, Fn0, Fn0, Fn0, Fn0, Fn0, Fn0, Fn0, Fn0, Fn0, Fn0, Fn0, Fn0, Fn0, Fn0, Fn0, Fn0, Fn0, Fn0, Fn0, Fn0, Fn0, Fn0, Fn0, Fn0, Fn0, Fn0, Fn0, Fn0, Fn0, Fn0, Fn0, Fn0, Fn0, Fn0, Fn0, Fn0, Fn0, Fn0, Fn0, Fn0, Fn0, Fn0, Fn0, Fn0, Fn0, Fn0, Fn0, Fn0, Fn0, Fn0, Fn0, Fn0, Fn0, Fn0, Fn0, Fn0, Fn0, Fn0, Fn0, Fn0, Fn0, Fn0, Fn0, Fn0, Fn0, Fn0, Fn0, Fn0, Fn0, Fn0, Fn0, Fn0, Fn0, Fn0, Fn0, Fn0, Fn0, Fn0, Fn0, Fn0, F_root_text, F_show_number, F_whole_of, F_roots_of, F_top_of, F_number_in, F_number_by, F_read_number, F_law_roots, F_law_text, F_law_any_number, F_law_digits, F_law_k47]
theorem at_F_is_whole : FNS[0]? = some F_is_whole := by kernel_rfl
theorem at_F_shared : FNS[2]? = some F_shared := by kernel_rfl
theorem at_F_is_number : FNS[3]? = some F_is_number := by kernel_rfl
theorem at_F_root_text : FNS[386]? = some F_root_text := by kernel_rfl
theorem at_F_show_number : FNS[387]? = some F_show_number := by kernel_rfl
theorem at_F_whole_of : FNS[388]? = some F_whole_of := by kernel_rfl
theorem at_F_roots_of : FNS[389]? = some F_roots_of := by kernel_rfl
theorem at_F_top_of : FNS[390]? = some F_top_of := by kernel_rfl
theorem at_F_number_in : FNS[391]? = some F_number_in := by kernel_rfl
theorem at_F_number_by : FNS[392]? = some F_number_by := by kernel_rfl
theorem at_F_read_number : FNS[393]? = some F_read_number := by kernel_rfl
theorem at_F_law_bag : FNS[4]? = some F_law_bag := by kernel_rfl
theorem at_F_law_take : FNS[5]? = some F_law_take := by kernel_rfl
theorem at_F_law_is_whole : FNS[6]? = some F_law_is_whole := by kernel_rfl
theorem at_F_law_shared : FNS[7]? = some F_law_shared := by kernel_rfl
theorem at_F_law_low : FNS[8]? = some F_law_low := by kernel_rfl
theorem at_F_law_is_number : FNS[9]? = some F_law_is_number := by kernel_rfl
theorem at_F_law_number : FNS[10]? = some F_law_number := by kernel_rfl
theorem at_F_law_roots : FNS[394]? = some F_law_roots := by kernel_rfl
theorem at_F_law_text : FNS[395]? = some F_law_text := by kernel_rfl
theorem at_F_law_any_number : FNS[396]? = some F_law_any_number := by kernel_rfl
theorem at_F_law_digits : FNS[397]? = some F_law_digits := by kernel_rfl
theorem at_F_law_k47 : FNS[398]? = some F_law_k47 := by kernel_rfl
theorem call_is_whole (n : Nat) (x0 : D) (M : Mem) : callFn FNS (n + 1) 0 [x0] M = fin false M.length (evSs (callFn FNS n) M.length B_is_whole [some x0] M) := call_of at_F_is_whole rfl
theorem call_shared (n : Nat) (x0 x1 : D) (M : Mem) : callFn FNS (n + 1) 2 [x0, x1] M = fin false M.length (evSs (callFn FNS n) M.length B_shared [some x0, some x1] M) := call_of at_F_shared rfl
theorem call_is_number (n : Nat) (x0 : D) (M : Mem) : callFn FNS (n + 1) 3 [x0] M = fin false M.length (evSs (callFn FNS n) M.length B_is_number [some x0, none, none, none, none] M) := call_of at_F_is_number rfl
theorem call_root_text (n : Nat) (x0 : D) (M : Mem) : callFn FNS (n + 1) 386 [x0] M = fin false M.length (evSs (callFn FNS n) M.length B_root_text [some x0] M) := call_of at_F_root_text rfl
theorem call_show_number (n : Nat) (x0 : D) (M : Mem) : callFn FNS (n + 1) 387 [x0] M = fin false M.length (evSs (callFn FNS n) M.length B_show_number [some x0, none, none, none, none, none] M) := call_of at_F_show_number rfl
theorem call_whole_of (n : Nat) (x0 : D) (M : Mem) : callFn FNS (n + 1) 388 [x0] M = fin false M.length (evSs (callFn FNS n) M.length B_whole_of [some x0, none, none] M) := call_of at_F_whole_of rfl
theorem call_roots_of (n : Nat) (x0 : D) (M : Mem) : callFn FNS (n + 1) 389 [x0] M = fin false M.length (evSs (callFn FNS n) M.length B_roots_of [some x0] M) := call_of at_F_roots_of rfl
theorem call_top_of (n : Nat) (x0 : D) (M : Mem) : callFn FNS (n + 1) 390 [x0] M = fin false M.length (evSs (callFn FNS n) M.length B_top_of [some x0, none] M) := call_of at_F_top_of rfl
theorem call_number_in (n : Nat) (x0 : D) (M : Mem) : callFn FNS (n + 1) 391 [x0] M = fin false M.length (evSs (callFn FNS n) M.length B_number_in [some x0, none, none, none, none, none, none] M) := call_of at_F_number_in rfl
theorem call_number_by (n : Nat) (x0 : D) (M : Mem) : callFn FNS (n + 1) 392 [x0] M = fin false M.length (evSs (callFn FNS n) M.length B_number_by [some x0, none] M) := call_of at_F_number_by rfl
theorem call_read_number (n : Nat) (x0 : D) (M : Mem) : callFn FNS (n + 1) 393 [x0] M = fin false M.length (evSs (callFn FNS n) M.length B_read_number [some x0, none] M) := call_of at_F_read_number rfl
theorem call_law_bag (n : Nat) (x0 x1 : D) (M : Mem) : callFn FNS (n + 1) 4 [x0, x1] M = fin true M.length (evSs (callFn FNS n) M.length B_law_bag [some x0, some x1, none, none, none, none] M) := call_of at_F_law_bag rfl
theorem call_law_take (n : Nat) (x0 x1 : D) (M : Mem) : callFn FNS (n + 1) 5 [x0, x1] M = fin false M.length (evSs (callFn FNS n) M.length B_law_take [some x0, some x1, none] M) := call_of at_F_law_take rfl
theorem call_law_is_whole (n : Nat) (x0 : D) (M : Mem) : callFn FNS (n + 1) 6 [x0] M = fin false M.length (evSs (callFn FNS n) M.length B_law_is_whole [some x0] M) := call_of at_F_law_is_whole rfl
theorem call_law_shared (n : Nat) (x0 x1 : D) (M : Mem) : callFn FNS (n + 1) 7 [x0, x1] M = fin false M.length (evSs (callFn FNS n) M.length B_law_shared [some x0, some x1] M) := call_of at_F_law_shared rfl
theorem call_law_low (n : Nat) (x0 x1 x2 : D) (M : Mem) : callFn FNS (n + 1) 8 [x0, x1, x2] M = fin false M.length (evSs (callFn FNS n) M.length B_law_low [some x0, some x1, some x2, none] M) := call_of at_F_law_low rfl
theorem call_law_is_number (n : Nat) (x0 : D) (M : Mem) : callFn FNS (n + 1) 9 [x0] M = fin false M.length (evSs (callFn FNS n) M.length B_law_is_number [some x0, none] M) := call_of at_F_law_is_number rfl
theorem call_law_number (n : Nat) (x0 : D) (M : Mem) : callFn FNS (n + 1) 10 [x0] M = fin false M.length (evSs (callFn FNS n) M.length B_law_number [some x0, none, none, none, none, none] M) := call_of at_F_law_number rfl
theorem call_law_roots (n : Nat) (x0 : D) (M : Mem) : callFn FNS (n + 1) 394 [x0] M = fin false M.length (evSs (callFn FNS n) M.length B_law_roots [some x0] M) := call_of at_F_law_roots rfl
theorem call_law_text (n : Nat) (x0 : D) (M : Mem) : callFn FNS (n + 1) 395 [x0] M = fin false M.length (evSs (callFn FNS n) M.length B_law_text [some x0, none, none, none, none] M) := call_of at_F_law_text rfl
theorem call_law_any_number (n : Nat) (x0 : D) (M : Mem) : callFn FNS (n + 1) 396 [x0] M = fin false M.length (evSs (callFn FNS n) M.length B_law_any_number [some x0, none, none, none, none, none, none, none] M) := call_of at_F_law_any_number rfl
theorem call_law_digits (n : Nat) (x0 x1 : D) (M : Mem) : callFn FNS (n + 1) 397 [x0, x1] M = fin false M.length (evSs (callFn FNS n) M.length B_law_digits [some x0, some x1, none, none] M) := call_of at_F_law_digits rfl
theorem call_law_k47 (n : Nat) (x0 : D) (M : Mem) : callFn FNS (n + 1) 398 [x0] M = fin false M.length (evSs (callFn FNS n) M.length B_law_k47 [some x0, none, none, none, none, none, none, none] M) := call_of at_F_law_k47 rfl
def PAR : Par where
  gls := [("FIGURES", (.str "0123456789")), ("MOST_FIGURES", (.int 40))]
  fnm := [Str.ofString "is_whole", Str.ofString "", Str.ofString "shared", Str.ofString "is_number", Str.ofString "_law_bag", Str.ofString "_law_take", Str.ofString "_law_is_whole", Str.ofString "_law_shared", Str.ofString "_law_low", Str.ofString "_law_is_number", Str.ofString "_law_number", Str.ofString "", Str.ofString "", Str.ofString "", Str.ofString "", Str.ofString "", Str.ofString "", Str.ofString "", Str.ofString "", Str.ofString "", Str.ofString "", Str.ofString "", Str.ofString "", Str.ofString "", Str.ofString "", Str.ofString "", Str.ofString "", Str.ofString "", Str.ofString "", Str.ofString "", Str.ofString "", Str.ofString "", Str.ofString "", Str.ofString "", Str.ofString "", Str.ofString "", Str.ofString "", Str.ofString "", Str.ofString "", Str.ofString "", Str.ofString "", Str.ofString "", Str.ofString "", Str.ofString "", Str.ofString "", Str.ofString "", Str.ofString "", Str.ofString "", Str.ofString "", Str.ofString "", Str.ofString "", Str.ofString "", Str.ofString "", Str.ofString "", Str.ofString "", Str.ofString "", Str.ofString "", Str.ofString "", Str.ofString "", Str.ofString "", Str.ofString "", Str.ofString "", Str.ofString "", Str.ofString "", Str.ofString "", Str.ofString "", Str.ofString "", Str.ofString "", Str.ofString "", Str.ofString "", Str.ofString "", Str.ofString "", Str.ofString "", Str.ofString "", Str.ofString "", Str.ofString "", Str.ofString "", Str.ofString "", Str.ofString "", Str.ofString "", Str.ofString "", Str.ofString "", Str.ofString "", Str.ofString "", Str.ofString "", Str.ofString "", Str.ofString "", Str.ofString "", Str.ofString "", Str.ofString "", Str.ofString "", Str.ofString "", Str.ofString "", Str.ofString "", Str.ofString "", Str.ofString "", Str.ofString "", Str.ofString "", Str.ofString "", Str.ofString "", Str.ofString "", Str.ofString "", Str.ofString "", Str.ofString "", Str.ofString "", Str.ofString "", Str.ofString "", Str.ofString "", Str.ofString "", Str.ofString "", Str.ofString "", Str.ofString "", Str.ofString "", Str.ofString "", Str.ofString "", Str.ofString "", Str.ofString "", Str.ofString "", Str.ofString "", Str.ofString "", Str.ofString "", Str.ofString "", Str.ofString "", Str.ofString "", Str.ofString "", Str.ofString "", Str.ofString "", Str.ofString "", Str.ofString "", Str.ofString "", Str.ofString "", Str.ofString "", Str.ofString "", Str.ofString "", Str.ofString "", Str.ofString "", Str.ofString "", Str.ofString "", Str.ofString "", Str.ofString "", Str.ofString "", Str.ofString "", Str.ofString "", Str.ofString "", Str.ofString "", Str.ofString "", Str.ofString "", Str.ofString "", Str.ofString "", Str.ofString "", Str.ofString "", Str.ofString "", Str.ofString "", Str.ofString "", Str.ofString "", Str.ofString "", Str.ofString "", Str.ofString "", Str.ofString "", Str.ofString "", Str.ofString "", Str.ofString "", Str.ofString "", Str.ofString "", Str.ofString "", Str.ofString "", Str.ofString "", Str.ofString "", Str.ofString "", Str.ofString "", Str.ofString "", Str.ofString "", Str.ofString "", Str.ofString "", Str.ofString "", Str.ofString "", Str.ofString "", Str.ofString "", Str.ofString "", Str.ofString "", Str.ofString "", Str.ofString "", Str.ofString "", Str.ofString "", Str.ofString "", Str.ofString "", Str.ofString "", Str.ofString "", Str.ofString "", Str.ofString "", Str.ofString "", Str.ofString "", Str.ofString "", Str.ofString "", Str.ofString "", Str.ofString "", Str.ofString "", Str.ofString "", Str.ofString "", Str.ofString "", Str.ofString "", Str.ofString "", Str.ofString "", Str.ofString "", Str.ofString "", Str.ofString "", Str.ofString "", Str.ofString "", Str.ofString "", Str.ofString "", Str.ofString "", Str.ofString "", Str.ofString "", Str.ofString "", Str.ofString "", Str.ofString "", Str.ofString "", Str.ofString "", Str.ofString "", Str.ofString "", Str.ofString "", Str.ofString "", Str.ofString "", Str.ofString "", Str.ofString "", Str.ofString "", Str.ofString "", Str.ofString "", Str.ofString "", Str.ofString "", Str.ofString "", Str.ofString "", Str.ofString "", Str.ofString "", Str.ofString "", Str.ofString "", Str.ofString "", Str.ofString "", Str.ofString "", Str.ofString "", Str.ofString "", Str.ofString "", Str.ofString "", Str.ofString "", Str.ofString "", Str.ofString "", Str.ofString "", Str.ofString "", Str.ofString "", Str.ofString "", Str.ofString "", Str.ofString "", Str.ofString "", Str.ofString "", Str.ofString "", Str.ofString "", Str.ofString "", Str.ofString "", Str.ofString "", Str.ofString "", Str.ofString "", Str.ofString "", Str.ofString "", Str.ofString "", Str.ofString "", Str.ofString "", Str.ofString "", Str.ofString "", Str.ofString "", Str.ofString "", Str.ofString "", Str.ofString "", Str.ofString "", Str.ofString "", Str.ofString "", Str.ofString "", Str.ofString "", Str.ofString "", Str.ofString "", Str.ofString "", Str.ofString "", Str.ofString "", Str.ofString "", Str.ofString "", Str.ofString "", Str.ofString "", Str.ofString "", Str.ofString "", Str.ofString "", Str.ofString "", Str.ofString "", Str.ofString "", Str.ofString "", Str.ofString "", Str.ofString "", Str.ofString "", Str.ofString "", Str.ofString "", Str.ofString "", Str.ofString "", Str.ofString "", Str.ofString "", Str.ofString "", Str.ofString "", Str.ofString "", Str.ofString "", Str.ofString "", Str.ofString "", Str.ofString "", Str.ofString "", Str.ofString "", Str.ofString "", Str.ofString "", Str.ofString "", Str.ofString "", Str.ofString "", Str.ofString "", Str.ofString "", Str.ofString "", Str.ofString "", Str.ofString "", Str.ofString "", Str.ofString "", Str.ofString "", Str.ofString "", Str.ofString "", Str.ofString "", Str.ofString "", Str.ofString "", Str.ofString "", Str.ofString "", Str.ofString "", Str.ofString "", Str.ofString "", Str.ofString "", Str.ofString "", Str.ofString "", Str.ofString "", Str.ofString "", Str.ofString "", Str.ofString "", Str.ofString "", Str.ofString "", Str.ofString "", Str.ofString "", Str.ofString "", Str.ofString "", Str.ofString "", Str.ofString "", Str.ofString "", Str.ofString "", Str.ofString "", Str.ofString "", Str.ofString "", Str.ofString "", Str.ofString "", Str.ofString "", Str.ofString "", Str.ofString "", Str.ofString "", Str.ofString "", Str.ofString "", Str.ofString "", Str.ofString "", Str.ofString "", Str.ofString "", Str.ofString "", Str.ofString "", Str.ofString "", Str.ofString "", Str.ofString "", Str.ofString "", Str.ofString "", Str.ofString "", Str.ofString "", Str.ofString "", Str.ofString "", Str.ofString "", Str.ofString "", Str.ofString "", Str.ofString "", Str.ofString "", Str.ofString "", Str.ofString "", Str.ofString "", Str.ofString "", Str.ofString "root_text", Str.ofString "show_number", Str.ofString "whole_of", Str.ofString "roots_of", Str.ofString "top_of", Str.ofString "number_in", Str.ofString "number_by", Str.ofString "read_number", Str.ofString "_law_roots", Str.ofString "_law_text", Str.ofString "_law_any_number", Str.ofString "_law_digits", Str.ofString "law"]
  blt := ["ValueError", "isinstance", "int", "bool", "abs", "tuple", "len", "all", "str", "max", "range", "min"]
  exs := ["NoText"]
  mu := fun p => List.contains [⟨78, 11, 78, 62⟩, ⟨138, 17, 138, 19⟩] p

/-! ## The program's numbers -/
theorem gcd_mod (x y : Int) : Int.gcd y (x % y) = Int.gcd x y := by
  rw [Int.gcd_comm y]
  have h := Int.emod_add_mul_ediv x y
  conv => rhs; rw [← h]
  rw [Int.gcd_add_mul_left_left]
section
variable {cf : Nat → List D → Mem → Res D} {b : Nat} {M : Mem}
/-- the loop of the greatest divisor -/
theorem gcd_loop (k : Nat) : ∀ (x y : Int), 0 ≤ x → 0 ≤ y → y.toNat ≤ k →
    whileE (evE cf b (.prim .gt (.cons (.var 1) (.cons (.con (.int 0)) .nil)))) (evSs cf b (.cons (.asg (.tup [(.name 0), (.name 1)]) (.prim .tup (.cons (.var 1) (.cons (.prim .mod (.cons (.var 0) (.cons (.var 1) .nil))) .nil)))) .nil)) [some (.int x), some (.int y)] M
      = .ok (.next [some (.int (Int.gcd x y : Nat)), some (.int 0)]) M := by
  induction k with
  | zero =>
    intro x y hx hy hk
    obtain rfl : y = 0 := by omega
    have e : ((Int.gcd x 0 : Nat) : Int) = x := by rw [Int.gcd_zero_right]; omega
    rw [e]
    refine whileE_done ?_
    walk_at "ev"
  | succ k ih =>
    intro x y hx hy hk
    by_cases h0 : y = 0
    · subst h0
      have e : ((Int.gcd x 0 : Nat) : Int) = x := by rw [Int.gcd_zero_right]; omega
      rw [e]
      refine whileE_done ?_
      walk_at "ev"
    · have hp : 0 < y := by omega
      have hm : x.fmod y = x % y := Int.fmod_eq_emod_of_nonneg x hy
      refine whileE_step (ρ' := [some (.int y), some (.int (x % y))]) (M1 := M) (M2 := M) ?_ ?_ ?_ (by intro h; cases h)
      · walk_at "ev"
        rw [decide_eq_true hp]
      · walk_at "ev"
        rw [modE_int _ _ _ h0]
        walk_at "ev"
        rw [hm]
      · have h1 := Int.emod_nonneg x h0
        have h2 := Int.emod_lt_of_pos x hp
        rw [ih y (x % y) hy h1 (by omega)]
        rw [gcd_mod x y]
end

/-- the roots drawn -/
def rootsL : List Int := [2, 3, 5, 6, 7, 8, 10, 11, 12, 13, 14, 15, 17, 18, 19, 20, 21, 22, 23, 24, 26, 27, 28, 29, 30]
def IsRoot (d : Int) : Prop := d ∈ rootsL
theorem IsRoot.rng {d : Int} (h : IsRoot d) : 2 ≤ d ∧ d ≤ 30 := by
  unfold IsRoot rootsL at h
  simp only [List.mem_cons, List.not_mem_nil, or_false] at h
  omega
theorem IsRoot.bd {d : Int} (h : IsRoot d) : Bd 64 d := by
  have := h.rng
  constructor
  omega
theorem IsRoot.root {d : Int} (h : IsRoot d) : Root d := by
  unfold IsRoot rootsL at h
  simp only [List.mem_cons, List.not_mem_nil, or_false] at h
  rcases h with rfl | rfl | rfl | rfl | rfl | rfl | rfl | rfl | rfl | rfl | rfl | rfl | rfl | rfl | rfl | rfl | rfl | rfl | rfl | rfl | rfl | rfl | rfl | rfl | rfl
  all_goals first | exact root_of 1 (by decide) (by decide) (by decide) | exact root_of 2 (by decide) (by decide) (by decide) | exact root_of 3 (by decide) (by decide) (by decide) | exact root_of 4 (by decide) (by decide) (by decide) | exact root_of 5 (by decide) (by decide) (by decide)

theorem ev_is_whole {n : Nat} {t : D} {M : Mem} (h : Plain t) : callFn FNS (n + 1) 0 [t] M = .ok (.bl (isWholeD t)) M := by
  rw [call_is_whole]
  unfold B_is_whole
  cases t <;> first | exact absurd h id | (walk_at "go"; rfl)

theorem ev_shared (n : Nat) (x y : Int) (M : Mem) : callFn FNS (n + 1) 2 [.int x, .int y] M = .ok (.int (Int.gcd x y : Nat)) M := by
  rw [call_shared]
  unfold B_shared
  walk_at "ev"
  rw [gcd_loop (x.natAbs + y.natAbs) _ _ (by omega) (by omega) (by omega)]
  walk_at "ev"
  rfl

theorem isWholeD_int {x : D} (h : isWholeD x = true) : ∃ a : Int, x = .int a := by
  cases x <;> first | exact ⟨_, rfl⟩ | exact absurd h (by unfold isWholeD; exact Bool.false_ne_true)
/-- what is a number, of any thing -/
theorem ev_is_number {n : Nat} {t : D} {M : Mem} (h : Plain t) (hp : ∀ xs, t = .tup xs → ∀ x ∈ xs, Plain x) : callFn FNS (n + 2) 3 [t] M = .ok (.bl (isNumD t)) M := by
  rw [call_is_number]
  unfold B_is_number
  have no : (∀ xs, t ≠ .tup xs) → fin false M.length (evSs (callFn FNS (n + 1)) M.length B_is_number [some t, none, none, none, none] M) = .ok (.bl false) M := by
    intro hn
    unfold B_is_number
    cases t <;> first | exact absurd h id | exact absurd rfl (hn _) | (walk_at "go")
  unfold B_is_number at no
  cases t with
  | tup xs =>
    walk_at "go"
    by_cases hl : xs.length = 3
    · match xs, hl with
      | [x, y, z], _ =>
        walk_at "go"
        rw [show (((((0 : Nat) + 1 + 1 + 1 : Nat) : Int) == 3)) = true from rfl]
        walk_at "go"
        rw [compK_eq (h := src_tup _ _) (hl := Nat.le_of_ble_eq_true rfl)]
        rw [comp_map (fun d => .bl (isWholeD d)) (grd_none _) _ (by
          intro d hd
          have hpl := hp _ rfl d hd
          walk_at "go"
          rw [ev_is_whole hpl]
          walk_at "go")]
        walk_at "go"
        simp only [List.map_cons, List.map_nil]
        rw [allE_of (bs := [isWholeD x, isWholeD y, isWholeD z]) (h := rfl)]
        cases hw : [isWholeD x, isWholeD y, isWholeD z].all id with
        | false =>
          walk_at "go"
          have : isNumD (.tup [x, y, z]) = false := by
            unfold isNumD
            split
            · rename_i heq
              injection heq with heq
              injection heq with e1 heq
              injection heq with e2 heq
              injection heq with e3 heq
              subst e1 e2 e3
              exact Bool.noConfusion (show true = false from hw)
            · rfl
          rw [this]
        | true =>
        simp only [List.all_cons, List.all_nil, id, Bool.and_true, Bool.and_eq_true] at hw
        obtain ⟨a, rfl⟩ := isWholeD_int hw.1
        obtain ⟨b, rfl⟩ := isWholeD_int hw.2.1
        obtain ⟨c, rfl⟩ := isWholeD_int hw.2.2
        walk_at "go"
        rw [ev_shared]
        walk_at "go"
        rw [ev_shared]
        walk_at "go"
        simp only [isNumD]
        congr 3
    · have hb : (((xs.length : Nat) : Int) == 3) = false := by
        simp only [beq_eq_false_iff_ne, ne_eq]
        omega
      rw [hb]
      walk_at "go"
      have : isNumD (.tup xs) = false := by
        unfold isNumD
        split
        · rename_i heq; injection heq with heq; subst heq; exact absurd rfl hl
        · rfl
      rw [this]
  | ref _ => exact absurd h id
  | fix _ => exact absurd h id
  | _ => exact (no (fun xs e => by cases e)).trans rfl
theorem ev_is_number_nd {n : Nat} {x : T3} {M : Mem} (h : IsN x) : callFn FNS (n + 2) 3 [nd x] M = .ok (.bl true) M := by
  rw [ev_is_number (t := nd x) trivial (fun xs e y hy => by
    injection e with e
    subst e
    simp only [List.mem_cons, List.not_mem_nil, or_false] at hy
    rcases hy with rfl | rfl | rfl <;> exact trivial), isNumD_nd h]
section
variable {n : Nat} {d : Int} {x y : T3} {s t : Nat} {v w : Q2 d} {M : Mem}
theorem sp_is_number (h : IsN x) : callFn FNS (n + 2) 3 [nd x] M = .ok (.bl true) M := ev_is_number_nd h
end

/-- the bag of a cell -/
theorem ok_law_bag (n : Nat) (k : Int) (ns : List Int) (M : Mem) (h0 : 0 ≤ k) (h1 : k < 64) : Ok (callFn FNS (n + 1) 4 [.fix (ns.map D.int), .int k] M)
    (fun v M' => v = .ref M.length ∧ ∃ g x : Int, M' = M ++ [.lst [.int g, .int x]] ∧ 0 ≤ x ∧ x < 2147483647) := by
  have bk : Bd 6 k := ⟨by omega⟩
  have key2 : ∀ c g : Int, Ok (MF.fin true M.length (evSs (callFn FNS n) M.length (B_law_bag.tl.tl.tl.tl) [some (.fix (ns.map D.int)), some (.int k), some (.int c), some (.int g), none, none] M))
    (fun v M' => v = .ref M.length ∧ ∃ g x : Int, M' = M ++ [.lst [.int g, .int x]] ∧ 0 ≤ x ∧ x < 2147483647) := by
    intro c g
    unfold B_law_bag
    obtain ⟨m0, m1⟩ := fmod_range c (show (0 : Int) < 2147483647 by decide)
    have hm := bd31 m0 m1
    obtain ⟨j0, j1⟩ := fmod_range k (show (0 : Int) < 8 by decide)
    walk_at "go"
    have : ∃ p : Int, 0 < p ∧ p ≤ 2147483647 ∧ idxE (.lst [.int 2147483647, .int 2147483629, .int 2147483587, .int 2147483579, .int 2147483563, .int 2147483549, .int 2147483543, .int 2147483497]) (.int (k.fmod 8)) M = .ok (.int p) M := by
      obtain ⟨x, hx, e⟩ := idx_mem (xs := [.int 2147483647, .int 2147483629, .int 2147483587, .int 2147483579, .int 2147483563, .int 2147483549, .int 2147483543, .int 2147483497]) M j0 j1
      rw [e]
      simp only [List.mem_cons, List.not_mem_nil, or_false] at hx
      rcases hx with rfl | rfl | rfl | rfl | rfl | rfl | rfl | rfl <;> exact ⟨_, by decide, by decide, rfl⟩
    obtain ⟨p, p0, p1, e⟩ := this
    rw [e]
    walk_at "ev"
    rw [modE_int _ _ _ (Int.ne_of_gt p0)]
    walk_at "ev"
    rw [leave_new rfl]
    obtain ⟨a1, a2⟩ := fmod_range (c.fmod 2147483647 * 69623 + 104729 * k * k + 7919 * k + 12345) p0
    exact ⟨rfl, _, _, rfl, a1, by omega⟩
  have key : ∀ c : Int, Ok (MF.fin true M.length (evSs (callFn FNS n) M.length (B_law_bag.tl.tl) [some (.fix (ns.map D.int)), some (.int k), some (.int c), none, none, none] M))
    (fun v M' => v = .ref M.length ∧ ∃ g x : Int, M' = M ++ [.lst [.int g, .int x]] ∧ 0 ≤ x ∧ x < 2147483647) := by
    intro c
    unfold B_law_bag at key2 ⊢
    walk_at "go"
    rw [show powE (.int 10) (.int 18) M = .ok (.int (10 ^ 18)) M from rfl]
    walk_at "go"
    by_cases hc : (10 : Int) ^ 18 ≤ c.natAbs
    · rw [decide_eq_true hc]
      walk_at "go"
      exact key2 c _
    · rw [decide_eq_false hc]
      walk_at "go"
      exact key2 c _
  rw [call_law_bag]
  unfold B_law_bag at key ⊢
  walk_at "go"
  by_cases hk : k < ns.length
  · rw [decide_eq_true hk]
    have hx : idxE (.fix (ns.map D.int)) (.int k) M = .ok (.int (ns[k.toNat]'(by omega))) M := by
      refine idxE_fix _ _ _ _ ?_
      have e : k = (k.toNat : Int) := by omega
      conv => lhs; rw [e]
      refine atI_nat ?_
      rw [List.getElem?_map, List.getElem?_eq_getElem (by omega)]
      rfl
    walk_at "ev"
    rw [hx]
    walk_at "ev"
    have h := key (ns[k.toNat]'(by omega))
    revert h
    walk_at "go"
    exact id
  · rw [decide_eq_false hk]
    walk_at "ev"
    have h := key 0
    revert h
    walk_at "go"
    exact id

/-- a draw -/
theorem ok_law_take (n : Nat) {i : Nat} {m : Int} {M : Mem} (h : Bag i M) (h0 : 0 < m) (h1 : m < 1000000000000000000) : Ok (callFn FNS (n + 1) 5 [.ref i, .int m] M)
    (fun v M' => (∃ k, v = .int k ∧ 0 ≤ k ∧ k < m) ∧ BagSt i M M') := by
  obtain ⟨g, x, hm, x0, x1⟩ := id h
  have m0 : m ≠ 0 := by omega
  have bx := bd31 x0 x1
  have r0 := idxr0 hm
  have r1 := idxr1 hm
  rw [call_law_take]
  unfold B_law_take
  walk_at "go"
  rw [r0]
  walk_at "go"
  by_cases hg : 0 < g
  · rw [decide_eq_true hg]
    walk_at "go"
    rw [r0]
    walk_at "ev"
    rw [modE_int _ _ _ m0]
    walk_at "ev"
    rw [r0]
    walk_at "ev"
    rw [divE_int _ _ _ m0 (noPy (s := 64) ⟨by omega⟩ (by decide))]
    walk_at "ev"
    rw [setE_ref (j := 0) hm rfl rfl rfl]
    walk_at "ev"
    have st := h.set (g.fdiv m) x x0 x1
    obtain ⟨a0, a1⟩ := fmod_range g h0
    exact ⟨⟨_, rfl, a0, a1⟩, by rw [st.take]; exact st⟩
  · rw [decide_eq_false hg]
    walk_at "go"
    rw [r1]
    walk_at "go"
    rw [setE_ref (j := 1) hm rfl rfl rfl]
    walk_at "go"
    obtain ⟨a0, a1⟩ := fmod_range (x * 48271 + 2531011) (show (0 : Int) < 2147483647 by decide)
    have st := h.set g _ a0 a1
    have hm2 : (M.set i (.lst [.int g, .int ((x * 48271 + 2531011).fmod 2147483647)]))[i]? = some (.lst [.int g, .int ((x * 48271 + 2531011).fmod 2147483647)]) := by
      rw [List.getElem?_set_self h.lt]
    have r2 := idxr1 hm2
    rw [r2]
    walk_at "ev"
    have hp : ∀ (y : Int) (M : Mem), 0 ≤ y → y < 2147483647 → powE (.int y) (.int 3) M = .ok (.int (y ^ 3)) M := by
      intro y M h0 h1
      unfold powE
      dsimp only
      rw [if_pos ⟨by decide, by decide, by omega⟩]
      rfl
    rw [hp _ _ a0 a1]
    walk_at "ev"
    rw [modE_int _ _ _ m0]
    walk_at "ev"
    obtain ⟨b0, b1⟩ := fmod_range (((((x * 48271 + 2531011).fmod 2147483647) ^ 3).fmod 2147483629).fdiv 64) h0
    have e := st.take
    exact ⟨⟨_, rfl, b0, b1⟩, by rw [e]; exact st⟩

theorem ev_law_is_whole (n : Nat) (i : Int) (M : Mem) : callFn FNS (n + 1) 6 [.int i] M = .ok (.bl true) M := by
  rw [call_law_is_whole]
  unfold B_law_is_whole
  walk_at "go"
section
variable {n : Nat} {d : Int} {x y : T3} {s t : Nat} {v w : Q2 d} {M : Mem}
theorem sp_l_is_whole {i : Int} : callFn FNS (n + 1) 6 [.int i] M = .ok (.bl true) M := ev_law_is_whole n i M
end

theorem ev_law_shared (n : Nat) (x y : Int) (M : Mem) : callFn FNS (n + 1) 7 [.int x, .int y] M = .ok (.int (Int.gcd x y : Nat)) M := by
  rw [call_law_shared]
  unfold B_law_shared
  walk_at "ev"
  rw [gcd_loop (x.natAbs + y.natAbs) _ _ (by omega) (by omega) (by omega)]
  walk_at "ev"
  rfl
section
variable {n : Nat} {d : Int} {x y : T3} {s t : Nat} {v w : Q2 d} {M : Mem}
theorem sp_l_shared {i j : Int} : callFn FNS (n + 1) 7 [.int i, .int j] M = .ok (.int (Int.gcd i j : Nat)) M := ev_law_shared n i j M
end

theorem ev_law_low (n : Nat) {a b c : Int} {s : Nat} (M : Mem) (hc : c ≠ 0) (bc : Bd s c) (hs : s ≤ 8990) : callFn FNS (n + 2) 8 [.int a, .int b, .int c] M = .ok (nd (low a b c)) M := by
  have gp := gcd3_pos (a := a) (b := b) hc
  have bg : Bd s (gcd3 a b c) := bc.dvd hc (gcd3_c a b c)
  have g0 : gcd3 a b c ≠ 0 := by omega
  rw [call_law_low]
  unfold B_law_low
  walk_at "ev"
  rw [ev_law_shared]
  walk_at "ev"
  rw [ev_law_shared]
  walk_at "ev"
  rw [show ((((a.gcd b : Nat) : Int).gcd c : Nat) : Int) = gcd3 a b c from rfl]
  have hk : ∀ p : Bool, idxE (.lst [.int 1, .int (-1)]) (.int (if p = true then 1 else 0)) M = .ok (.int (if p = true then -1 else 1)) M := by
    intro p; cases p <;> rfl
  rw [hk]
  have hsg : (if decide (c < 0) = true then (-1 : Int) else 1) = sg c := by
    unfold sg
    simp only [decide_eq_true_eq]
  rw [hsg]
  have bsg : Bd 1 (sg c) := by unfold sg; split <;> exact ⟨by decide⟩
  walk_at "go"
  have hgs : gcd3 a b c * sg c ≠ 0 := Int.mul_ne_zero g0 (sg_ne c)
  have bgs : Bd s (gcd3 a b c * sg c) := bc.dvd hc (dvd_sg (gcd3_c a b c))
  rw [divE_int _ _ _ hgs (noPy bgs hs)]
  walk_at "ev"
  rw [divE_int _ _ _ hgs (noPy bgs hs)]
  walk_at "ev"
  rw [divE_int _ _ _ hgs (noPy bgs hs)]
  walk_at "ev"
  rw [fdiv_dvd (dvd_sg (gcd3_a a b c)), fdiv_dvd (dvd_sg (gcd3_b a b c)), fdiv_dvd (dvd_sg (gcd3_c a b c))]
  rfl
section
variable {n : Nat} {d : Int} {x y : T3} {s t : Nat} {v w : Q2 d} {M : Mem}
theorem sp_l_low {a b c : Int} (hc : c ≠ 0) (bc : Bd s c) (hs : s ≤ 8990) : callFn FNS (n + 2) 8 [.int a, .int b, .int c] M = .ok (nd (low a b c)) M := ev_law_low n M hc bc hs
end

theorem ok_law_number (n : Nat) {i : Nat} {M : Mem} (h : Bag i M) : Ok (callFn FNS (n + 3) 10 [.ref i] M) (fun v M' => (∃ x, v = nd x ∧ Nm 20 x) ∧ BagSt i M M') := by
  rw [call_law_number]
  unfold B_law_number
  walk_at "go"
  walk_at "dig"
  refine Ok.mono (ok_law_take _ h (by decide) (by decide)) fun v M1 q => ?_
  obtain ⟨⟨k, rfl, k0, k1⟩, st⟩ := q
  walk_at "go"
  have hw : ∃ w : Int, 4 ≤ w ∧ w ≤ 1000000 ∧ idxE (.lst [.int 4, .int 10, .int 100, .int 1000000]) (.int k) M1 = .ok (.int w) M1 := by
    obtain ⟨x, hx, e⟩ := idx_mem (xs := [.int 4, .int 10, .int 100, .int 1000000]) M1 k0 k1
    rw [e]
    simp only [List.mem_cons, List.not_mem_nil, or_false] at hx
    rcases hx with rfl | rfl | rfl | rfl <;> exact ⟨_, by decide, by decide, rfl⟩
  obtain ⟨w, w0, w1, e⟩ := hw
  rw [e]
  walk_at "go"
  walk_at "dig"
  refine Ok.mono (ok_law_take _ st.bag (by omega) (by omega)) fun v M2 q => ?_
  obtain ⟨⟨a, rfl, a0, a1⟩, st2⟩ := q
  replace st := st.trans st2
  walk_at "go"
  walk_at "dig"
  refine Ok.mono (ok_law_take _ st.bag (by omega) (by omega)) fun v M3 q => ?_
  obtain ⟨⟨b, rfl, b0, b1⟩, st2⟩ := q
  replace st := st.trans st2
  walk_at "go"
  walk_at "dig"
  refine Ok.mono (ok_law_take _ st.bag (by omega) (by omega)) fun v M4 q => ?_
  obtain ⟨⟨c, rfl, c0, c1⟩, st2⟩ := q
  replace st := st.trans st2
  walk_at "go"
  walk_at "dig"
  refine Ok.mono (ok_law_take _ st.bag (by omega) (by omega)) fun v M5 q => ?_
  obtain ⟨⟨j, rfl, j0, j1⟩, st2⟩ := q
  replace st := st.trans st2
  walk_at "go"
  have hf : 0 ≤ w.fdiv 2 ∧ w.fdiv 2 ≤ 500000 := by
    rw [Int.fdiv_eq_ediv_of_nonneg _ (by decide)]
    omega
  have sel : ∀ (xs : List D) (s : Int → Prop), 8 = xs.length → (∀ x ∈ xs, ∃ y, x = .int y ∧ s y) → ∃ y, s y ∧ idxE (.lst xs) (.int j) M5 = .ok (.int y) M5 := by
    intro xs s hl hx
    obtain ⟨x, hm, e⟩ := idx_mem (xs := xs) M5 j0 (by omega)
    obtain ⟨y, rfl, hy⟩ := hx x hm
    exact ⟨y, hy, e⟩
  have ba : Bd 20 (a - w.fdiv 2) := ⟨by omega⟩
  have bb : Bd 20 (b - w.fdiv 2) := ⟨by omega⟩
  have bz : Bd 20 0 := ⟨by decide⟩
  obtain ⟨a', ha', e1⟩ := sel [.int (a - w.fdiv 2), .int (a - w.fdiv 2), .int (a - w.fdiv 2), .int (a - w.fdiv 2), .int (a - w.fdiv 2), .int (a - w.fdiv 2), .int (a - w.fdiv 2), .int 0] (Bd 20) rfl (by
    simp only [List.forall_mem_cons, D.int.injEq]
    exact ⟨⟨_, rfl, ba⟩, ⟨_, rfl, ba⟩, ⟨_, rfl, ba⟩, ⟨_, rfl, ba⟩, ⟨_, rfl, ba⟩, ⟨_, rfl, ba⟩, ⟨_, rfl, ba⟩, ⟨_, rfl, bz⟩, fun x hx => by cases hx⟩)
  obtain ⟨b', hb', e2⟩ := sel [.int (b - w.fdiv 2), .int (b - w.fdiv 2), .int (b - w.fdiv 2), .int (b - w.fdiv 2), .int (b - w.fdiv 2), .int 0, .int 0, .int (b - w.fdiv 2)] (Bd 20) rfl (by
    simp only [List.forall_mem_cons, D.int.injEq]
    exact ⟨⟨_, rfl, bb⟩, ⟨_, rfl, bb⟩, ⟨_, rfl, bb⟩, ⟨_, rfl, bb⟩, ⟨_, rfl, bb⟩, ⟨_, rfl, bz⟩, ⟨_, rfl, bz⟩, ⟨_, rfl, bb⟩, fun x hx => by cases hx⟩)
  obtain ⟨c', hc', e3⟩ := sel [.int (1 + c), .int (1 + c), .int 1, .int (1 + c), .int 1, .int (1 + c), .int 1, .int (1 + c)] (fun y => 1 ≤ y ∧ y ≤ 1000000) rfl (by
    simp only [List.forall_mem_cons, D.int.injEq]
    exact ⟨⟨_, rfl, by omega⟩, ⟨_, rfl, by omega⟩, ⟨_, rfl, by omega⟩, ⟨_, rfl, by omega⟩, ⟨_, rfl, by omega⟩, ⟨_, rfl, by omega⟩, ⟨_, rfl, by omega⟩, ⟨_, rfl, by omega⟩, fun x hx => by cases hx⟩)
  rw [e1]
  walk_at "go"
  rw [e2]
  walk_at "go"
  rw [e3]
  walk_at "go"
  have bc : Bd 20 c' := ⟨by omega⟩
  rw [ev_law_low _ _ (by omega) bc (by decide)]
  walk_at "go"
  rw [st.take]
  exact ⟨⟨_, rfl, low_isN (by omega), low_sz ha' hb' bc⟩, st⟩

section
variable {n : Nat} {d : Int} {x y : T3} {s t : Nat} {v w : Q2 d} {M : Mem}
theorem sp_l_is_number (h : IsN x) : callFn FNS (n + 2) 9 [nd x] M = .ok (.bl true) M := by
  obtain ⟨h0, h1⟩ := h
  rw [call_law_is_number]
  unfold B_law_is_number
  walk_at "go"
  rw [show nd x = .tup [.int x.1, .int x.2.1, .int x.2.2] from rfl]
  rw [compK_eq (h := src_tup _ _) (hl := Nat.le_of_ble_eq_true rfl)]
  rw [comp_map (fun _ => .bl true) (grd_none _) _ (by
    intro d hd
    simp only [List.mem_cons, List.not_mem_nil, or_false] at hd
    rcases hd with rfl | rfl | rfl <;> (walk_at "go"; rw [ev_law_is_whole]; walk_at "go"))]
  walk_at "go"
  simp only [List.map_cons, List.map_nil]
  rw [allE_of (bs := [true, true, true]) (h := rfl)]
  walk_at "go"
  simp only [List.all_cons, List.all_nil, id, Bool.and_true]
  walk_at "go"
  rw [show nd (x.1, x.2.1, x.2.2) = nd x from rfl]
  walk_at "go"
  rw [ev_law_shared]
  walk_at "go"
  rw [ev_law_shared]
  walk_at "go"
  rw [show ((((x.1.gcd x.2.1 : Nat) : Int).gcd x.2.2 : Nat) : Int) = gcd3 x.1 x.2.1 x.2.2 from rfl, h1, decide_eq_true h0]
  walk_at "go"
end

theorem ev_law_is_wholeP {n : Nat} {t : D} {M : Mem} (h : Plain t) : callFn FNS (n + 1) 6 [t] M = .ok (.bl (isWholeD t)) M := by
  rw [call_law_is_whole]
  unfold B_law_is_whole
  cases t <;> first | exact absurd h id | (walk_at "go"; rfl)

theorem ev_law_is_numberP {n : Nat} {t : D} {M : Mem} (h : Plain t) (hp : ∀ xs, t = .tup xs → ∀ x ∈ xs, Plain x) : callFn FNS (n + 2) 9 [t] M = .ok (.bl (isNumD t)) M := by
  rw [call_law_is_number]
  unfold B_law_is_number
  have no : (∀ xs, t ≠ .tup xs) → fin false M.length (evSs (callFn FNS (n + 1)) M.length B_law_is_number [some t, none] M) = .ok (.bl false) M := by
    intro hn
    unfold B_law_is_number
    cases t <;> first | exact absurd h id | exact absurd rfl (hn _) | (walk_at "go")
  unfold B_law_is_number at no
  cases t with
  | tup xs =>
    walk_at "go"
    by_cases hl : xs.length = 3
    · match xs, hl with
      | [x, y, z], _ =>
        walk_at "go"
        rw [show (((((0 : Nat) + 1 + 1 + 1 : Nat) : Int) == 3)) = true from rfl]
        walk_at "go"
        rw [compK_eq (h := src_tup _ _) (hl := Nat.le_of_ble_eq_true rfl)]
        rw [comp_map (fun d => .bl (isWholeD d)) (grd_none _) _ (by
          intro d hd
          have hpl := hp _ rfl d hd
          walk_at "go"
          rw [ev_law_is_wholeP hpl]
          walk_at "go")]
        walk_at "go"
        simp only [List.map_cons, List.map_nil]
        rw [allE_of (bs := [isWholeD x, isWholeD y, isWholeD z]) (h := rfl)]
        cases hw : [isWholeD x, isWholeD y, isWholeD z].all id with
        | false =>
          walk_at "go"
          have : isNumD (.tup [x, y, z]) = false := by
            unfold isNumD
            split
            · rename_i heq
              injection heq with heq
              injection heq with e1 heq
              injection heq with e2 heq
              injection heq with e3 heq
              subst e1 e2 e3
              exact Bool.noConfusion (show true = false from hw)
            · rfl
          rw [this]
        | true =>
        simp only [List.all_cons, List.all_nil, id, Bool.and_true, Bool.and_eq_true] at hw
        obtain ⟨a, rfl⟩ := isWholeD_int hw.1
        obtain ⟨b, rfl⟩ := isWholeD_int hw.2.1
        obtain ⟨c, rfl⟩ := isWholeD_int hw.2.2
        walk_at "go"
        rw [ev_law_shared]
        walk_at "go"
        rw [ev_law_shared]
        walk_at "go"
        simp only [isNumD]
        congr 3
    · have hb : (((xs.length : Nat) : Int) == 3) = false := by
        simp only [beq_eq_false_iff_ne, ne_eq]
        omega
      rw [hb]
      walk_at "go"
      have : isNumD (.tup xs) = false := by
        unfold isNumD
        split
        · rename_i heq; injection heq with heq; subst heq; exact absurd rfl hl
        · rfl
      rw [this]
  | ref _ => exact absurd h id
  | fix _ => exact absurd h id
  | _ => exact (no (fun xs e => by cases e)).trans rfl

section MFL1
local macro_rules | `(tactic| walk_at "pos") => `(tactic| with_reducible first | assumption | exact Q2.one_pos | (show 0 < (_ * _ : Q2 _); exact Q2.mul_pos (by walk_at "pos") (by walk_at "pos")) | (show 0 < ((_ : Q2 _)⁻¹); exact Q2.inv_pos (by walk_at "pos")) | (show 0 < (_ + _ : Q2 _); exact Q2.add_pos (by walk_at "pos") (by walk_at "pos")))
local macro_rules | `(tactic| walk_at "ne") => `(tactic| with_reducible first | assumption | exact Q2.one_ne | exact Q2.ne_pos (by walk_at "pos") | (show (_ * _ : Q2 _) ≠ 0; exact Q2.mul_ne (by walk_at "ne") (by walk_at "ne")) | (show ((_ : Q2 _)⁻¹) ≠ 0; exact Q2.inv_ne (by walk_at "ne")) | (show Q2.conj _ ≠ 0; exact Q2.conj_ne (by walk_at "ne")) | (show (-_ : Q2 _) ≠ 0; exact Q2.neg_ne (by walk_at "ne")))
local macro_rules | `(tactic| walk_at "V") => `(tactic| with_reducible first | assumption | (show V _ _ (nplus (0, 0, 1) _); exact V.plus0 (by walk_at "V")) | (show V _ _ (nplus _ _); exact V.plus (by walk_at "V") (by walk_at "V")) | (show V _ _ (ntimes _ _ _); exact V.times (by assumption) (by walk_at "V") (by walk_at "V")) | (show V _ _ (nneg _); exact V.neg (by walk_at "V")) | (show V _ _ (nmate _); exact V.mate (by walk_at "V")) | (show V _ _ (ninv _ _); exact V.inv (by assumption) (by walk_at "V") (by walk_at "ne")) | exact V.lit0 | exact V.lit1 | exact V.lit4 | exact V.of (by assumption))
local macro_rules | `(tactic| walk_at "shp") => `(tactic| simp only [sok_kind, sok_turn, sok_upon, sok_beside, sok_grid, sok_bar, sok_mixture, sok_plan, sok_squares, sok_laying, sok_laid, sok_barred, sok_mixed, shp_non, shp_bl, shp_int, shp_str_lit, shp_tup, shp_lst, shps_nil, shps_cons, shp_nd, Bool.and_self, Bool.and_true])
local macro_rules | `(tactic| walk_at "bel") => `(tactic| simp only [belows_nil, belows_cons, bel_int, bel_bl, bel_non, bel_str, bel_tup, bel_lst, nd_bel, Bool.and_self, Bool.and_true])
local macro_rules | `(tactic| walk_at "pure") => `(tactic| simp only [pures_nil, pures_cons, pure_int, pure_bl, pure_non, pure_str, pure_tup, pure_lst, nd_pure, pures_append, Bool.and_self, Bool.and_true])
local macro_rules | `(tactic| walk_at "okt") => `(tactic| first | assumption | decide | (show okT (_ ++ _) = true; rw [okT_app, Bool.and_eq_true]; exact ⟨by walk_at "okt", by walk_at "okt"⟩) | exact okT_decI _ | exact okT_decN _)
local macro_rules | `(tactic| walk_at "dis") => `(tactic| first | assumption | with_reducible exact get_last | with_reducible exact get_last2 | (with_reducible show _ ∨ _; first | exact .inl (Nat.le_refl _) | exact .inr (by walk_at "pure") | exact .inl (by omega)) | (with_reducible show pures _ = true; walk_at "pure") | (with_reducible show D.pure _ = true; walk_at "pure") | (with_reducible show V _ _ _; walk_at "V") | (with_reducible show IsN _; exact V.isn (by walk_at "V")) | (with_reducible show List.length _ ≤ 1000; exact Nat.le_of_ble_eq_true rfl) | (with_reducible show List.length _ + List.length _ ≤ 1000; exact Nat.le_of_ble_eq_true rfl) | (with_reducible show (_ : Nat) ≤ _; first | decide | omega) | (with_reducible show mulOk _ _ = true; exact Bd.ok (by walk_at "bd") (by walk_at "bd") (by omega)) | (with_reducible show D.shp _ _ = true; walk_at "shp") | (with_reducible show shps _ _ = true; walk_at "shp") | (with_reducible show belows _ _ = true; walk_at "bel") | (with_reducible show okT _ = true; walk_at "okt") | (with_reducible show lenT _; first | assumption | (simp only [lenT, List.length_append, List.length_cons, List.length_nil, List.length_singleton, List.length_drop, List.length_take, List.length_reverse]; omega)) | (with_reducible show (0 : Q2 _) < _; walk_at "pos") | (with_reducible show (_ : Q2 _) ≠ 0; walk_at "ne") | (with_reducible show NoGrd _; first | exact noGrd1 | exact noGrd0 | exact noGrd2) | (with_reducible show (_ : Int) ≠ _; first | decide | omega) | (with_reducible show (_ : Int) < _; first | decide | omega) | (with_reducible show (_ : Int) ≤ _; first | decide | omega))
private theorem SPA_fdf191e3 : type_of% (And.intro (And.intro (And.intro (And.intro (And.intro (And.intro (And.intro (And.intro @varK_ok (And.intro @condK_t @condK_f)) (And.intro @condK_and (And.intro @condK_or @condK_int))) (And.intro (And.intro @ev_var (And.intro @ev_con @ev_prim)) (And.intro @ev_meth (And.intro @methK2_eq @ev_call)))) (And.intro (And.intro (And.intro @ev_refus (And.intro @refE_ok @refE_NoRoot)) (And.intro @refE_NoNumber (And.intro @refE_NoLaying @refE_NoTile))) (And.intro (And.intro @refE_NoFit (And.intro @refE_NoKinds @refE_NoPlan)) (And.intro @refE_NoSpot (And.intro @refE_NoNet @refE_NoText))))) (And.intro (And.intro (And.intro (And.intro @refE_NoSaying (And.intro @refE_NoName @refE_TooMany)) (And.intro @ev_and (And.intro @andK_eq @ev_or))) (And.intro (And.intro @orK_eq (And.intro @ev_ite @iteK_t)) (And.intro @iteK_f (And.intro @iteK_eq @ev_chain)))) (And.intro (And.intro (And.intro @chainK1_eq (And.intro @chainK2_eq @chainK3_eq)) (And.intro @chainK4_eq (And.intro @ev_comp @evs_nil))) (And.intro (And.intro @evs_cons (And.intro @consK_eq @consK2_eq)) (And.intro @st_asg (And.intro @asgK_eq @asgO_some)))))) (And.intro (And.intro (And.intro (And.intro (And.intro @st_setI (And.intro @setK1_eq @setK2_eq)) (And.intro @setK3_eq (And.intro @setK4_eq @st_expr))) (And.intro (And.intro @exprK_eq (And.intro @st_ite @iteSK_t)) (And.intro @iteSK_f (And.intro @st_whil @st_for)))) (And.intro (And.intro (And.intro @fStep_name (And.intro @st_ret @retK_eq)) (And.intro @st_retN (And.intro @st_raise @st_pass))) (And.intro (And.intro @st_wipe (And.intro @ss_nil @ss_cons)) (And.intro @seqK_next (And.intro @seqK_ret @fin_ret))))) (And.intro (And.intro (And.intro (And.intro @fin_next (And.intro @fin_exc @Res.bind_ok)) (And.intro @Res.bind_exc (And.intro @Res.nox_ok @bindP_name))) (And.intro (And.intro @bindP_tup (And.intro @bindP_lst @bindPs_nil)) (And.intro @bindPs_cons (And.intro @ap1_1 @ap2_2)))) (And.intro (And.intro (And.intro @pr_add (And.intro @pr_sub @pr_mul)) (And.intro @pr_fdiv (And.intro @pr_mod @pr_pow))) (And.intro (And.intro @pr_neg (And.intro @pr_notb @pr_eq)) (And.intro (And.intro @pr_ne @pr_newd) (And.intro @pr_lt @pr_le))))))) (And.intro (And.intro (And.intro (And.intro (And.intro (And.intro @pr_gt (And.intro @pr_ge @pr_isin)) (And.intro @pr_notin (And.intro @pr_is @pr_isnot))) (And.intro (And.intro @pr_tup (And.intro @pr_lst @pr_idx)) (And.intro @pr_len (And.intro @pr_abs @pr_int1)))) (And.intro (And.intro (And.intro @pr_isi (And.intro @pr_all @pr_any)) (And.intro @pr_min2 (And.intro @pr_max2 @pr_sum))) (And.intro (And.intro @pr_tuple1 (And.intro @pr_list1 @pr_append)) (And.intro @pr_extend (And.intro @pr_pop0 @pr_pop1))))) (And.intro (And.intro (And.intro (And.intro @pr_insert (And.intro @pr_rev @pr_max1)) (And.intro @pr_min1 (And.intro @pr_lenset @pr_reverse))) (And.intro (And.intro @ap3_3 (And.intro @revE_tup @revE_lst)) (And.intro @pr_slc00 (And.intro @pr_slc10 @pr_slc01)))) (And.intro (And.intro (And.intro @part_int' (And.intro @slcE_tup @slcE_lst)) (And.intro @src_en (And.intro @src_ent @src_zip))) (And.intro (And.intro @src_zipt (And.intro @src_ziptl @src_ziplt)) (And.intro @addE_int (And.intro @intOp_int @negE_int)))))) (And.intro (And.intro (And.intro (And.intro (And.intro @notE_bl (And.intro @absE_int @int1E_bl)) (And.intro @int1E_int (And.intro @isE_bl @isE_tn))) (And.intro (And.intro @isE_nn (And.intro @b_ft @b_tf)) (And.intro @tupE_ok (And.intro @mkL_ok @mkL_cell)))) (And.intro (And.intro (And.intro @okB_some (And.intro @lenE_tup @lenE_lst)) (And.intro @lenE_fix (And.intro @idx0 @idx1))) (And.intro (And.intro @idx2 (And.intro @idx3 @idxl0)) (And.intro @idxl1 (And.intro @src_tup @src_lst))))) (And.intro (And.intro (And.intro (And.intro @src_fix (And.intro @Ok_ok @someK_eq)) (And.intro @cndK_t (And.intro @cndK_f @wipeE_nil))) (And.intro (And.intro @wipeE_cons (And.intro @leave_int @leave_bl)) (And.intro @leave_non (And.intro @leave_str @leave_nd)))) (And.intro (And.intro (And.intro @leave_tup (And.intro @leave_lst @belows_nil)) (And.intro @belows_cons (And.intro @bel_int @bel_bl))) (And.intro (And.intro @bel_non (And.intro @bel_str @bel_tup)) (And.intro (And.intro @bel_lst @nd_bel) (And.intro @take_same @idx_nd0)))))))) (And.intro (And.intro (And.intro (And.intro (And.intro (And.intro (And.intro @idx_nd1 (And.intro @idx_nd2 @bindP_nd)) (And.intro @len_nd (And.intro @tup_nd @modE_int))) (And.intro (And.intro @divE_lit (And.intro @tl_cons @eqE_shp)) (And.intro @inE_lst (And.intro @inE_tup @shp_non)))) (And.intro (And.intro (And.intro @shp_bl (And.intro @shp_int @shp_tup)) (And.intro @shp_lst (And.intro @shps_nil @shps_cons))) (And.intro (And.intro @shp_nd (And.intro @eqD_int @eqD_bl)) (And.intro @eqD_tup (And.intro @eqD_lst @eqDs_nil))))) (And.intro (And.intro (And.intro (And.intro @eqDs_cons (And.intro @isi_int @isi_bl)) (And.intro @isi_str (And.intro @isi_non @isi_tup))) (And.intro (And.intro @isi_lst (And.intro @isi_nd @mulE_int)) (And.intro @sp_is_number (And.intro @sp_l_is_whole @sp_l_shared)))) (And.intro (And.intro (And.intro @sp_l_low (And.intro @sp_l_is_number @vsgn_lt)) (And.intro @vsgn_gt (And.intro @vsgn_ge @vsgn_le))) (And.intro (And.intro @vsgn_lt1 (And.intro @vsgn_eq1 @vsgn_eq0)) (And.intro @qlt_t (And.intro @qeq_self @cStep_g)))))) (And.intro (And.intro (And.intro (And.intro (And.intro @cStep_g1 (And.intro @cKo_some @cKo1_some)) (And.intro @fStep_g (And.intro @fKo_some @compL_cons))) (And.intro (And.intro @compL_nil (And.intro @forL_cons @forL_nil)) (And.intro @forC_next (And.intro @forC_ret @compC_eq)))) (And.intro (And.intro (And.intro @compC2_some (And.intro @compC2_none @compK_lst)) (And.intro @compK_tup (And.intro @compK_zll @compK_ztt))) (And.intro (And.intro @zipL_cons (And.intro @zipL_nil @zipL_nil2)) (And.intro @enumL_cons (And.intro @enumL_nil @allE_0))))) (And.intro (And.intro (And.intro (And.intro @allE_1 (And.intro @allE_2 @allE_3)) (And.intro @allE_4 (And.intro @anyE_1 @anyE_2))) (And.intro (And.intro @anyE_3 (And.intro @idxl2 @idxl3)) (And.intro @idxl4 (And.intro @idxt4 @append_at)))) (And.intro (And.intro (And.intro @extend_at (And.intro @reverse_at @methK_at)) (And.intro @lenE_at (And.intro @idxE_at @tuple1E_at))) (And.intro (And.intro @list1E_at (And.intro @allE_at @sumE_at)) (And.intro (And.intro @slcE_at @isi_at) (And.intro @leave_at @eqE_ref))))))) (And.intro (And.intro (And.intro (And.intro (And.intro (And.intro @eqE_ref2 (And.intro @set_last @set_last2)) (And.intro @take_last (And.intro @take_last2 @natCast_lit))) (And.intro (And.intro @addE_l (And.intro @addE_t @cutD_00)) (And.intro @cutD_1 (And.intro @cutD_t1 @sne_kind_turn)))) (And.intro (And.intro (And.intro @sne_kind_upon (And.intro @sne_kind_beside @sne_kind_grid)) (And.intro @sne_turn_kind (And.intro @sne_turn_upon @sne_turn_beside))) (And.intro (And.intro @sne_turn_grid (And.intro @sne_upon_kind @sne_upon_turn)) (And.intro @sne_upon_beside (And.intro @sne_upon_grid @sne_beside_kind))))) (And.intro (And.intro (And.intro (And.intro @sne_beside_turn (And.intro @sne_beside_upon @sne_beside_grid)) (And.intro @sne_grid_kind (And.intro @sne_grid_turn @sne_grid_upon))) (And.intro (And.intro @sne_grid_beside (And.intro @sne_bar_mixture @sne_bar_plan)) (And.intro @sne_bar_squares (And.intro @sne_bar_laying @sne_bar_laid)))) (And.intro (And.intro (And.intro @sne_bar_barred (And.intro @sne_bar_mixed @sne_mixture_bar)) (And.intro @sne_mixture_plan (And.intro @sne_mixture_squares @sne_mixture_laying))) (And.intro (And.intro @sne_mixture_laid (And.intro @sne_mixture_barred @sne_mixture_mixed)) (And.intro (And.intro @sne_plan_bar @sne_plan_mixture) (And.intro @sne_plan_squares @sne_plan_laying)))))) (And.intro (And.intro (And.intro (And.intro (And.intro @sne_plan_laid (And.intro @sne_plan_barred @sne_plan_mixed)) (And.intro @sne_squares_bar (And.intro @sne_squares_mixture @sne_squares_plan))) (And.intro (And.intro @sne_squares_laying (And.intro @sne_squares_laid @sne_squares_barred)) (And.intro @sne_squares_mixed (And.intro @sne_laying_bar @sne_laying_mixture)))) (And.intro (And.intro (And.intro @sne_laying_plan (And.intro @sne_laying_squares @sne_laying_laid)) (And.intro @sne_laying_barred (And.intro @sne_laying_mixed @sne_laid_bar))) (And.intro (And.intro @sne_laid_mixture (And.intro @sne_laid_plan @sne_laid_squares)) (And.intro @sne_laid_laying (And.intro @sne_laid_barred @sne_laid_mixed))))) (And.intro (And.intro (And.intro (And.intro @sne_barred_bar (And.intro @sne_barred_mixture @sne_barred_plan)) (And.intro @sne_barred_squares (And.intro @sne_barred_laying @sne_barred_laid))) (And.intro (And.intro @sne_barred_mixed (And.intro @sne_mixed_bar @sne_mixed_mixture)) (And.intro @sne_mixed_plan (And.intro @sne_mixed_squares @sne_mixed_laying)))) (And.intro (And.intro (And.intro @sne_mixed_laid (And.intro @sne_mixed_barred @sumE_0)) (And.intro @sumE_1 (And.intro @sumE_2 @tuple1E_lst))) (And.intro (And.intro @tuple1E_tup (And.intro @list1E_lst @list1E_tup)) (And.intro (And.intro @eqD_non @eqD_str) (And.intro @shp_str_lit @eqD_ndx))))))))) := (And.intro (And.intro (And.intro (And.intro (And.intro (And.intro (And.intro (And.intro @varK_ok (And.intro @condK_t @condK_f)) (And.intro @condK_and (And.intro @condK_or @condK_int))) (And.intro (And.intro @ev_var (And.intro @ev_con @ev_prim)) (And.intro @ev_meth (And.intro @methK2_eq @ev_call)))) (And.intro (And.intro (And.intro @ev_refus (And.intro @refE_ok @refE_NoRoot)) (And.intro @refE_NoNumber (And.intro @refE_NoLaying @refE_NoTile))) (And.intro (And.intro @refE_NoFit (And.intro @refE_NoKinds @refE_NoPlan)) (And.intro @refE_NoSpot (And.intro @refE_NoNet @refE_NoText))))) (And.intro (And.intro (And.intro (And.intro @refE_NoSaying (And.intro @refE_NoName @refE_TooMany)) (And.intro @ev_and (And.intro @andK_eq @ev_or))) (And.intro (And.intro @orK_eq (And.intro @ev_ite @iteK_t)) (And.intro @iteK_f (And.intro @iteK_eq @ev_chain)))) (And.intro (And.intro (And.intro @chainK1_eq (And.intro @chainK2_eq @chainK3_eq)) (And.intro @chainK4_eq (And.intro @ev_comp @evs_nil))) (And.intro (And.intro @evs_cons (And.intro @consK_eq @consK2_eq)) (And.intro @st_asg (And.intro @asgK_eq @asgO_some)))))) (And.intro (And.intro (And.intro (And.intro (And.intro @st_setI (And.intro @setK1_eq @setK2_eq)) (And.intro @setK3_eq (And.intro @setK4_eq @st_expr))) (And.intro (And.intro @exprK_eq (And.intro @st_ite @iteSK_t)) (And.intro @iteSK_f (And.intro @st_whil @st_for)))) (And.intro (And.intro (And.intro @fStep_name (And.intro @st_ret @retK_eq)) (And.intro @st_retN (And.intro @st_raise @st_pass))) (And.intro (And.intro @st_wipe (And.intro @ss_nil @ss_cons)) (And.intro @seqK_next (And.intro @seqK_ret @fin_ret))))) (And.intro (And.intro (And.intro (And.intro @fin_next (And.intro @fin_exc @Res.bind_ok)) (And.intro @Res.bind_exc (And.intro @Res.nox_ok @bindP_name))) (And.intro (And.intro @bindP_tup (And.intro @bindP_lst @bindPs_nil)) (And.intro @bindPs_cons (And.intro @ap1_1 @ap2_2)))) (And.intro (And.intro (And.intro @pr_add (And.intro @pr_sub @pr_mul)) (And.intro @pr_fdiv (And.intro @pr_mod @pr_pow))) (And.intro (And.intro @pr_neg (And.intro @pr_notb @pr_eq)) (And.intro (And.intro @pr_ne @pr_newd) (And.intro @pr_lt @pr_le))))))) (And.intro (And.intro (And.intro (And.intro (And.intro (And.intro @pr_gt (And.intro @pr_ge @pr_isin)) (And.intro @pr_notin (And.intro @pr_is @pr_isnot))) (And.intro (And.intro @pr_tup (And.intro @pr_lst @pr_idx)) (And.intro @pr_len (And.intro @pr_abs @pr_int1)))) (And.intro (And.intro (And.intro @pr_isi (And.intro @pr_all @pr_any)) (And.intro @pr_min2 (And.intro @pr_max2 @pr_sum))) (And.intro (And.intro @pr_tuple1 (And.intro @pr_list1 @pr_append)) (And.intro @pr_extend (And.intro @pr_pop0 @pr_pop1))))) (And.intro (And.intro (And.intro (And.intro @pr_insert (And.intro @pr_rev @pr_max1)) (And.intro @pr_min1 (And.intro @pr_lenset @pr_reverse))) (And.intro (And.intro @ap3_3 (And.intro @revE_tup @revE_lst)) (And.intro @pr_slc00 (And.intro @pr_slc10 @pr_slc01)))) (And.intro (And.intro (And.intro @part_int' (And.intro @slcE_tup @slcE_lst)) (And.intro @src_en (And.intro @src_ent @src_zip))) (And.intro (And.intro @src_zipt (And.intro @src_ziptl @src_ziplt)) (And.intro @addE_int (And.intro @intOp_int @negE_int)))))) (And.intro (And.intro (And.intro (And.intro (And.intro @notE_bl (And.intro @absE_int @int1E_bl)) (And.intro @int1E_int (And.intro @isE_bl @isE_tn))) (And.intro (And.intro @isE_nn (And.intro @b_ft @b_tf)) (And.intro @tupE_ok (And.intro @mkL_ok @mkL_cell)))) (And.intro (And.intro (And.intro @okB_some (And.intro @lenE_tup @lenE_lst)) (And.intro @lenE_fix (And.intro @idx0 @idx1))) (And.intro (And.intro @idx2 (And.intro @idx3 @idxl0)) (And.intro @idxl1 (And.intro @src_tup @src_lst))))) (And.intro (And.intro (And.intro (And.intro @src_fix (And.intro @Ok_ok @someK_eq)) (And.intro @cndK_t (And.intro @cndK_f @wipeE_nil))) (And.intro (And.intro @wipeE_cons (And.intro @leave_int @leave_bl)) (And.intro @leave_non (And.intro @leave_str @leave_nd)))) (And.intro (And.intro (And.intro @leave_tup (And.intro @leave_lst @belows_nil)) (And.intro @belows_cons (And.intro @bel_int @bel_bl))) (And.intro (And.intro @bel_non (And.intro @bel_str @bel_tup)) (And.intro (And.intro @bel_lst @nd_bel) (And.intro @take_same @idx_nd0)))))))) (And.intro (And.intro (And.intro (And.intro (And.intro (And.intro (And.intro @idx_nd1 (And.intro @idx_nd2 @bindP_nd)) (And.intro @len_nd (And.intro @tup_nd @modE_int))) (And.intro (And.intro @divE_lit (And.intro @tl_cons @eqE_shp)) (And.intro @inE_lst (And.intro @inE_tup @shp_non)))) (And.intro (And.intro (And.intro @shp_bl (And.intro @shp_int @shp_tup)) (And.intro @shp_lst (And.intro @shps_nil @shps_cons))) (And.intro (And.intro @shp_nd (And.intro @eqD_int @eqD_bl)) (And.intro @eqD_tup (And.intro @eqD_lst @eqDs_nil))))) (And.intro (And.intro (And.intro (And.intro @eqDs_cons (And.intro @isi_int @isi_bl)) (And.intro @isi_str (And.intro @isi_non @isi_tup))) (And.intro (And.intro @isi_lst (And.intro @isi_nd @mulE_int)) (And.intro @sp_is_number (And.intro @sp_l_is_whole @sp_l_shared)))) (And.intro (And.intro (And.intro @sp_l_low (And.intro @sp_l_is_number @vsgn_lt)) (And.intro @vsgn_gt (And.intro @vsgn_ge @vsgn_le))) (And.intro (And.intro @vsgn_lt1 (And.intro @vsgn_eq1 @vsgn_eq0)) (And.intro @qlt_t (And.intro @qeq_self @cStep_g)))))) (And.intro (And.intro (And.intro (And.intro (And.intro @cStep_g1 (And.intro @cKo_some @cKo1_some)) (And.intro @fStep_g (And.intro @fKo_some @compL_cons))) (And.intro (And.intro @compL_nil (And.intro @forL_cons @forL_nil)) (And.intro @forC_next (And.intro @forC_ret @compC_eq)))) (And.intro (And.intro (And.intro @compC2_some (And.intro @compC2_none @compK_lst)) (And.intro @compK_tup (And.intro @compK_zll @compK_ztt))) (And.intro (And.intro @zipL_cons (And.intro @zipL_nil @zipL_nil2)) (And.intro @enumL_cons (And.intro @enumL_nil @allE_0))))) (And.intro (And.intro (And.intro (And.intro @allE_1 (And.intro @allE_2 @allE_3)) (And.intro @allE_4 (And.intro @anyE_1 @anyE_2))) (And.intro (And.intro @anyE_3 (And.intro @idxl2 @idxl3)) (And.intro @idxl4 (And.intro @idxt4 @append_at)))) (And.intro (And.intro (And.intro @extend_at (And.intro @reverse_at @methK_at)) (And.intro @lenE_at (And.intro @idxE_at @tuple1E_at))) (And.intro (And.intro @list1E_at (And.intro @allE_at @sumE_at)) (And.intro (And.intro @slcE_at @isi_at) (And.intro @leave_at @eqE_ref))))))) (And.intro (And.intro (And.intro (And.intro (And.intro (And.intro @eqE_ref2 (And.intro @set_last @set_last2)) (And.intro @take_last (And.intro @take_last2 @natCast_lit))) (And.intro (And.intro @addE_l (And.intro @addE_t @cutD_00)) (And.intro @cutD_1 (And.intro @cutD_t1 @sne_kind_turn)))) (And.intro (And.intro (And.intro @sne_kind_upon (And.intro @sne_kind_beside @sne_kind_grid)) (And.intro @sne_turn_kind (And.intro @sne_turn_upon @sne_turn_beside))) (And.intro (And.intro @sne_turn_grid (And.intro @sne_upon_kind @sne_upon_turn)) (And.intro @sne_upon_beside (And.intro @sne_upon_grid @sne_beside_kind))))) (And.intro (And.intro (And.intro (And.intro @sne_beside_turn (And.intro @sne_beside_upon @sne_beside_grid)) (And.intro @sne_grid_kind (And.intro @sne_grid_turn @sne_grid_upon))) (And.intro (And.intro @sne_grid_beside (And.intro @sne_bar_mixture @sne_bar_plan)) (And.intro @sne_bar_squares (And.intro @sne_bar_laying @sne_bar_laid)))) (And.intro (And.intro (And.intro @sne_bar_barred (And.intro @sne_bar_mixed @sne_mixture_bar)) (And.intro @sne_mixture_plan (And.intro @sne_mixture_squares @sne_mixture_laying))) (And.intro (And.intro @sne_mixture_laid (And.intro @sne_mixture_barred @sne_mixture_mixed)) (And.intro (And.intro @sne_plan_bar @sne_plan_mixture) (And.intro @sne_plan_squares @sne_plan_laying)))))) (And.intro (And.intro (And.intro (And.intro (And.intro @sne_plan_laid (And.intro @sne_plan_barred @sne_plan_mixed)) (And.intro @sne_squares_bar (And.intro @sne_squares_mixture @sne_squares_plan))) (And.intro (And.intro @sne_squares_laying (And.intro @sne_squares_laid @sne_squares_barred)) (And.intro @sne_squares_mixed (And.intro @sne_laying_bar @sne_laying_mixture)))) (And.intro (And.intro (And.intro @sne_laying_plan (And.intro @sne_laying_squares @sne_laying_laid)) (And.intro @sne_laying_barred (And.intro @sne_laying_mixed @sne_laid_bar))) (And.intro (And.intro @sne_laid_mixture (And.intro @sne_laid_plan @sne_laid_squares)) (And.intro @sne_laid_laying (And.intro @sne_laid_barred @sne_laid_mixed))))) (And.intro (And.intro (And.intro (And.intro @sne_barred_bar (And.intro @sne_barred_mixture @sne_barred_plan)) (And.intro @sne_barred_squares (And.intro @sne_barred_laying @sne_barred_laid))) (And.intro (And.intro @sne_barred_mixed (And.intro @sne_mixed_bar @sne_mixed_mixture)) (And.intro @sne_mixed_plan (And.intro @sne_mixed_squares @sne_mixed_laying)))) (And.intro (And.intro (And.intro @sne_mixed_laid (And.intro @sne_mixed_barred @sumE_0)) (And.intro @sumE_1 (And.intro @sumE_2 @tuple1E_lst))) (And.intro (And.intro @tuple1E_tup (And.intro @list1E_lst @list1E_tup)) (And.intro (And.intro @eqD_non @eqD_str) (And.intro @shp_str_lit @eqD_ndx)))))))))
local macro_rules | `(tactic| walk_at "sp") => `(tactic| simp (disch := walk_at "dis") only [SPA_fdf191e3, Option.bind_some, List.getElem?_cons_zero, List.getElem?_cons_succ, List.set_cons_zero, List.set_cons_succ, List.length_cons, List.length_nil, if_true, if_false, ite_true, ite_false, reduceIte, Bool.not_true, Bool.not_false, Nat.zero_add, Nat.reduceAdd, Nat.reduceLeDiff, Option.isSome_some, decide_true, decide_false, Bool.false_eq_true, Bool.and_true, ne_eq, Int.reduceEq, not_false_eq_true, Int.reduceNeg, Int.reduceLT, Nat.reducePow, Nat.reduceLT, List.length_map, Option.map_some, List.any_cons, List.any_nil, Bool.or_false, Bool.and_self, reduceCtorEq, beq_self_eq_true, or_false, or_true, true_or, false_or, Int.reduceBEq, Int.reduceLE, List.drop_succ_cons, List.drop_zero, List.take_succ_cons, List.take_zero, List.cons_append, List.nil_append, Bool.true_and, Bool.false_and, Bool.and_false, Bool.true_or, Bool.false_or, Bool.or_true, Bool.not_not, Bool.or_self, eq_self])
local macro_rules | `(tactic| walk_at "spx") => `(tactic| simp -implicitDefEqProofs (disch := walk_at "dis") only [SPA_fdf191e3, Option.bind_some, List.getElem?_cons_zero, List.getElem?_cons_succ, List.set_cons_zero, List.set_cons_succ, List.length_cons, List.length_nil, if_true, if_false, ite_true, ite_false, reduceIte, Bool.not_true, Bool.not_false, Nat.zero_add, Nat.reduceAdd, Nat.reduceLeDiff, Option.isSome_some, decide_true, decide_false, Bool.false_eq_true, Bool.and_true, ne_eq, Int.reduceEq, not_false_eq_true, Int.reduceNeg, Int.reduceLT, Nat.reducePow, Nat.reduceLT, List.length_map, Option.map_some, List.any_cons, List.any_nil, Bool.or_false, Bool.and_self, reduceCtorEq, beq_self_eq_true, or_false, or_true, true_or, false_or, Int.reduceBEq, Int.reduceLE, List.drop_succ_cons, List.drop_zero, List.take_succ_cons, List.take_zero, List.cons_append, List.nil_append, Bool.true_and, Bool.false_and, Bool.and_false, Bool.true_or, Bool.false_or, Bool.or_true, Bool.not_not, Bool.or_self, eq_self])
local macro_rules | `(tactic| walk_at "conj") => `(tactic| simp only [Q2.conj_add, Q2.conj_mul, Q2.conj_neg, Q2.conj_inv, Q2.conj_conj, Q2.conj_zero, Q2.conj_one,  Q2.sub_conj])
local macro_rules | `(tactic| walk_at "fld") => `(tactic| first | with_reducible rfl | assumption | grind | (walk_at "conj"; done) | (walk_at "conj"; grind))
local macro_rules | `(tactic| walk_at "dise") => `(tactic| first | (with_reducible show V _ _ _; walk_at "V") | (with_reducible show (_ : Q2 _) = _; walk_at "fld"))
local macro_rules | `(tactic| walk_at "cmp") => `(tactic| simp (disch := first | assumption | grind) only [qlt_t, qlt_f, vsgn_lt, vsgn_gt, vsgn_ge, vsgn_le, vsgn_lt1, vsgn_eq1, vsgn_eq0])
local macro_rules | `(tactic| walk_at "eq") => `(tactic| simp (disch := walk_at "dise") only [deq_t, frac_t])
local macro_rules | `(tactic| walk_at "auto") => `(tactic| (try walk_at "sp"); (repeat (walk_at "eq"; try walk_at "sp")))
local macro_rules | `(tactic| walk_at "un") => `(tactic| first | rw [forK_eq (h := src_lst _ _)] | rw [forK_eq (h := src_tup _ _)] | rw [forK_eq (h := src_ent _ _)] | rw [forK_eq (h := src_en _ _)] | rw [forK_eq (h := src_zip _ _ _)] | rw [forK_eq (h := src_zipt _ _ _)])
local macro_rules | `(tactic| walk_at "autox") => `(tactic| (try walk_at "spx"); (repeat (walk_at "eq"; try walk_at "spx")))

theorem sp_eq_NoRoot {M : Mem} : eqE M (.str "NoRoot") (.str "NoRoot") = some true := by
  rw [eqE_shp (by kernel_rfl) (by kernel_rfl)]
  exact congrArg some (by kernel_rfl)
theorem sp_eq_NoNumber {M : Mem} : eqE M (.str "NoNumber") (.str "NoNumber") = some true := by
  rw [eqE_shp (by kernel_rfl) (by kernel_rfl)]
  exact congrArg some (by kernel_rfl)
theorem sp_eq_NoLaying {M : Mem} : eqE M (.str "NoLaying") (.str "NoLaying") = some true := by
  rw [eqE_shp (by kernel_rfl) (by kernel_rfl)]
  exact congrArg some (by kernel_rfl)
theorem sp_eq_NoTile {M : Mem} : eqE M (.str "NoTile") (.str "NoTile") = some true := by
  rw [eqE_shp (by kernel_rfl) (by kernel_rfl)]
  exact congrArg some (by kernel_rfl)
theorem sp_eq_NoFit {M : Mem} : eqE M (.str "NoFit") (.str "NoFit") = some true := by
  rw [eqE_shp (by kernel_rfl) (by kernel_rfl)]
  exact congrArg some (by kernel_rfl)
theorem sp_eq_NoKinds {M : Mem} : eqE M (.str "NoKinds") (.str "NoKinds") = some true := by
  rw [eqE_shp (by kernel_rfl) (by kernel_rfl)]
  exact congrArg some (by kernel_rfl)
theorem sp_eq_NoPlan {M : Mem} : eqE M (.str "NoPlan") (.str "NoPlan") = some true := by
  rw [eqE_shp (by kernel_rfl) (by kernel_rfl)]
  exact congrArg some (by kernel_rfl)
theorem sp_eq_NoSpot {M : Mem} : eqE M (.str "NoSpot") (.str "NoSpot") = some true := by
  rw [eqE_shp (by kernel_rfl) (by kernel_rfl)]
  exact congrArg some (by kernel_rfl)
theorem sp_eq_NoNet {M : Mem} : eqE M (.str "NoNet") (.str "NoNet") = some true := by
  rw [eqE_shp (by kernel_rfl) (by kernel_rfl)]
  exact congrArg some (by kernel_rfl)
theorem sp_eq_NoText {M : Mem} : eqE M (.str "NoText") (.str "NoText") = some true := by
  rw [eqE_shp (by kernel_rfl) (by kernel_rfl)]
  exact congrArg some (by kernel_rfl)
theorem sp_eq_NoSaying {M : Mem} : eqE M (.str "NoSaying") (.str "NoSaying") = some true := by
  rw [eqE_shp (by kernel_rfl) (by kernel_rfl)]
  exact congrArg some (by kernel_rfl)
theorem sp_eq_NoName {M : Mem} : eqE M (.str "NoName") (.str "NoName") = some true := by
  rw [eqE_shp (by kernel_rfl) (by kernel_rfl)]
  exact congrArg some (by kernel_rfl)
theorem sp_eq_TooMany {M : Mem} : eqE M (.str "TooMany") (.str "TooMany") = some true := by
  rw [eqE_shp (by kernel_rfl) (by kernel_rfl)]
  exact congrArg some (by kernel_rfl)

end MFL1
section MFL2
local macro_rules | `(tactic| walk_at "pos") => `(tactic| with_reducible first | assumption | exact Q2.one_pos | (show 0 < (_ * _ : Q2 _); exact Q2.mul_pos (by walk_at "pos") (by walk_at "pos")) | (show 0 < ((_ : Q2 _)⁻¹); exact Q2.inv_pos (by walk_at "pos")) | (show 0 < (_ + _ : Q2 _); exact Q2.add_pos (by walk_at "pos") (by walk_at "pos")))
local macro_rules | `(tactic| walk_at "ne") => `(tactic| with_reducible first | assumption | exact Q2.one_ne | exact Q2.ne_pos (by walk_at "pos") | (show (_ * _ : Q2 _) ≠ 0; exact Q2.mul_ne (by walk_at "ne") (by walk_at "ne")) | (show ((_ : Q2 _)⁻¹) ≠ 0; exact Q2.inv_ne (by walk_at "ne")) | (show Q2.conj _ ≠ 0; exact Q2.conj_ne (by walk_at "ne")) | (show (-_ : Q2 _) ≠ 0; exact Q2.neg_ne (by walk_at "ne")))
local macro_rules | `(tactic| walk_at "V") => `(tactic| with_reducible first | assumption | (show V _ _ (nplus (0, 0, 1) _); exact V.plus0 (by walk_at "V")) | (show V _ _ (nplus _ _); exact V.plus (by walk_at "V") (by walk_at "V")) | (show V _ _ (ntimes _ _ _); exact V.times (by assumption) (by walk_at "V") (by walk_at "V")) | (show V _ _ (nneg _); exact V.neg (by walk_at "V")) | (show V _ _ (nmate _); exact V.mate (by walk_at "V")) | (show V _ _ (ninv _ _); exact V.inv (by assumption) (by walk_at "V") (by walk_at "ne")) | exact V.lit0 | exact V.lit1 | exact V.lit4 | exact V.of (by assumption))
local macro_rules | `(tactic| walk_at "shp") => `(tactic| simp only [sok_kind, sok_turn, sok_upon, sok_beside, sok_grid, sok_bar, sok_mixture, sok_plan, sok_squares, sok_laying, sok_laid, sok_barred, sok_mixed, shp_non, shp_bl, shp_int, shp_str_lit, shp_tup, shp_lst, shps_nil, shps_cons, shp_nd, Bool.and_self, Bool.and_true])
local macro_rules | `(tactic| walk_at "bel") => `(tactic| simp only [belows_nil, belows_cons, bel_int, bel_bl, bel_non, bel_str, bel_tup, bel_lst, nd_bel, Bool.and_self, Bool.and_true])
local macro_rules | `(tactic| walk_at "pure") => `(tactic| simp only [pures_nil, pures_cons, pure_int, pure_bl, pure_non, pure_str, pure_tup, pure_lst, nd_pure, pures_append, Bool.and_self, Bool.and_true])
local macro_rules | `(tactic| walk_at "okt") => `(tactic| first | assumption | decide | (show okT (_ ++ _) = true; rw [okT_app, Bool.and_eq_true]; exact ⟨by walk_at "okt", by walk_at "okt"⟩) | exact okT_decI _ | exact okT_decN _)
local macro_rules | `(tactic| walk_at "dis") => `(tactic| first | assumption | with_reducible exact get_last | with_reducible exact get_last2 | (with_reducible show _ ∨ _; first | exact .inl (Nat.le_refl _) | exact .inr (by walk_at "pure") | exact .inl (by omega)) | (with_reducible show pures _ = true; walk_at "pure") | (with_reducible show D.pure _ = true; walk_at "pure") | (with_reducible show V _ _ _; walk_at "V") | (with_reducible show IsN _; exact V.isn (by walk_at "V")) | (with_reducible show List.length _ ≤ 1000; exact Nat.le_of_ble_eq_true rfl) | (with_reducible show List.length _ + List.length _ ≤ 1000; exact Nat.le_of_ble_eq_true rfl) | (with_reducible show (_ : Nat) ≤ _; first | decide | omega) | (with_reducible show mulOk _ _ = true; exact Bd.ok (by walk_at "bd") (by walk_at "bd") (by omega)) | (with_reducible show D.shp _ _ = true; walk_at "shp") | (with_reducible show shps _ _ = true; walk_at "shp") | (with_reducible show belows _ _ = true; walk_at "bel") | (with_reducible show okT _ = true; walk_at "okt") | (with_reducible show lenT _; first | assumption | (simp only [lenT, List.length_append, List.length_cons, List.length_nil, List.length_singleton, List.length_drop, List.length_take, List.length_reverse]; omega)) | (with_reducible show (0 : Q2 _) < _; walk_at "pos") | (with_reducible show (_ : Q2 _) ≠ 0; walk_at "ne") | (with_reducible show NoGrd _; first | exact noGrd1 | exact noGrd0 | exact noGrd2) | (with_reducible show (_ : Int) ≠ _; first | decide | omega) | (with_reducible show (_ : Int) < _; first | decide | omega) | (with_reducible show (_ : Int) ≤ _; first | decide | omega))
private theorem SPA_e0de149b : type_of% (And.intro (And.intro (And.intro @sp_eq_NoRoot (And.intro @sp_eq_NoNumber @sp_eq_NoLaying)) (And.intro @sp_eq_NoTile (And.intro @sp_eq_NoFit @sp_eq_NoKinds))) (And.intro (And.intro @sp_eq_NoPlan (And.intro @sp_eq_NoSpot @sp_eq_NoNet)) (And.intro (And.intro @sp_eq_NoText @sp_eq_NoSaying) (And.intro @sp_eq_NoName @sp_eq_TooMany)))) := (And.intro (And.intro (And.intro @sp_eq_NoRoot (And.intro @sp_eq_NoNumber @sp_eq_NoLaying)) (And.intro @sp_eq_NoTile (And.intro @sp_eq_NoFit @sp_eq_NoKinds))) (And.intro (And.intro @sp_eq_NoPlan (And.intro @sp_eq_NoSpot @sp_eq_NoNet)) (And.intro (And.intro @sp_eq_NoText @sp_eq_NoSaying) (And.intro @sp_eq_NoName @sp_eq_TooMany))))
local macro_rules | `(tactic| walk_at "sp") => `(tactic| simp (disch := walk_at "dis") only [SPA_fdf191e3, SPA_e0de149b, Option.bind_some, List.getElem?_cons_zero, List.getElem?_cons_succ, List.set_cons_zero, List.set_cons_succ, List.length_cons, List.length_nil, if_true, if_false, ite_true, ite_false, reduceIte, Bool.not_true, Bool.not_false, Nat.zero_add, Nat.reduceAdd, Nat.reduceLeDiff, Option.isSome_some, decide_true, decide_false, Bool.false_eq_true, Bool.and_true, ne_eq, Int.reduceEq, not_false_eq_true, Int.reduceNeg, Int.reduceLT, Nat.reducePow, Nat.reduceLT, List.length_map, Option.map_some, List.any_cons, List.any_nil, Bool.or_false, Bool.and_self, reduceCtorEq, beq_self_eq_true, or_false, or_true, true_or, false_or, Int.reduceBEq, Int.reduceLE, List.drop_succ_cons, List.drop_zero, List.take_succ_cons, List.take_zero, List.cons_append, List.nil_append, Bool.true_and, Bool.false_and, Bool.and_false, Bool.true_or, Bool.false_or, Bool.or_true, Bool.not_not, Bool.or_self, eq_self])
local macro_rules | `(tactic| walk_at "spx") => `(tactic| simp -implicitDefEqProofs (disch := walk_at "dis") only [SPA_fdf191e3, SPA_e0de149b, Option.bind_some, List.getElem?_cons_zero, List.getElem?_cons_succ, List.set_cons_zero, List.set_cons_succ, List.length_cons, List.length_nil, if_true, if_false, ite_true, ite_false, reduceIte, Bool.not_true, Bool.not_false, Nat.zero_add, Nat.reduceAdd, Nat.reduceLeDiff, Option.isSome_some, decide_true, decide_false, Bool.false_eq_true, Bool.and_true, ne_eq, Int.reduceEq, not_false_eq_true, Int.reduceNeg, Int.reduceLT, Nat.reducePow, Nat.reduceLT, List.length_map, Option.map_some, List.any_cons, List.any_nil, Bool.or_false, Bool.and_self, reduceCtorEq, beq_self_eq_true, or_false, or_true, true_or, false_or, Int.reduceBEq, Int.reduceLE, List.drop_succ_cons, List.drop_zero, List.take_succ_cons, List.take_zero, List.cons_append, List.nil_append, Bool.true_and, Bool.false_and, Bool.and_false, Bool.true_or, Bool.false_or, Bool.or_true, Bool.not_not, Bool.or_self, eq_self])
local macro_rules | `(tactic| walk_at "conj") => `(tactic| simp only [Q2.conj_add, Q2.conj_mul, Q2.conj_neg, Q2.conj_inv, Q2.conj_conj, Q2.conj_zero, Q2.conj_one,  Q2.sub_conj])
local macro_rules | `(tactic| walk_at "fld") => `(tactic| first | with_reducible rfl | assumption | grind | (walk_at "conj"; done) | (walk_at "conj"; grind))
local macro_rules | `(tactic| walk_at "dise") => `(tactic| first | (with_reducible show V _ _ _; walk_at "V") | (with_reducible show (_ : Q2 _) = _; walk_at "fld"))
local macro_rules | `(tactic| walk_at "cmp") => `(tactic| simp (disch := first | assumption | grind) only [qlt_t, qlt_f, vsgn_lt, vsgn_gt, vsgn_ge, vsgn_le, vsgn_lt1, vsgn_eq1, vsgn_eq0])
local macro_rules | `(tactic| walk_at "eq") => `(tactic| simp (disch := walk_at "dise") only [deq_t, frac_t])
local macro_rules | `(tactic| walk_at "auto") => `(tactic| (try walk_at "sp"); (repeat (walk_at "eq"; try walk_at "sp")))
local macro_rules | `(tactic| walk_at "un") => `(tactic| first | rw [forK_eq (h := src_lst _ _)] | rw [forK_eq (h := src_tup _ _)] | rw [forK_eq (h := src_ent _ _)] | rw [forK_eq (h := src_en _ _)] | rw [forK_eq (h := src_zip _ _ _)] | rw [forK_eq (h := src_zipt _ _ _)])
local macro_rules | `(tactic| walk_at "autox") => `(tactic| (try walk_at "spx"); (repeat (walk_at "eq"; try walk_at "spx")))

noncomputable def slcK1 (cf : Nat → List D → Mem → Res D) (b : Nat) (m : Bool) (t u : Tm) (ρ : Env) (x : D) (M : Mem) : Res D := (evE cf b t ρ M).bind fun y M2 => match part y with
  | some i => (evE cf b u ρ M2).bind fun z M3 => match part z with
    | some j => slcE m x (some i) (some j) M3
    | none => .stuck
  | none => .stuck
noncomputable def slcK2 (cf : Nat → List D → Mem → Res D) (b : Nat) (m : Bool) (u : Tm) (ρ : Env) (x : D) (y : D) (M : Mem) : Res D := match part y with
  | some i => (evE cf b u ρ M).bind fun z M3 => match part z with
    | some j => slcE m x (some i) (some j) M3
    | none => .stuck
  | none => .stuck
def slcK3 (m : Bool) (x : D) (i : Int) (z : D) (M : Mem) : Res D := match part z with
  | some j => slcE m x (some i) (some j) M
  | none => .stuck
section
variable {cf : Nat → List D → Mem → Res D} {b : Nat} {ρ : Env} {M : Mem} {m : Bool} {s t u : Tm} {d x y z : D} {i j : Int} {v : T3} {ys : List D} {lo hi : Option Int}
theorem sp_slc2 : evE cf b (.slc2 m s t u) ρ M = (evE cf b s ρ M).bind (slcK1 cf b m t u ρ) := by simp only [evE]; rfl
theorem sp_slcK1 : slcK1 cf b m t u ρ x M = (evE cf b t ρ M).bind (slcK2 cf b m u ρ x) := rfl
theorem sp_slcK2 : slcK2 cf b m u ρ x (.int i) M = (evE cf b u ρ M).bind (slcK3 m x i) := rfl
theorem sp_slcK3 : slcK3 m x i (.int j) M = slcE m x (some i) (some j) M := rfl
theorem sp_slc_nd : slcE false (nd v) lo hi M = .ok (.tup (cutD [.int v.1, .int v.2.1, .int v.2.2] lo hi)) M := slcE_tup ..
theorem sp_rev_nd : revE false (nd v) M = .ok (.tup [.int v.2.2, .int v.2.1, .int v.1]) M := rfl
theorem sp_list_nd : list1E false (nd v) M = .ok (.lst [.int v.1, .int v.2.1, .int v.2.2]) M := by
  unfold nd
  rw [list1E_tup, mkL_ok _ _ (by simp)]
theorem sp_add_nt (h : ys.length ≤ 1000) : addE (nd v) (.tup ys) M = .ok (.tup ([.int v.1, .int v.2.1, .int v.2.2] ++ ys)) M := by
  unfold nd
  exact addE_tup _ _ _ (Nat.le_trans (show _ ≤ 2000 by simp only [List.length_cons, List.length_nil]; omega) (by decide))
theorem sp_add_tn (h : ys.length ≤ 1000) : addE (.tup ys) (nd v) M = .ok (.tup (ys ++ [.int v.1, .int v.2.1, .int v.2.2])) M := by
  unfold nd
  exact addE_tup _ _ _ (Nat.le_trans (show _ ≤ 2000 by simp only [List.length_cons, List.length_nil]; omega) (by decide))
theorem sp_c3_t0 : cutD [x, y, z] none (some 0) = [] := rfl
theorem sp_c3_t1 : cutD [x, y, z] none (some 1) = [x] := rfl
theorem sp_c3_t2 : cutD [x, y, z] none (some 2) = [x, y] := rfl
theorem sp_c3_f0 : cutD [x, y, z] (some 0) none = [x, y, z] := rfl
theorem sp_c3_f1 : cutD [x, y, z] (some 1) none = [y, z] := rfl
theorem sp_c3_f2 : cutD [x, y, z] (some 2) none = [z] := rfl
theorem sp_c3_f3 : cutD [x, y, z] (some 3) none = [] := rfl
theorem sp_c3_m1 : cutD [x, y, z] (some 0) (some 1) = [x] := rfl
theorem sp_c3_m2 : cutD [x, y, z] (some 1) (some 2) = [y] := rfl
theorem sp_c3_m3 : cutD [x, y, z] (some 2) (some 3) = [z] := rfl
theorem sp_i01 : (0 : Int) + 1 = 1 := rfl
theorem sp_i11 : (1 : Int) + 1 = 2 := rfl
theorem sp_i21 : (2 : Int) + 1 = 3 := rfl
end

end MFL2
section MFL3
local macro_rules | `(tactic| walk_at "pos") => `(tactic| with_reducible first | assumption | exact Q2.one_pos | (show 0 < (_ * _ : Q2 _); exact Q2.mul_pos (by walk_at "pos") (by walk_at "pos")) | (show 0 < ((_ : Q2 _)⁻¹); exact Q2.inv_pos (by walk_at "pos")) | (show 0 < (_ + _ : Q2 _); exact Q2.add_pos (by walk_at "pos") (by walk_at "pos")))
local macro_rules | `(tactic| walk_at "ne") => `(tactic| with_reducible first | assumption | exact Q2.one_ne | exact Q2.ne_pos (by walk_at "pos") | (show (_ * _ : Q2 _) ≠ 0; exact Q2.mul_ne (by walk_at "ne") (by walk_at "ne")) | (show ((_ : Q2 _)⁻¹) ≠ 0; exact Q2.inv_ne (by walk_at "ne")) | (show Q2.conj _ ≠ 0; exact Q2.conj_ne (by walk_at "ne")) | (show (-_ : Q2 _) ≠ 0; exact Q2.neg_ne (by walk_at "ne")))
local macro_rules | `(tactic| walk_at "V") => `(tactic| with_reducible first | assumption | (show V _ _ (nplus (0, 0, 1) _); exact V.plus0 (by walk_at "V")) | (show V _ _ (nplus _ _); exact V.plus (by walk_at "V") (by walk_at "V")) | (show V _ _ (ntimes _ _ _); exact V.times (by assumption) (by walk_at "V") (by walk_at "V")) | (show V _ _ (nneg _); exact V.neg (by walk_at "V")) | (show V _ _ (nmate _); exact V.mate (by walk_at "V")) | (show V _ _ (ninv _ _); exact V.inv (by assumption) (by walk_at "V") (by walk_at "ne")) | exact V.lit0 | exact V.lit1 | exact V.lit4 | exact V.of (by assumption))
local macro_rules | `(tactic| walk_at "shp") => `(tactic| simp only [sok_kind, sok_turn, sok_upon, sok_beside, sok_grid, sok_bar, sok_mixture, sok_plan, sok_squares, sok_laying, sok_laid, sok_barred, sok_mixed, shp_non, shp_bl, shp_int, shp_str_lit, shp_tup, shp_lst, shps_nil, shps_cons, shp_nd, Bool.and_self, Bool.and_true])
local macro_rules | `(tactic| walk_at "bel") => `(tactic| simp only [belows_nil, belows_cons, bel_int, bel_bl, bel_non, bel_str, bel_tup, bel_lst, nd_bel, Bool.and_self, Bool.and_true])
local macro_rules | `(tactic| walk_at "pure") => `(tactic| simp only [pures_nil, pures_cons, pure_int, pure_bl, pure_non, pure_str, pure_tup, pure_lst, nd_pure, pures_append, Bool.and_self, Bool.and_true])
local macro_rules | `(tactic| walk_at "okt") => `(tactic| first | assumption | decide | (show okT (_ ++ _) = true; rw [okT_app, Bool.and_eq_true]; exact ⟨by walk_at "okt", by walk_at "okt"⟩) | exact okT_decI _ | exact okT_decN _)
local macro_rules | `(tactic| walk_at "dis") => `(tactic| first | assumption | with_reducible exact get_last | with_reducible exact get_last2 | (with_reducible show _ ∨ _; first | exact .inl (Nat.le_refl _) | exact .inr (by walk_at "pure") | exact .inl (by omega)) | (with_reducible show pures _ = true; walk_at "pure") | (with_reducible show D.pure _ = true; walk_at "pure") | (with_reducible show V _ _ _; walk_at "V") | (with_reducible show IsN _; exact V.isn (by walk_at "V")) | (with_reducible show List.length _ ≤ 1000; exact Nat.le_of_ble_eq_true rfl) | (with_reducible show List.length _ + List.length _ ≤ 1000; exact Nat.le_of_ble_eq_true rfl) | (with_reducible show (_ : Nat) ≤ _; first | decide | omega) | (with_reducible show mulOk _ _ = true; exact Bd.ok (by walk_at "bd") (by walk_at "bd") (by omega)) | (with_reducible show D.shp _ _ = true; walk_at "shp") | (with_reducible show shps _ _ = true; walk_at "shp") | (with_reducible show belows _ _ = true; walk_at "bel") | (with_reducible show okT _ = true; walk_at "okt") | (with_reducible show lenT _; first | assumption | (simp only [lenT, List.length_append, List.length_cons, List.length_nil, List.length_singleton, List.length_drop, List.length_take, List.length_reverse]; omega)) | (with_reducible show (0 : Q2 _) < _; walk_at "pos") | (with_reducible show (_ : Q2 _) ≠ 0; walk_at "ne") | (with_reducible show NoGrd _; first | exact noGrd1 | exact noGrd0 | exact noGrd2) | (with_reducible show (_ : Int) ≠ _; first | decide | omega) | (with_reducible show (_ : Int) < _; first | decide | omega) | (with_reducible show (_ : Int) ≤ _; first | decide | omega))
private theorem SPA_db4ba9ec : type_of% (And.intro (And.intro (And.intro (And.intro @sp_slc2 @sp_slcK1) (And.intro @sp_slcK2 (And.intro @sp_slcK3 @sp_slc_nd))) (And.intro (And.intro @sp_rev_nd (And.intro @sp_list_nd @sp_add_nt)) (And.intro @sp_add_tn (And.intro @sp_c3_t0 @sp_c3_t1)))) (And.intro (And.intro (And.intro @sp_c3_t2 @sp_c3_f0) (And.intro @sp_c3_f1 (And.intro @sp_c3_f2 @sp_c3_f3))) (And.intro (And.intro @sp_c3_m1 (And.intro @sp_c3_m2 @sp_c3_m3)) (And.intro @sp_i01 (And.intro @sp_i11 @sp_i21))))) := (And.intro (And.intro (And.intro (And.intro @sp_slc2 @sp_slcK1) (And.intro @sp_slcK2 (And.intro @sp_slcK3 @sp_slc_nd))) (And.intro (And.intro @sp_rev_nd (And.intro @sp_list_nd @sp_add_nt)) (And.intro @sp_add_tn (And.intro @sp_c3_t0 @sp_c3_t1)))) (And.intro (And.intro (And.intro @sp_c3_t2 @sp_c3_f0) (And.intro @sp_c3_f1 (And.intro @sp_c3_f2 @sp_c3_f3))) (And.intro (And.intro @sp_c3_m1 (And.intro @sp_c3_m2 @sp_c3_m3)) (And.intro @sp_i01 (And.intro @sp_i11 @sp_i21)))))
local macro_rules | `(tactic| walk_at "sp") => `(tactic| simp (disch := walk_at "dis") only [SPA_fdf191e3, SPA_e0de149b, SPA_db4ba9ec, Option.bind_some, List.getElem?_cons_zero, List.getElem?_cons_succ, List.set_cons_zero, List.set_cons_succ, List.length_cons, List.length_nil, if_true, if_false, ite_true, ite_false, reduceIte, Bool.not_true, Bool.not_false, Nat.zero_add, Nat.reduceAdd, Nat.reduceLeDiff, Option.isSome_some, decide_true, decide_false, Bool.false_eq_true, Bool.and_true, ne_eq, Int.reduceEq, not_false_eq_true, Int.reduceNeg, Int.reduceLT, Nat.reducePow, Nat.reduceLT, List.length_map, Option.map_some, List.any_cons, List.any_nil, Bool.or_false, Bool.and_self, reduceCtorEq, beq_self_eq_true, or_false, or_true, true_or, false_or, Int.reduceBEq, Int.reduceLE, List.drop_succ_cons, List.drop_zero, List.take_succ_cons, List.take_zero, List.cons_append, List.nil_append, Bool.true_and, Bool.false_and, Bool.and_false, Bool.true_or, Bool.false_or, Bool.or_true, Bool.not_not, Bool.or_self, eq_self])
local macro_rules | `(tactic| walk_at "spx") => `(tactic| simp -implicitDefEqProofs (disch := walk_at "dis") only [SPA_fdf191e3, SPA_e0de149b, SPA_db4ba9ec, Option.bind_some, List.getElem?_cons_zero, List.getElem?_cons_succ, List.set_cons_zero, List.set_cons_succ, List.length_cons, List.length_nil, if_true, if_false, ite_true, ite_false, reduceIte, Bool.not_true, Bool.not_false, Nat.zero_add, Nat.reduceAdd, Nat.reduceLeDiff, Option.isSome_some, decide_true, decide_false, Bool.false_eq_true, Bool.and_true, ne_eq, Int.reduceEq, not_false_eq_true, Int.reduceNeg, Int.reduceLT, Nat.reducePow, Nat.reduceLT, List.length_map, Option.map_some, List.any_cons, List.any_nil, Bool.or_false, Bool.and_self, reduceCtorEq, beq_self_eq_true, or_false, or_true, true_or, false_or, Int.reduceBEq, Int.reduceLE, List.drop_succ_cons, List.drop_zero, List.take_succ_cons, List.take_zero, List.cons_append, List.nil_append, Bool.true_and, Bool.false_and, Bool.and_false, Bool.true_or, Bool.false_or, Bool.or_true, Bool.not_not, Bool.or_self, eq_self])
local macro_rules | `(tactic| walk_at "conj") => `(tactic| simp only [Q2.conj_add, Q2.conj_mul, Q2.conj_neg, Q2.conj_inv, Q2.conj_conj, Q2.conj_zero, Q2.conj_one,  Q2.sub_conj])
local macro_rules | `(tactic| walk_at "fld") => `(tactic| first | with_reducible rfl | assumption | grind | (walk_at "conj"; done) | (walk_at "conj"; grind))
local macro_rules | `(tactic| walk_at "dise") => `(tactic| first | (with_reducible show V _ _ _; walk_at "V") | (with_reducible show (_ : Q2 _) = _; walk_at "fld"))
local macro_rules | `(tactic| walk_at "cmp") => `(tactic| simp (disch := first | assumption | grind) only [qlt_t, qlt_f, vsgn_lt, vsgn_gt, vsgn_ge, vsgn_le, vsgn_lt1, vsgn_eq1, vsgn_eq0])
local macro_rules | `(tactic| walk_at "eq") => `(tactic| simp (disch := walk_at "dise") only [deq_t, frac_t])
local macro_rules | `(tactic| walk_at "auto") => `(tactic| (try walk_at "sp"); (repeat (walk_at "eq"; try walk_at "sp")))
local macro_rules | `(tactic| walk_at "un") => `(tactic| first | rw [forK_eq (h := src_lst _ _)] | rw [forK_eq (h := src_tup _ _)] | rw [forK_eq (h := src_ent _ _)] | rw [forK_eq (h := src_en _ _)] | rw [forK_eq (h := src_zip _ _ _)] | rw [forK_eq (h := src_zipt _ _ _)])
local macro_rules | `(tactic| walk_at "autox") => `(tactic| (try walk_at "spx"); (repeat (walk_at "eq"; try walk_at "spx")))

theorem rev_at {M : Mem} {j : Nat} {xs : List D} (h : M[j]? = some (.lst xs)) (hl : xs.length ≤ 1000) : revE false (.ref j) M = .ok (.lst xs.reverse) M := by
  unfold revE
  dsimp only
  rw [look_at h]
  exact mkL_ok _ _ (by rw [List.length_reverse]; omega)
theorem add_at {M : Mem} {j : Nat} {xs ys : List D} (h : M[j]? = some (.lst xs)) (hl : xs.length + ys.length ≤ 1000) : addE (.ref j) (.lst ys) M = .ok (.lst (xs ++ ys)) M := by
  unfold addE
  dsimp only
  rw [look_at h]
  dsimp only [look]
  rw [if_pos (Nat.le_trans hl (by decide))]

end MFL3
section MFL4
local macro_rules | `(tactic| walk_at "pos") => `(tactic| with_reducible first | assumption | exact Q2.one_pos | (show 0 < (_ * _ : Q2 _); exact Q2.mul_pos (by walk_at "pos") (by walk_at "pos")) | (show 0 < ((_ : Q2 _)⁻¹); exact Q2.inv_pos (by walk_at "pos")) | (show 0 < (_ + _ : Q2 _); exact Q2.add_pos (by walk_at "pos") (by walk_at "pos")))
local macro_rules | `(tactic| walk_at "ne") => `(tactic| with_reducible first | assumption | exact Q2.one_ne | exact Q2.ne_pos (by walk_at "pos") | (show (_ * _ : Q2 _) ≠ 0; exact Q2.mul_ne (by walk_at "ne") (by walk_at "ne")) | (show ((_ : Q2 _)⁻¹) ≠ 0; exact Q2.inv_ne (by walk_at "ne")) | (show Q2.conj _ ≠ 0; exact Q2.conj_ne (by walk_at "ne")) | (show (-_ : Q2 _) ≠ 0; exact Q2.neg_ne (by walk_at "ne")))
local macro_rules | `(tactic| walk_at "V") => `(tactic| with_reducible first | assumption | (show V _ _ (nplus (0, 0, 1) _); exact V.plus0 (by walk_at "V")) | (show V _ _ (nplus _ _); exact V.plus (by walk_at "V") (by walk_at "V")) | (show V _ _ (ntimes _ _ _); exact V.times (by assumption) (by walk_at "V") (by walk_at "V")) | (show V _ _ (nneg _); exact V.neg (by walk_at "V")) | (show V _ _ (nmate _); exact V.mate (by walk_at "V")) | (show V _ _ (ninv _ _); exact V.inv (by assumption) (by walk_at "V") (by walk_at "ne")) | exact V.lit0 | exact V.lit1 | exact V.lit4 | exact V.of (by assumption))
local macro_rules | `(tactic| walk_at "shp") => `(tactic| simp only [sok_kind, sok_turn, sok_upon, sok_beside, sok_grid, sok_bar, sok_mixture, sok_plan, sok_squares, sok_laying, sok_laid, sok_barred, sok_mixed, shp_non, shp_bl, shp_int, shp_str_lit, shp_tup, shp_lst, shps_nil, shps_cons, shp_nd, Bool.and_self, Bool.and_true])
local macro_rules | `(tactic| walk_at "bel") => `(tactic| simp only [belows_nil, belows_cons, bel_int, bel_bl, bel_non, bel_str, bel_tup, bel_lst, nd_bel, Bool.and_self, Bool.and_true])
local macro_rules | `(tactic| walk_at "pure") => `(tactic| simp only [pures_nil, pures_cons, pure_int, pure_bl, pure_non, pure_str, pure_tup, pure_lst, nd_pure, pures_append, Bool.and_self, Bool.and_true])
local macro_rules | `(tactic| walk_at "okt") => `(tactic| first | assumption | decide | (show okT (_ ++ _) = true; rw [okT_app, Bool.and_eq_true]; exact ⟨by walk_at "okt", by walk_at "okt"⟩) | exact okT_decI _ | exact okT_decN _)
local macro_rules | `(tactic| walk_at "dis") => `(tactic| first | assumption | with_reducible exact get_last | with_reducible exact get_last2 | (with_reducible show _ ∨ _; first | exact .inl (Nat.le_refl _) | exact .inr (by walk_at "pure") | exact .inl (by omega)) | (with_reducible show pures _ = true; walk_at "pure") | (with_reducible show D.pure _ = true; walk_at "pure") | (with_reducible show V _ _ _; walk_at "V") | (with_reducible show IsN _; exact V.isn (by walk_at "V")) | (with_reducible show List.length _ ≤ 1000; exact Nat.le_of_ble_eq_true rfl) | (with_reducible show List.length _ + List.length _ ≤ 1000; exact Nat.le_of_ble_eq_true rfl) | (with_reducible show (_ : Nat) ≤ _; first | decide | omega) | (with_reducible show mulOk _ _ = true; exact Bd.ok (by walk_at "bd") (by walk_at "bd") (by omega)) | (with_reducible show D.shp _ _ = true; walk_at "shp") | (with_reducible show shps _ _ = true; walk_at "shp") | (with_reducible show belows _ _ = true; walk_at "bel") | (with_reducible show okT _ = true; walk_at "okt") | (with_reducible show lenT _; first | assumption | (simp only [lenT, List.length_append, List.length_cons, List.length_nil, List.length_singleton, List.length_drop, List.length_take, List.length_reverse]; omega)) | (with_reducible show (0 : Q2 _) < _; walk_at "pos") | (with_reducible show (_ : Q2 _) ≠ 0; walk_at "ne") | (with_reducible show NoGrd _; first | exact noGrd1 | exact noGrd0 | exact noGrd2) | (with_reducible show (_ : Int) ≠ _; first | decide | omega) | (with_reducible show (_ : Int) < _; first | decide | omega) | (with_reducible show (_ : Int) ≤ _; first | decide | omega))
local macro_rules | `(tactic| walk_at "sp") => `(tactic| simp (disch := walk_at "dis") only [SPA_fdf191e3, SPA_e0de149b, SPA_db4ba9ec, Option.bind_some, List.getElem?_cons_zero, List.getElem?_cons_succ, List.set_cons_zero, List.set_cons_succ, List.length_cons, List.length_nil, if_true, if_false, ite_true, ite_false, reduceIte, Bool.not_true, Bool.not_false, Nat.zero_add, Nat.reduceAdd, Nat.reduceLeDiff, Option.isSome_some, decide_true, decide_false, Bool.false_eq_true, Bool.and_true, ne_eq, Int.reduceEq, not_false_eq_true, Int.reduceNeg, Int.reduceLT, Nat.reducePow, Nat.reduceLT, List.length_map, Option.map_some, List.any_cons, List.any_nil, Bool.or_false, Bool.and_self, reduceCtorEq, beq_self_eq_true, or_false, or_true, true_or, false_or, Int.reduceBEq, Int.reduceLE, List.drop_succ_cons, List.drop_zero, List.take_succ_cons, List.take_zero, List.cons_append, List.nil_append, Bool.true_and, Bool.false_and, Bool.and_false, Bool.true_or, Bool.false_or, Bool.or_true, Bool.not_not, Bool.or_self, eq_self])
local macro_rules | `(tactic| walk_at "spx") => `(tactic| simp -implicitDefEqProofs (disch := walk_at "dis") only [SPA_fdf191e3, SPA_e0de149b, SPA_db4ba9ec, Option.bind_some, List.getElem?_cons_zero, List.getElem?_cons_succ, List.set_cons_zero, List.set_cons_succ, List.length_cons, List.length_nil, if_true, if_false, ite_true, ite_false, reduceIte, Bool.not_true, Bool.not_false, Nat.zero_add, Nat.reduceAdd, Nat.reduceLeDiff, Option.isSome_some, decide_true, decide_false, Bool.false_eq_true, Bool.and_true, ne_eq, Int.reduceEq, not_false_eq_true, Int.reduceNeg, Int.reduceLT, Nat.reducePow, Nat.reduceLT, List.length_map, Option.map_some, List.any_cons, List.any_nil, Bool.or_false, Bool.and_self, reduceCtorEq, beq_self_eq_true, or_false, or_true, true_or, false_or, Int.reduceBEq, Int.reduceLE, List.drop_succ_cons, List.drop_zero, List.take_succ_cons, List.take_zero, List.cons_append, List.nil_append, Bool.true_and, Bool.false_and, Bool.and_false, Bool.true_or, Bool.false_or, Bool.or_true, Bool.not_not, Bool.or_self, eq_self])
local macro_rules | `(tactic| walk_at "conj") => `(tactic| simp only [Q2.conj_add, Q2.conj_mul, Q2.conj_neg, Q2.conj_inv, Q2.conj_conj, Q2.conj_zero, Q2.conj_one,  Q2.sub_conj])
local macro_rules | `(tactic| walk_at "fld") => `(tactic| first | with_reducible rfl | assumption | grind | (walk_at "conj"; done) | (walk_at "conj"; grind))
local macro_rules | `(tactic| walk_at "dise") => `(tactic| first | (with_reducible show V _ _ _; walk_at "V") | (with_reducible show (_ : Q2 _) = _; walk_at "fld"))
local macro_rules | `(tactic| walk_at "cmp") => `(tactic| simp (disch := first | assumption | grind) only [qlt_t, qlt_f, vsgn_lt, vsgn_gt, vsgn_ge, vsgn_le, vsgn_lt1, vsgn_eq1, vsgn_eq0])
local macro_rules | `(tactic| walk_at "eq") => `(tactic| simp (disch := walk_at "dise") only [deq_t, frac_t])
local macro_rules | `(tactic| walk_at "auto") => `(tactic| (try walk_at "sp"); (repeat (walk_at "eq"; try walk_at "sp")))
local macro_rules | `(tactic| walk_at "un") => `(tactic| first | rw [forK_eq (h := src_lst _ _)] | rw [forK_eq (h := src_tup _ _)] | rw [forK_eq (h := src_ent _ _)] | rw [forK_eq (h := src_en _ _)] | rw [forK_eq (h := src_zip _ _ _)] | rw [forK_eq (h := src_zipt _ _ _)])
local macro_rules | `(tactic| walk_at "autox") => `(tactic| (try walk_at "spx"); (repeat (walk_at "eq"; try walk_at "spx")))

/-! ## Texts: rows for the walk -/
section
variable {cf : Nat → List D → Mem → Res D} {b : Nat} {ρ : Env} {M : Mem} {x : D} {ds xs : List D} {a l z p q r : List Nat} {m : Bool} {lo hi : Option Int} {i : Int} {c : Nat}
theorem sp_ev_smeth (p : Prim) (o : Tm) (ts : Tms) : evE cf b (.smeth p o ts) ρ M = (evE cf b o ρ M).bind (smethK cf b p ts ρ) := ev_smeth ..
theorem sp_smethK (p : Prim) (ts : Tms) (s : Str) : smethK cf b p ts ρ (.str s) M = (evEs cf b ts ρ M).bind (methK2 b p (.str s)) := rfl
theorem sp_pr_str1 : primE b .str1 xs M = ap1 str1E xs M := rfl
theorem sp_pr_join : primE b .join xs M = ap2 joinE xs M := rfl
theorem sp_pr_rfind : primE b .rfind xs M = ap2 rfindE xs M := rfl
theorem sp_pr_part3 : primE b .part3 xs M = ap2 part3E xs M := rfl
theorem sp_pr_index1 : primE b .index1 xs M = ap2 index1E xs M := rfl
theorem sp_pr_pick (es : List (Str × D)) : primE b (.pick es) xs M = ap1 (pickE es) xs M := rfl
theorem sp_tx_add (h : lenT (a ++ l)) : addE (.str (Tx a)) (.str (Tx l)) M = .ok (.str (Tx (a ++ l))) M := tx_add (by unfold lenT at h; rwa [List.length_append] at h)
theorem sp_tx_len (h : lenT a) : lenE (.str (Tx a)) M = .ok (.int a.length) M := tx_len h
theorem sp_tx_slc (h : lenT a) : slcE m (.str (Tx a)) lo hi M = .ok (.str (Tx (cutN a lo hi))) M := tx_slc h
theorem sp_tx_in : inE M (.str (Tx [c])) (.str (Tx z)) = some (decide (c ∈ z)) := rfl
theorem sp_tx_eq (ha : okT a = true) (hl : okT l = true) : eqE M (.str (Tx a)) (.str (Tx l)) = some (decide (a = l)) := tx_eq ha hl
theorem sp_is_int : isE false (.int i) .non M = .ok (.bl false) M := rfl
theorem sp_isn_int : isE true (.int i) .non M = .ok (.bl true) M := rfl
theorem sp_is_nd (v : T3) : isE false (nd v) .non M = .ok (.bl false) M := rfl
theorem sp_isn_nd (v : T3) : isE true (nd v) .non M = .ok (.bl true) M := rfl
theorem sp_is_str (s : Str) : isE false (.str s) .non M = .ok (.bl false) M := rfl
theorem sp_is_non : isE false .non .non M = .ok (.bl true) M := rfl
theorem sp_isn_non : isE true .non .non M = .ok (.bl false) M := rfl
theorem sp_tx_rfind : rfindE (.str (Tx a)) (.str (Tx [c])) M = .ok (.int (lastN a c)) M := rfl
theorem in_txs (ha : okT a = true) {ls : List (List Nat)} (h : ∀ l ∈ ls, okT l = true) : inE M (.str (Tx a)) (.tup (ls.map fun l => .str (Tx l))) = some (ls.any fun l => decide (l = a)) ∧ inE M (.str (Tx a)) (.lst (ls.map fun l => .str (Tx l))) = some (ls.any fun l => decide (l = a)) := by
  have hs : ∀ k, shps k (ls.map fun l => D.str (Tx l)) = true := fun k => by
    induction ls with
    | nil => rw [List.map_nil, shps_nil]
    | cons l ls ih => rw [List.map_cons, shps_cons, shp_tx (h l List.mem_cons_self), ih fun x hx => h x (List.mem_cons_of_mem _ hx)]; rfl
  have ha' : (ls.map fun l => D.str (Tx l)).any (fun z => eqD z (.str (Tx a))) = ls.any fun l => decide (l = a) := by
    rw [List.any_map]
    congr 1
    funext l
    show eqD (.str (Tx l)) (.str (Tx a)) = _
    rw [eqD_str, Tx_beq]
  exact ⟨by rw [inE_tup (shp_tx ha) (hs _), ha'], by rw [inE_lst (shp_tx ha) (hs _), ha']⟩
theorem sp_in_tx2 (ha : okT a = true) (hp : okT p = true) (hq : okT q = true) : inE M (.str (Tx a)) (.tup [.str (Tx p), .str (Tx q)]) = some (decide (p = a) || decide (q = a)) := by
  have := (in_txs (M := M) ha (ls := [p, q]) (by simp only [List.mem_cons, List.not_mem_nil, or_false]; rintro _ (rfl | rfl) <;> assumption)).1
  simpa using this
theorem sp_in_lx2 (ha : okT a = true) (hp : okT p = true) (hq : okT q = true) : inE M (.str (Tx a)) (.lst [.str (Tx p), .str (Tx q)]) = some (decide (p = a) || decide (q = a)) := by
  have := (in_txs (M := M) ha (ls := [p, q]) (by simp only [List.mem_cons, List.not_mem_nil, or_false]; rintro _ (rfl | rfl) <;> assumption)).2
  simpa using this
theorem sp_in_tx3 (ha : okT a = true) (hp : okT p = true) (hq : okT q = true) (hr : okT r = true) : inE M (.str (Tx a)) (.tup [.str (Tx p), .str (Tx q), .str (Tx r)]) = some (decide (p = a) || (decide (q = a) || decide (r = a))) := by
  have := (in_txs (M := M) ha (ls := [p, q, r]) (by simp only [List.mem_cons, List.not_mem_nil, or_false]; rintro _ (rfl | rfl | rfl) <;> assumption)).1
  simpa using this
theorem sp_in_lx3 (ha : okT a = true) (hp : okT p = true) (hq : okT q = true) (hr : okT r = true) : inE M (.str (Tx a)) (.lst [.str (Tx p), .str (Tx q), .str (Tx r)]) = some (decide (p = a) || (decide (q = a) || decide (r = a))) := by
  have := (in_txs (M := M) ha (ls := [p, q, r]) (by simp only [List.mem_cons, List.not_mem_nil, or_false]; rintro _ (rfl | rfl | rfl) <;> assumption)).2
  simpa using this
theorem cutN_to (a : List Nat) (k : Nat) : cutN a none (some (k : Nat)) = a.take k := by
  unfold cutN HT.sIx
  dsimp only
  rw [if_neg (by omega), List.drop_zero, Nat.sub_zero, Int.toNat_natCast, List.take_eq_take_min, Nat.min_comm k, List.take_eq_take_min (i := k)]
  congr 1
  omega
theorem cutN_from (a : List Nat) (k : Nat) : cutN a (some (k : Nat)) none = a.drop k := by
  unfold cutN HT.sIx
  dsimp only
  rw [if_neg (by omega), Int.toNat_natCast]
  by_cases h : k ≤ a.length
  · rw [Nat.min_eq_left h, List.take_of_length_le (by rw [List.length_drop]; exact Nat.le_refl _)]
  · rw [Nat.min_eq_right (by omega), List.drop_length, List.take_nil, List.drop_eq_nil_of_le (by omega)]
theorem cutN_mid (a : List Nat) (j k : Nat) (h : k ≤ a.length) : cutN a (some (j : Nat)) (some (k : Nat)) = (a.drop j).take (k - j) := by
  unfold cutN HT.sIx
  dsimp only
  rw [if_neg (by omega), if_neg (by omega), Int.toNat_natCast, Int.toNat_natCast, Nat.min_eq_left h]
  by_cases h2 : j ≤ a.length
  · rw [Nat.min_eq_left h2]
  · rw [Nat.min_eq_right (by omega), List.drop_length, List.take_nil, List.drop_eq_nil_of_le (by omega), List.take_nil]
theorem cutN_back (a : List Nat) (j : Nat) : cutN a (some (j : Nat)) (some (-1)) = (a.drop j).take (a.length - 1 - j) := by
  unfold cutN HT.sIx
  dsimp only
  rw [if_pos (show (-1 : Int) < 0 by decide), if_neg (show ¬ ((j : Int) < 0) by omega), Int.toNat_natCast, show ((-1 : Int) + (a.length : Int)).toNat = a.length - 1 by omega]
  by_cases h2 : j ≤ a.length
  · rw [Nat.min_eq_left h2]
  · rw [Nat.min_eq_right (by omega), List.drop_length, List.take_nil, List.drop_eq_nil_of_le (by omega), List.take_nil]
theorem sp_cut_t1 : cutN a none (some 1) = a.take 1 := cutN_to a 1
theorem sp_cut_f1 : cutN a (some 1) none = a.drop 1 := cutN_from a 1
theorem sp_cut_last : cutN a (some (-1)) none = a.drop (a.length - 1) := by
  unfold cutN HT.sIx
  dsimp only
  rw [if_pos (by decide), show ((-1 : Int) + (a.length : Int)).toNat = a.length - 1 by omega, List.take_of_length_le (by rw [List.length_drop]; exact Nat.le_refl _)]
theorem sp_cut_init : cutN a none (some (-1)) = a.take (a.length - 1) := by
  unfold cutN HT.sIx
  dsimp only
  rw [if_pos (by decide), show ((-1 : Int) + (a.length : Int)).toNat = a.length - 1 by omega, List.drop_zero, Nat.sub_zero]
theorem sp_cut_in : cutN a (some 1) (some (-1)) = (a.drop 1).take (a.length - 1 - 1) := cutN_back a 1
theorem sp_lit_0 : Str.ofString "" = Tx [] := by decide +kernel
theorem sp_lit_r : Str.ofString "r" = Tx [114] := by decide +kernel
theorem sp_lit_mr : Str.ofString "-r" = Tx [45, 114] := by decide +kernel
theorem sp_lit_p : Str.ofString "+" = Tx [43] := by decide +kernel
theorem sp_lit_m : Str.ofString "-" = Tx [45] := by decide +kernel
theorem sp_lit_o : Str.ofString "(" = Tx [40] := by decide +kernel
theorem sp_lit_c : Str.ofString ")" = Tx [41] := by decide +kernel
theorem sp_lit_s : Str.ofString "/" = Tx [47] := by decide +kernel
theorem sp_lit_b : Str.ofString "|" = Tx [124] := by decide +kernel
theorem sp_lit_t : Str.ofString "~" = Tx [126] := by decide +kernel
theorem sp_lit_x : Str.ofString "x" = Tx [120] := by decide +kernel
theorem sp_lit_so : Str.ofString "[" = Tx [91] := by decide +kernel
theorem sp_lit_sc : Str.ofString "]" = Tx [93] := by decide +kernel
def figL : List Nat := [48, 49, 50, 51, 52, 53, 54, 55, 56, 57]
theorem sp_lit_fig : Str.ofString "0123456789" = Tx figL := by decide +kernel
def abcL : List Nat := [97, 98, 99]
theorem sp_lit_abc : Str.ofString "abc" = Tx abcL := by decide +kernel
theorem fig_iff (c : Nat) : c ∈ figL ↔ 48 ≤ c ∧ c ≤ 57 := by
  unfold figL
  simp only [List.mem_cons, List.not_mem_nil, or_false]
  omega
end
theorem allT_map {A : Type} {M : Mem} (f : A → Bool) (xs : List A) : allE (.lst (xs.map fun x => D.bl (f x))) M = .ok (.bl (xs.all f)) M := by
  have h : ∀ xs : List A, boolsOf (xs.map fun x => D.bl (f x)) = some (xs.map f) := by
    intro xs
    induction xs with
    | nil => rfl
    | cons x r ih => rw [List.map_cons, List.map_cons]; simp only [boolsOf, ih]; rfl
  unfold allE
  rw [show look M (.lst (xs.map fun x => D.bl (f x))) = some (xs.map fun x => D.bl (f x)) from rfl, Option.bind_some, h]
  dsimp only
  rw [List.all_map]
  rfl
/-- of sixty figures at most -/
def Dg (i : Int) : Prop := i.natAbs < 10 ^ 60
theorem Dg.bd {i : Int} (h : Dg i) : Bd 200 i := ⟨Nat.lt_trans h (by decide)⟩
theorem sp_tx_str1 {M : Mem} {i : Int} (h : Dg i) : str1E (.int i) M = .ok (.str (Tx (decI i))) M := tx_str1 h.bd (by decide)

end MFL4
section MFL5
local macro_rules | `(tactic| walk_at "pos") => `(tactic| with_reducible first | assumption | exact Q2.one_pos | (show 0 < (_ * _ : Q2 _); exact Q2.mul_pos (by walk_at "pos") (by walk_at "pos")) | (show 0 < ((_ : Q2 _)⁻¹); exact Q2.inv_pos (by walk_at "pos")) | (show 0 < (_ + _ : Q2 _); exact Q2.add_pos (by walk_at "pos") (by walk_at "pos")))
local macro_rules | `(tactic| walk_at "ne") => `(tactic| with_reducible first | assumption | exact Q2.one_ne | exact Q2.ne_pos (by walk_at "pos") | (show (_ * _ : Q2 _) ≠ 0; exact Q2.mul_ne (by walk_at "ne") (by walk_at "ne")) | (show ((_ : Q2 _)⁻¹) ≠ 0; exact Q2.inv_ne (by walk_at "ne")) | (show Q2.conj _ ≠ 0; exact Q2.conj_ne (by walk_at "ne")) | (show (-_ : Q2 _) ≠ 0; exact Q2.neg_ne (by walk_at "ne")))
local macro_rules | `(tactic| walk_at "V") => `(tactic| with_reducible first | assumption | (show V _ _ (nplus (0, 0, 1) _); exact V.plus0 (by walk_at "V")) | (show V _ _ (nplus _ _); exact V.plus (by walk_at "V") (by walk_at "V")) | (show V _ _ (ntimes _ _ _); exact V.times (by assumption) (by walk_at "V") (by walk_at "V")) | (show V _ _ (nneg _); exact V.neg (by walk_at "V")) | (show V _ _ (nmate _); exact V.mate (by walk_at "V")) | (show V _ _ (ninv _ _); exact V.inv (by assumption) (by walk_at "V") (by walk_at "ne")) | exact V.lit0 | exact V.lit1 | exact V.lit4 | exact V.of (by assumption))
local macro_rules | `(tactic| walk_at "shp") => `(tactic| simp only [sok_kind, sok_turn, sok_upon, sok_beside, sok_grid, sok_bar, sok_mixture, sok_plan, sok_squares, sok_laying, sok_laid, sok_barred, sok_mixed, shp_non, shp_bl, shp_int, shp_str_lit, shp_tup, shp_lst, shps_nil, shps_cons, shp_nd, Bool.and_self, Bool.and_true])
local macro_rules | `(tactic| walk_at "bel") => `(tactic| simp only [belows_nil, belows_cons, bel_int, bel_bl, bel_non, bel_str, bel_tup, bel_lst, nd_bel, Bool.and_self, Bool.and_true])
local macro_rules | `(tactic| walk_at "pure") => `(tactic| simp only [pures_nil, pures_cons, pure_int, pure_bl, pure_non, pure_str, pure_tup, pure_lst, nd_pure, pures_append, Bool.and_self, Bool.and_true])
local macro_rules | `(tactic| walk_at "okt") => `(tactic| first | assumption | decide | (show okT (_ ++ _) = true; rw [okT_app, Bool.and_eq_true]; exact ⟨by walk_at "okt", by walk_at "okt"⟩) | exact okT_decI _ | exact okT_decN _)
local macro_rules | `(tactic| walk_at "dis") => `(tactic| first | assumption | with_reducible exact get_last | with_reducible exact get_last2 | (with_reducible show _ ∨ _; first | exact .inl (Nat.le_refl _) | exact .inr (by walk_at "pure") | exact .inl (by omega)) | (with_reducible show pures _ = true; walk_at "pure") | (with_reducible show D.pure _ = true; walk_at "pure") | (with_reducible show V _ _ _; walk_at "V") | (with_reducible show IsN _; exact V.isn (by walk_at "V")) | (with_reducible show List.length _ ≤ 1000; exact Nat.le_of_ble_eq_true rfl) | (with_reducible show List.length _ + List.length _ ≤ 1000; exact Nat.le_of_ble_eq_true rfl) | (with_reducible show (_ : Nat) ≤ _; first | decide | omega) | (with_reducible show mulOk _ _ = true; exact Bd.ok (by walk_at "bd") (by walk_at "bd") (by omega)) | (with_reducible show D.shp _ _ = true; walk_at "shp") | (with_reducible show shps _ _ = true; walk_at "shp") | (with_reducible show belows _ _ = true; walk_at "bel") | (with_reducible show okT _ = true; walk_at "okt") | (with_reducible show lenT _; first | assumption | (simp only [lenT, List.length_append, List.length_cons, List.length_nil, List.length_singleton, List.length_drop, List.length_take, List.length_reverse]; omega)) | (with_reducible show (0 : Q2 _) < _; walk_at "pos") | (with_reducible show (_ : Q2 _) ≠ 0; walk_at "ne") | (with_reducible show NoGrd _; first | exact noGrd1 | exact noGrd0 | exact noGrd2) | (with_reducible show (_ : Int) ≠ _; first | decide | omega) | (with_reducible show (_ : Int) < _; first | decide | omega) | (with_reducible show (_ : Int) ≤ _; first | decide | omega))
private theorem SPA_c623622f : type_of% (And.intro (And.intro (And.intro (And.intro (And.intro @sp_ev_smeth @sp_smethK) (And.intro @sp_pr_str1 (And.intro @sp_pr_join @sp_pr_rfind))) (And.intro (And.intro @sp_pr_part3 (And.intro @sp_pr_index1 @sp_pr_pick)) (And.intro @sp_tx_add (And.intro @sp_tx_len @sp_tx_slc)))) (And.intro (And.intro (And.intro @sp_tx_in (And.intro @sp_tx_eq @sp_is_int)) (And.intro @sp_isn_int (And.intro @sp_is_nd @sp_isn_nd))) (And.intro (And.intro @sp_is_str (And.intro @sp_is_non @sp_isn_non)) (And.intro @sp_tx_rfind (And.intro @sp_in_tx2 @sp_in_lx2))))) (And.intro (And.intro (And.intro (And.intro @sp_in_tx3 @sp_in_lx3) (And.intro @sp_cut_t1 (And.intro @sp_cut_f1 @sp_cut_last))) (And.intro (And.intro @sp_cut_init (And.intro @sp_cut_in @sp_lit_0)) (And.intro @sp_lit_r (And.intro @sp_lit_mr @sp_lit_p)))) (And.intro (And.intro (And.intro @sp_lit_m (And.intro @sp_lit_o @sp_lit_c)) (And.intro @sp_lit_s (And.intro @sp_lit_b @sp_lit_t))) (And.intro (And.intro @sp_lit_x (And.intro @sp_lit_so @sp_lit_sc)) (And.intro @sp_lit_fig (And.intro @sp_lit_abc @sp_tx_str1)))))) := (And.intro (And.intro (And.intro (And.intro (And.intro @sp_ev_smeth @sp_smethK) (And.intro @sp_pr_str1 (And.intro @sp_pr_join @sp_pr_rfind))) (And.intro (And.intro @sp_pr_part3 (And.intro @sp_pr_index1 @sp_pr_pick)) (And.intro @sp_tx_add (And.intro @sp_tx_len @sp_tx_slc)))) (And.intro (And.intro (And.intro @sp_tx_in (And.intro @sp_tx_eq @sp_is_int)) (And.intro @sp_isn_int (And.intro @sp_is_nd @sp_isn_nd))) (And.intro (And.intro @sp_is_str (And.intro @sp_is_non @sp_isn_non)) (And.intro @sp_tx_rfind (And.intro @sp_in_tx2 @sp_in_lx2))))) (And.intro (And.intro (And.intro (And.intro @sp_in_tx3 @sp_in_lx3) (And.intro @sp_cut_t1 (And.intro @sp_cut_f1 @sp_cut_last))) (And.intro (And.intro @sp_cut_init (And.intro @sp_cut_in @sp_lit_0)) (And.intro @sp_lit_r (And.intro @sp_lit_mr @sp_lit_p)))) (And.intro (And.intro (And.intro @sp_lit_m (And.intro @sp_lit_o @sp_lit_c)) (And.intro @sp_lit_s (And.intro @sp_lit_b @sp_lit_t))) (And.intro (And.intro @sp_lit_x (And.intro @sp_lit_so @sp_lit_sc)) (And.intro @sp_lit_fig (And.intro @sp_lit_abc @sp_tx_str1))))))
local macro_rules | `(tactic| walk_at "sp") => `(tactic| simp (disch := walk_at "dis") only [SPA_fdf191e3, SPA_e0de149b, SPA_db4ba9ec, SPA_c623622f, Option.bind_some, List.getElem?_cons_zero, List.getElem?_cons_succ, List.set_cons_zero, List.set_cons_succ, List.length_cons, List.length_nil, if_true, if_false, ite_true, ite_false, reduceIte, Bool.not_true, Bool.not_false, Nat.zero_add, Nat.reduceAdd, Nat.reduceLeDiff, Option.isSome_some, decide_true, decide_false, Bool.false_eq_true, Bool.and_true, ne_eq, Int.reduceEq, not_false_eq_true, Int.reduceNeg, Int.reduceLT, Nat.reducePow, Nat.reduceLT, List.length_map, Option.map_some, List.any_cons, List.any_nil, Bool.or_false, Bool.and_self, reduceCtorEq, beq_self_eq_true, or_false, or_true, true_or, false_or, Int.reduceBEq, Int.reduceLE, List.drop_succ_cons, List.drop_zero, List.take_succ_cons, List.take_zero, List.cons_append, List.nil_append, Bool.true_and, Bool.false_and, Bool.and_false, Bool.true_or, Bool.false_or, Bool.or_true, Bool.not_not, Bool.or_self, eq_self])
local macro_rules | `(tactic| walk_at "spx") => `(tactic| simp -implicitDefEqProofs (disch := walk_at "dis") only [SPA_fdf191e3, SPA_e0de149b, SPA_db4ba9ec, SPA_c623622f, Option.bind_some, List.getElem?_cons_zero, List.getElem?_cons_succ, List.set_cons_zero, List.set_cons_succ, List.length_cons, List.length_nil, if_true, if_false, ite_true, ite_false, reduceIte, Bool.not_true, Bool.not_false, Nat.zero_add, Nat.reduceAdd, Nat.reduceLeDiff, Option.isSome_some, decide_true, decide_false, Bool.false_eq_true, Bool.and_true, ne_eq, Int.reduceEq, not_false_eq_true, Int.reduceNeg, Int.reduceLT, Nat.reducePow, Nat.reduceLT, List.length_map, Option.map_some, List.any_cons, List.any_nil, Bool.or_false, Bool.and_self, reduceCtorEq, beq_self_eq_true, or_false, or_true, true_or, false_or, Int.reduceBEq, Int.reduceLE, List.drop_succ_cons, List.drop_zero, List.take_succ_cons, List.take_zero, List.cons_append, List.nil_append, Bool.true_and, Bool.false_and, Bool.and_false, Bool.true_or, Bool.false_or, Bool.or_true, Bool.not_not, Bool.or_self, eq_self])
local macro_rules | `(tactic| walk_at "conj") => `(tactic| simp only [Q2.conj_add, Q2.conj_mul, Q2.conj_neg, Q2.conj_inv, Q2.conj_conj, Q2.conj_zero, Q2.conj_one,  Q2.sub_conj])
local macro_rules | `(tactic| walk_at "fld") => `(tactic| first | with_reducible rfl | assumption | grind | (walk_at "conj"; done) | (walk_at "conj"; grind))
local macro_rules | `(tactic| walk_at "dise") => `(tactic| first | (with_reducible show V _ _ _; walk_at "V") | (with_reducible show (_ : Q2 _) = _; walk_at "fld"))
local macro_rules | `(tactic| walk_at "cmp") => `(tactic| simp (disch := first | assumption | grind) only [qlt_t, qlt_f, vsgn_lt, vsgn_gt, vsgn_ge, vsgn_le, vsgn_lt1, vsgn_eq1, vsgn_eq0])
local macro_rules | `(tactic| walk_at "eq") => `(tactic| simp (disch := walk_at "dise") only [deq_t, frac_t])
local macro_rules | `(tactic| walk_at "auto") => `(tactic| (try walk_at "sp"); (repeat (walk_at "eq"; try walk_at "sp")))
local macro_rules | `(tactic| walk_at "un") => `(tactic| first | rw [forK_eq (h := src_lst _ _)] | rw [forK_eq (h := src_tup _ _)] | rw [forK_eq (h := src_ent _ _)] | rw [forK_eq (h := src_en _ _)] | rw [forK_eq (h := src_zip _ _ _)] | rw [forK_eq (h := src_zipt _ _ _)])
local macro_rules | `(tactic| walk_at "autox") => `(tactic| (try walk_at "spx"); (repeat (walk_at "eq"; try walk_at "spx")))

/-! ## Whole numbers as texts -/
/-- what a figure's text is, a minus ahead or none -/
def figs (t : List Nat) : List Nat := if t.take 1 = [45] then t.drop 1 else t
def allFig (t : List Nat) : Bool := t.all fun c => decide (c ∈ figL)
theorem allFig_iff {t : List Nat} : allFig t = true ↔ NumText.AllDigits t := by
  unfold allFig NumText.AllDigits
  rw [List.all_eq_true]
  constructor
  · intro h c hc
    exact (fig_iff c).mp (of_decide_eq_true (h c hc))
  · intro h c hc
    exact decide_eq_true ((fig_iff c).mpr (h c hc))
/-- the whole number that a text writes, of forty figures at most -/
def wh (t : List Nat) : Option Int :=
  if figs t = [] then none else if 40 < (figs t).length then none else if allFig (figs t) = true then some (if t.take 1 = [45] then -((NumText.digitsVal (figs t) : Nat) : Int) else ((NumText.digitsVal (figs t) : Nat) : Int)) else none
def oD : Option Int → D
  | none => .non
  | some i => .int i
section
variable {o p : Option Int} {i : Int} {k : Bool} {b : Nat} {M : Mem}
theorem sp_bel_oD : (oD o).bel b = true := by cases o <;> rfl
theorem sp_pure_oD : (oD o).pure = true := by cases o <;> rfl
theorem sp_leave_oD : leave k b (oD o) M = .ok (oD o) (M.take b) := leave_pure sp_pure_oD
theorem sp_leave_o2 : leave k b (.tup [oD o, oD p]) M = .ok (.tup [oD o, oD p]) (M.take b) := leave_pure (by cases o <;> cases p <;> rfl)
theorem sp_leave_io : leave k b (.tup [.int i, oD p]) M = .ok (.tup [.int i, oD p]) (M.take b) := leave_pure (by cases p <;> rfl)
theorem sp_leave_oi : leave k b (.tup [oD o, .int i]) M = .ok (.tup [oD o, .int i]) (M.take b) := leave_pure (by cases o <;> rfl)
theorem sp_is_oD : isE false (oD o) .non M = .ok (.bl o.isNone) M := by cases o <;> rfl
end
theorem figs_len (t : List Nat) : (figs t).length ≤ t.length ∧ t.length ≤ (figs t).length + 1 := by
  unfold figs
  split
  · rw [List.length_drop]; omega
  · omega
theorem take1 {t : List Nat} {c : Nat} (h : t.take 1 = [c]) : ∃ r, t = c :: r := by
  cases t with
  | nil => cases h
  | cons x r => rw [List.take_succ_cons, List.take_zero] at h; cases h; exact ⟨r, rfl⟩
theorem wh_text {t : List Nat} (h1 : figs t ≠ []) (h2 : ¬ 40 < (figs t).length) (h3 : allFig (figs t) = true) : PySem.intText? (Tx t) = some (if t.take 1 = [45] then -((NumText.digitsVal (figs t) : Nat) : Int) else ((NumText.digitsVal (figs t) : Nat) : Int)) := by
  have hl := figs_len t
  have ad := allFig_iff.mp h3
  by_cases c : t.take 1 = [45]
  · rw [if_pos c]
    obtain ⟨r, rfl⟩ := take1 c
    have e : figs (45 :: r) = r := by unfold figs; rw [if_pos c]; rfl
    rw [e] at h1 ad ⊢
    exact intText_neg rfl ad h1 (by rw [Tx_len]; omega)
  · rw [if_neg c]
    have e : figs t = t := by unfold figs; rw [if_neg c]
    rw [e] at h1 ad ⊢
    exact intText_digits ad h1 (by rw [Tx_len]; omega)
theorem ev_whole_of (n : Nat) {a : List Nat} (M : Mem) (ha : okT a = true) (hl : lenT a) : callFn FNS (n + 1) 388 [.str (Tx a)] M = .ok (oD (wh a)) M := by
  have hf := figs_len a
  have hl' : a.length ≤ 1000 := hl
  have of : okT (figs a) = true := by
    refine okT_sub ha fun c hc => ?_
    unfold figs at hc
    split at hc
    · exact List.mem_of_mem_drop hc
    · exact hc
  have lf : lenT (figs a) := by unfold lenT; omega
  have ot : okT (a.take 1) = true := okT_sub ha fun c hc => List.mem_of_mem_take hc
  have c1 : ∀ (ρ : Env) (M : Mem) (b : Nat), ρ.length = 3 → compL [none] (cStep (callFn FNS n) b (.name 2) [2] .nil (.prim .isin (.cons (.var 2) (.cons (.con (.str (Tx figL))) .nil))) ρ) ((figs a).map fun c => D.str (Tx [c])) M = .ok ((figs a).map fun c => .bl (decide (c ∈ figL))) M := fun ρ M b hρ => by
    obtain ⟨a0, a1, a2, rfl⟩ : ∃ a0 a1 a2, ρ = [a0, a1, a2] := by
      match ρ, hρ with
      | [a0, a1, a2], _ => exact ⟨_, _, _, rfl⟩
    refine comp_mapT (fun c => D.str (Tx [c])) _ noGrd1 _ fun c hm => ?_
    walk_at "auto"
  have e0 : ∀ b, evE (callFn FNS n) b (.ite (.prim .eq (.cons (.prim (.slc false true false) (.cons (.var 0) (.cons (.con (.int 1)) .nil))) (.cons (.con (.str "-")) .nil))) (.prim (.slc true false false) (.cons (.var 0) (.cons (.con (.int 1)) .nil))) (.var 0)) [some (.str (Tx a)), none, none] M = .ok (.str (Tx (figs a))) M := fun b => by
    walk_at "auto"
    unfold figs
    by_cases c : a.take 1 = [45]
    · rw [decide_eq_true c, if_pos c]
      walk_at "auto"
    · rw [decide_eq_false c, if_neg c]
      walk_at "auto"
  rw [call_whole_of]
  unfold B_whole_of
  rw [ss_cons, st_asg, e0]
  walk_at "auto"
  unfold wh
  by_cases h1 : figs a = []
  · rw [decide_eq_true h1, if_pos h1]
    walk_at "auto"
    rfl
  · rw [decide_eq_false h1, if_neg h1]
    walk_at "auto"
    by_cases h2 : 40 < (figs a).length
    · rw [decide_eq_true (show (40 : Int) < ((figs a).length : Int) by omega), if_pos h2]
      walk_at "auto"
      rfl
    · rw [decide_eq_false (show ¬ (40 : Int) < ((figs a).length : Int) by omega), if_neg h2]
      walk_at "auto"
      rw [compK_eq (h := tx_src) (hl := by rw [List.length_map]; exact Nat.le_trans lf (by decide)), c1 _ _ _ rfl]
      walk_at "auto"
      rw [mkL_ok _ _ (by rw [List.length_map]; exact lf)]
      walk_at "auto"
      rw [allT_map]
      by_cases h3 : allFig (figs a) = true
      · rw [show ((figs a).all fun c => decide (c ∈ figL)) = true from h3, if_pos h3]
        walk_at "auto"
        rw [tx_int1 _ (by omega) (wh_text h1 h2 h3)]
        walk_at "auto"
        rfl
      · rw [show ((figs a).all fun c => decide (c ∈ figL)) = false from Bool.eq_false_iff.mpr h3, if_neg h3]
        walk_at "auto"
        rfl

/-! ## Numbers as texts -/
theorem decI_len {i : Int} (h : Dg i) : (decI i).length ≤ 61 := by
  have := decN_len (k := 60) (by decide) h
  unfold decI
  split
  · rw [List.length_cons]; omega
  · omega
def rootL (b : Int) : List Nat := if b = 1 then [114] else if b = -1 then [45, 114] else decI b ++ [114]
theorem rootL_len {b : Int} (h : Dg b) : (rootL b).length ≤ 62 := by
  have := decI_len h
  unfold rootL
  split
  · decide
  · split
    · decide
    · rw [List.length_append, List.length_singleton]; omega
theorem okT_root (b : Int) : okT (rootL b) = true := by
  unfold rootL
  split
  · decide
  · split
    · decide
    · rw [okT_app, okT_decI]; decide
def sgnL (b : Int) : List Nat := if 0 < b then [43] else []
theorem sgnL_len (b : Int) : (sgnL b).length ≤ 1 := by unfold sgnL; split <;> decide
theorem okT_sgn (b : Int) : okT (sgnL b) = true := by unfold sgnL; split <;> decide
def endL (c : Int) : List Nat := if c = 1 then [] else 47 :: decI c
theorem endL_len {c : Int} (h : Dg c) : (endL c).length ≤ 62 := by
  have := decI_len h
  unfold endL
  split
  · decide
  · rw [List.length_cons]; omega
theorem okT_end (c : Int) : okT (endL c) = true := by
  unfold endL
  split
  · decide
  · show okT ([47] ++ decI c) = true
    rw [okT_app, okT_decI]; decide
/-- a number's text -/
def txN (x : T3) : List Nat :=
  if x.2.1 = 0 then decI x.1 ++ endL x.2.2
  else if x.1 = 0 then rootL x.2.1 ++ endL x.2.2
  else if x.2.2 = 1 then decI x.1 ++ sgnL x.2.1 ++ rootL x.2.1
  else [40] ++ (decI x.1 ++ sgnL x.2.1 ++ rootL x.2.1) ++ [41] ++ endL x.2.2
/-- its parts of sixty figures at most -/
structure D3 (x : T3) : Prop where
  a : Dg x.1
  b : Dg x.2.1
  c : Dg x.2.2
theorem txN_len {x : T3} (h : D3 x) : (txN x).length ≤ 200 := by
  have := decI_len h.a
  have := rootL_len h.b
  have := endL_len h.c
  have := sgnL_len x.2.1
  unfold txN
  split
  · rw [List.length_append]; omega
  · split
    · rw [List.length_append]; omega
    · split
      · simp only [List.length_append]; omega
      · simp only [List.length_append, List.length_cons, List.length_nil]; omega
theorem okT_txN (x : T3) : okT (txN x) = true := by
  have h1 := okT_decI x.1
  have h2 := okT_root x.2.1
  have h3 := okT_end x.2.2
  have h4 := okT_sgn x.2.1
  have h5 : okT [40] = true := by decide
  have h6 : okT [41] = true := by decide
  unfold txN
  split
  · rw [okT_app, h1, h3]; rfl
  · split
    · rw [okT_app, h2, h3]; rfl
    · split
      · rw [okT_app, okT_app, h1, h4, h2]; rfl
      · rw [okT_app, okT_app, okT_app, okT_app, okT_app, h5, h1, h4, h2, h6, h3]; rfl
theorem ev_root_text (n : Nat) {b : Int} (M : Mem) (h : Dg b) : callFn FNS (n + 1) 386 [.int b] M = .ok (.str (Tx (rootL b))) M := by
  have hl := decI_len h
  rw [call_root_text]
  unfold B_root_text
  walk_at "auto"
  unfold rootL
  by_cases h1 : b = 1
  · subst h1
    rw [if_pos rfl]
    walk_at "auto"
    first | done | rfl
  · rw [if_neg h1]
    by_cases h2 : b = -1
    · subst h2
      rw [if_pos rfl]
      walk_at "auto"
      first | done | rfl
    · rw [if_neg h2]
      rw [show ((1 : Int) == b) = false from beq_eq_false_iff_ne.mpr fun z => h1 z.symm, show ((-1 : Int) == b) = false from beq_eq_false_iff_ne.mpr fun z => h2 z.symm]
      walk_at "auto"
theorem ev_show_number (n : Nat) {x : T3} (M : Mem) (h : D3 x) : callFn FNS (n + 2) 387 [nd x] M = .ok (.str (Tx (txN x))) M := by
  obtain ⟨a, b, c⟩ := x
  obtain ⟨ha, hb, hc⟩ := h
  dsimp only at ha hb hc
  have la := decI_len ha
  have lb := rootL_len hb
  have lc := endL_len hc
  have lc' := decI_len hc
  have ls := sgnL_len b
  have ob := okT_root b
  have e1 := fun M => ev_root_text n M hb
  rw [call_show_number]
  unfold B_show_number
  walk_at "auto"
  unfold txN endL
  dsimp only
  by_cases h1 : c = 1
  · subst h1
    walk_at "auto"
    by_cases h2 : b = 0
    · subst h2
      walk_at "auto"
    · rw [show (b == 0) = false from beq_eq_false_iff_ne.mpr h2, if_neg h2]
      walk_at "auto"
      by_cases h3 : a = 0
      · subst h3
        walk_at "auto"
        rw [e1]
        walk_at "auto"
      · rw [show (a == 0) = false from beq_eq_false_iff_ne.mpr h3, if_neg h3]
        walk_at "auto"
        unfold sgnL
        by_cases h4 : 0 < b
        · rw [decide_eq_true h4, if_pos h4]
          walk_at "auto"
          rw [e1]
          walk_at "auto"
        · rw [decide_eq_false h4, if_neg h4]
          walk_at "auto"
          rw [e1]
          walk_at "auto"
  · rw [show (c == 1) = false from beq_eq_false_iff_ne.mpr h1, if_neg h1, if_neg h1]
    walk_at "auto"
    by_cases h2 : b = 0
    · subst h2
      walk_at "auto"
    · rw [show (b == 0) = false from beq_eq_false_iff_ne.mpr h2, if_neg h2]
      walk_at "auto"
      by_cases h3 : a = 0
      · subst h3
        walk_at "auto"
        rw [e1]
        walk_at "auto"
      · rw [show (a == 0) = false from beq_eq_false_iff_ne.mpr h3, if_neg h3]
        walk_at "auto"
        unfold sgnL
        by_cases h4 : 0 < b
        · rw [decide_eq_true h4, if_pos h4]
          walk_at "auto"
          rw [e1]
          walk_at "auto"
          rw [show (c == 1) = false from beq_eq_false_iff_ne.mpr h1]
          walk_at "auto"
          first | done | rfl
        · rw [decide_eq_false h4, if_neg h4]
          walk_at "auto"
          rw [e1]
          walk_at "auto"
          rw [show (c == 1) = false from beq_eq_false_iff_ne.mpr h1]
          walk_at "auto"
          first | done | rfl

/-! ## Reading numbers' texts: what is read, plainly -/
def rt (t : List Nat) : Option Int := if t = [] then some 1 else if t = [43] then some 1 else if t = [45] then some (-1) else wh (if t.take 1 = [43] then t.drop 1 else t)
/-- the last place of a plus or minus -/
def lastS (t : List Nat) : Int := if lastN t 45 > lastN t 43 then lastN t 45 else lastN t 43
def tp (t : List Nat) : Option Int × Option Int :=
  if t.drop (t.length - 1) = [114] then (if lastS t < 1 then (some 0, rt (t.take (t.length - 1))) else (wh (t.take (lastS t).toNat), rt ((t.drop (lastS t).toNat).take (t.length - 1 - (lastS t).toNat)))) else (wh t, some 0)
def strp (t : List Nat) : List Nat := if t.take 1 = [40] then (if t.drop (t.length - 1) = [41] then (t.drop 1).take (t.length - 1 - 1) else t) else t
def upTo (t : List Nat) : List Nat := t.takeWhile fun c => !decide (c = 47)
def behd (t : List Nat) : Option Int := match t.drop (upTo t).length with
  | [] => some 1
  | _ :: q => wh q
def numIn (t : List Nat) : Option T3 := match tp (strp (upTo t)), behd t with
  | (some a, some b), some c => if isNumD (nd (a, b, c)) = true then some (a, b, c) else none
  | _, _ => none
def numBy (t : List Nat) : Option T3 := match numIn t with
  | some x => if txN x = t then some x else none
  | none => none
theorem upTo_app {p q : List Nat} (h : 47 ∉ p) : upTo (p ++ 47 :: q) = p := by
  unfold upTo
  rw [List.takeWhile_append_of_pos (fun c hc => by
    rw [Bool.not_eq_true', decide_eq_false_iff_not]
    intro e
    exact h (e ▸ hc)), List.takeWhile_cons_of_neg (by decide), List.append_nil]
theorem upTo_none {p : List Nat} (h : 47 ∉ p) : upTo p = p := by
  have e : p.takeWhile (fun c => !decide (c = 47)) ++ [] = p := by
    have := List.takeWhile_append_of_pos (p := fun c => !decide (c = 47)) (l₁ := p) (l₂ := []) (fun c hc => by
      rw [Bool.not_eq_true', decide_eq_false_iff_not]
      intro e
      exact h (e ▸ hc))
    rw [List.append_nil, List.takeWhile_nil, List.append_nil] at this
    rw [List.append_nil]
    exact this
  rw [List.append_nil] at e
  exact e
/-- parts that are read have forty figures at most -/
def D40 (i : Int) : Prop := i.natAbs < 10 ^ 40
theorem D40.dg {i : Int} (h : D40 i) : Dg i := Nat.lt_trans h (by decide)
theorem val_lt : ∀ (cs : List Nat), NumText.AllDigits cs → NumText.digitsVal cs < 10 ^ cs.length := by
  intro cs
  rw [← List.reverse_reverse cs]
  generalize cs.reverse = r
  induction r with
  | nil => intro _; decide
  | cons c r ih =>
    intro h
    rw [List.reverse_cons] at h ⊢
    rw [NumText.digitsVal_snoc, List.length_append, List.length_singleton, Nat.pow_succ]
    have := ih fun x hx => h x (List.mem_append_left _ hx)
    have := h c (List.mem_append_right _ List.mem_cons_self)
    omega
theorem wh_d40 {t : List Nat} {i : Int} (h : wh t = some i) : D40 i := by
  unfold wh at h
  split at h
  · cases h
  · split at h
    · cases h
    · split at h
      · rename_i h2 h3
        have v := val_lt _ (allFig_iff.mp h3)
        have l : 10 ^ (figs t).length ≤ 10 ^ 40 := Nat.pow_le_pow_right (by decide) (by omega)
        unfold D40
        have key : ∀ n : Nat, n < 10 ^ 40 → (-(n : Int)).natAbs < 10 ^ 40 ∧ ((n : Int)).natAbs < 10 ^ 40 := fun n hn => by omega
        have k2 := key _ (Nat.lt_of_lt_of_le v l)
        cases h
        split
        · exact k2.1
        · exact k2.2
      · cases h
theorem d40_small {i : Int} (h : i = 0 ∨ i = 1 ∨ i = -1) : D40 i := by rcases h with rfl | rfl | rfl <;> (unfold D40; decide)
theorem rt_d40 {t : List Nat} {i : Int} (h : rt t = some i) : D40 i := by
  unfold rt at h
  split at h
  · cases h; exact d40_small (by simp)
  · split at h
    · cases h; exact d40_small (by simp)
    · split at h
      · cases h; exact d40_small (by simp)
      · exact wh_d40 h
theorem tp_d40 {t : List Nat} {a b : Int} (h : tp t = (some a, some b)) : D40 a ∧ D40 b := by
  unfold tp at h
  split at h
  · split at h
    · rw [Prod.mk.injEq] at h
      exact ⟨d40_small (.inl (Option.some.inj h.1).symm), rt_d40 h.2⟩
    · rw [Prod.mk.injEq] at h
      exact ⟨wh_d40 h.1, rt_d40 h.2⟩
  · rw [Prod.mk.injEq] at h
    exact ⟨wh_d40 h.1, d40_small (.inl (Option.some.inj h.2).symm)⟩
theorem behd_d40 {t : List Nat} {c : Int} (h : behd t = some c) : D40 c := by
  unfold behd at h
  split at h
  · cases h; exact d40_small (by simp)
  · exact wh_d40 h
theorem numIn_d {t : List Nat} {x : T3} (h : numIn t = some x) : D40 x.1 ∧ D40 x.2.1 ∧ D40 x.2.2 ∧ isNumD (nd x) = true := by
  unfold numIn at h
  split at h
  · rename_i a b c h1 h2
    split at h
    · rename_i h3
      cases h
      exact ⟨(tp_d40 h1).1, (tp_d40 h1).2, behd_d40 h2, h3⟩
    · cases h
  · cases h
/-! a number's text is read as the number -/
theorem figs_decI (i : Int) : figs (decI i) = decN i.natAbs := by
  unfold figs decI
  split
  · rfl
  · rw [if_neg]
    intro h
    obtain ⟨r, e⟩ := take1 h
    have := decN_all i.natAbs 45 (by rw [e]; exact List.mem_cons_self)
    omega
theorem wh_decI {i : Int} (h : D40 i) : wh (decI i) = some i := by
  have l := decN_len (k := 40) (by decide) h
  unfold wh
  rw [figs_decI, if_neg (decN_ne _), if_neg (by omega), if_pos (allFig_iff.mpr (decN_all _)), decN_val]
  unfold decI
  by_cases c : i < 0
  · rw [if_pos c, if_pos (show (45 :: decN i.natAbs).take 1 = [45] from rfl)]
    congr 1
    omega
  · rw [if_neg c, if_neg]
    · congr 1
      omega
    · intro h
      obtain ⟨r, e⟩ := take1 h
      have := decN_all i.natAbs 45 (by rw [e]; exact List.mem_cons_self)
      omega
def rb (b : Int) : List Nat := if b = 1 then [] else if b = -1 then [45] else decI b
theorem rootL_rb (b : Int) : rootL b = rb b ++ [114] := by
  unfold rootL rb
  split
  · rfl
  · split <;> rfl
theorem decI_signs (i : Int) : ∀ c ∈ decI i, c = 45 ∨ (48 ≤ c ∧ c ≤ 57) := fun c hc => by
  unfold decI at hc
  split at hc
  · rcases List.mem_cons.mp hc with h | h
    · exact .inl h
    · exact .inr (decN_all _ c h)
  · exact .inr (decN_all _ c hc)
theorem decI_ne (i : Int) : decI i ≠ [] := by
  unfold decI
  split
  · exact fun h => by cases h
  · exact decN_ne _
theorem decI_not (i : Int) {c : Nat} (h : c < 48 ∨ 57 < c) (h2 : c ≠ 45) : c ∉ decI i := fun m => by
  have := decI_signs i c m
  omega
theorem decI_m (i : Int) : decI i ≠ [45] := by
  unfold decI
  split
  · intro h
    injection h with _ h
    exact decN_ne _ h
  · intro h
    have := decN_all i.natAbs 45 (by rw [h]; exact List.mem_cons_self)
    omega
theorem head_not {t : List Nat} {c : Nat} (h : c ∉ t) : t.take 1 ≠ [c] := fun e => by
  obtain ⟨r, rfl⟩ := take1 e
  exact h List.mem_cons_self
theorem rt_rb {b : Int} (h : D40 b) : rt (rb b) = some b := by
  unfold rb
  split
  · rename_i e; rw [e]; rfl
  · split
    · rename_i e; rw [e]; rfl
    · have n43 : 43 ∉ decI b := decI_not b (by omega) (by decide)
      unfold rt
      rw [if_neg (decI_ne b), if_neg (fun e => n43 (by rw [e]; exact List.mem_cons_self)), if_neg (decI_m b), if_neg (head_not n43), wh_decI h]
theorem rt_sg {b : Int} (h : D40 b) (b0 : b ≠ 0) : ∃ s u, sgnL b ++ rb b = s :: u ∧ (s = 43 ∨ s = 45) ∧ NumText.AllDigits u ∧ rt (s :: u) = some b := by
  by_cases p : 0 < b
  · have e1 : sgnL b = [43] := by unfold sgnL; rw [if_pos p]
    refine ⟨43, rb b, by rw [e1]; rfl, .inl rfl, fun c hc => ?_, ?_⟩
    · unfold rb at hc
      split at hc
      · cases hc
      · rw [if_neg (by omega)] at hc
        unfold decI at hc
        rw [if_neg (by omega)] at hc
        exact decN_all _ c hc
    · unfold rb
      by_cases h1 : b = 1
      · rw [if_pos h1, h1]; rfl
      · rw [if_neg h1, if_neg (by omega)]
        unfold rt
        rw [if_neg (fun e => by cases e), if_neg (fun e => by injection e with _ e; exact decI_ne b e), if_neg (fun e => by cases e), if_pos (show (43 :: decI b).take 1 = [43] from rfl)]
        exact wh_decI h
  · have e1 : sgnL b = [] := by unfold sgnL; rw [if_neg p]
    have r := rt_rb h
    by_cases h1 : b = -1
    · refine ⟨45, [], by rw [e1, h1]; rfl, .inr rfl, fun c hc => (by cases hc), ?_⟩
      rw [h1]; rfl
    · have e2 : rb b = 45 :: decN b.natAbs := by
        unfold rb decI
        rw [if_neg (by omega), if_neg h1, if_pos (by omega)]
      refine ⟨45, decN b.natAbs, by rw [e1, e2]; rfl, .inr rfl, decN_all _, ?_⟩
      rw [← e2]
      exact r
theorem lastN_lt {t : List Nat} {c K : Nat} (h : ∀ j, K ≤ j → t[j]? ≠ some c) : lastN t c < K := by
  by_cases m : c ∈ t
  · unfold lastN Txt.rfind
    rcases StrLaws.last_spec (Tx t) (Tx [c]) with ⟨e, _⟩ | ⟨i, e, h1, _⟩
    · rw [e]; dsimp only; omega
    · rw [e]
      have := (at_one t c i).mp h1
      dsimp only
      have : i < K := Nat.lt_of_not_le fun q => h i q this
      omega
  · rw [lastN_none m]; omega
/-- where the sign of the roots stands last -/
theorem lastS_at {p u : List Nat} {s : Nat} (hs : s = 43 ∨ s = 45) (hu : NumText.AllDigits u) : lastS (p ++ s :: (u ++ [114])) = p.length := by
  have no : ∀ c, c = 43 ∨ c = 45 → c ≠ s ∨ True → ∀ j, p.length < j → (p ++ s :: (u ++ [114]))[j]? ≠ some c := fun c hc _ j hj e => by
    rw [List.getElem?_append_right (by omega)] at e
    obtain ⟨k, hk⟩ : ∃ k, j - p.length = k + 1 := ⟨j - p.length - 1, by omega⟩
    rw [hk, List.getElem?_cons_succ] at e
    rcases List.mem_append.mp (List.mem_of_getElem? e) with m | m
    · have := hu c m; omega
    · have := List.mem_singleton.mp m; omega
  have at0 : (p ++ s :: (u ++ [114]))[p.length]? = some s := by simp
  have e1 : lastN (p ++ s :: (u ++ [114])) s = p.length := lastN_some at0 (no s hs (.inr trivial))
  have e2 : ∀ c, c = 43 ∨ c = 45 → c ≠ s → lastN (p ++ s :: (u ++ [114])) c < p.length := fun c hc ne => lastN_lt fun j hj e => by
    rcases Nat.eq_or_lt_of_le hj with q | q
    · rw [← q, at0] at e
      exact ne (Option.some.inj e).symm
    · exact no c hc (.inr trivial) j q e
  unfold lastS
  rcases hs with rfl | rfl
  · have := e2 45 (.inr rfl) (by decide)
    rw [e1, if_neg (by omega)]
  · have := e2 43 (.inl rfl) (by decide)
    rw [e1, if_pos (by omega)]
theorem last_app (p : List Nat) (c : Nat) : (p ++ [c]).drop ((p ++ [c]).length - 1) = [c] ∧ (p ++ [c]).take ((p ++ [c]).length - 1) = p := by
  rw [List.length_append, List.length_singleton, Nat.add_sub_cancel]
  exact ⟨by rw [List.drop_append_of_le_length (Nat.le_refl _), List.drop_length]; rfl, by rw [List.take_append_of_le_length (Nat.le_refl _), List.take_length]⟩
theorem last_not {t : List Nat} {c : Nat} (h : c ∉ t) : t.drop (t.length - 1) ≠ [c] := fun e => h (List.mem_of_mem_drop (by rw [e]; exact List.mem_cons_self))
theorem tp_whole {a : Int} (h : D40 a) : tp (decI a) = (some a, some 0) := by
  unfold tp
  rw [if_neg (last_not (decI_not a (by omega) (by decide))), wh_decI h]
theorem tp_root {b : Int} (h : D40 b) : tp (rootL b) = (some 0, some b) := by
  have e := last_app (rb b) 114
  have n43 : 43 ∉ rb b ++ [114] := fun m => by
    rcases List.mem_append.mp m with m | m
    · unfold rb at m
      split at m
      · cases m
      · split at m
        · have := List.mem_singleton.mp m; omega
        · exact decI_not b (by omega) (by decide) m
    · have := List.mem_singleton.mp m; omega
  have n45 : lastN (rb b ++ [114]) 45 < (1 : Nat) := lastN_lt fun j hj z => by
    by_cases hj2 : j < (rb b).length
    · rw [List.getElem?_append_left hj2] at z
      unfold rb at z
      split at z
      · cases z
      · split at z
        · rw [List.getElem?_eq_none (by simp; omega)] at z; cases z
        · unfold decI at z
          split at z
          · obtain ⟨k, rfl⟩ : ∃ k, j = k + 1 := ⟨j - 1, by omega⟩
            rw [List.getElem?_cons_succ] at z
            have := decN_all _ 45 (List.mem_of_getElem? z)
            omega
          · have := decN_all _ 45 (List.mem_of_getElem? z)
            omega
    · rw [List.getElem?_append_right (by omega)] at z
      have := List.mem_singleton.mp (List.mem_of_getElem? z)
      omega
  have ls : lastS (rb b ++ [114]) < 1 := by
    unfold lastS
    rw [lastN_none n43]
    split <;> omega
  unfold tp
  rw [rootL_rb, if_pos e.1, if_pos ls, e.2, rt_rb h]
theorem tp_both {a b : Int} (ha : D40 a) (hb : D40 b) (b0 : b ≠ 0) : tp (decI a ++ sgnL b ++ rootL b) = (some a, some b) := by
  obtain ⟨s, u, e, hs, hu, r⟩ := rt_sg hb b0
  have e1 : decI a ++ sgnL b ++ rootL b = (decI a ++ s :: u) ++ [114] := by
    rw [rootL_rb, ← e]
    simp only [List.append_assoc]
  have e2 : (decI a ++ s :: u) ++ [114] = decI a ++ s :: (u ++ [114]) := by simp
  have e3 := last_app (decI a ++ s :: u) 114
  have l0 : 0 < (decI a).length := List.length_pos_iff.mpr (decI_ne a)
  have ls := lastS_at (p := decI a) hs hu
  rw [e1]
  unfold tp
  rw [if_pos e3.1]
  rw [e2, ls, if_neg (by omega), Int.toNat_natCast, List.take_append_of_le_length (Nat.le_refl _), List.take_length, wh_decI ha, List.drop_append_of_le_length (Nat.le_refl _), List.drop_length, List.nil_append]
  rw [show (decI a ++ s :: (u ++ [114])).length - 1 - (decI a).length = (s :: u).length by simp]
  rw [show s :: (u ++ [114]) = (s :: u) ++ [114] from rfl, List.take_append_of_le_length (Nat.le_refl _), List.take_length, r]
theorem signs_txt {a b : Int} {c : Nat} (h : c = 40 ∨ c = 41 ∨ c = 47) : c ∉ decI a ∧ c ∉ sgnL b ∧ c ∉ rootL b := by
  have hd := fun i => decI_not i (c := c) (by omega) (by omega)
  refine ⟨hd a, fun m => ?_, fun m => ?_⟩
  · unfold sgnL at m
    split at m
    · have := List.mem_singleton.mp m; omega
    · cases m
  · unfold rootL at m
    split at m
    · have := List.mem_singleton.mp m; omega
    · split at m
      · rcases List.mem_cons.mp m with m | m
        · omega
        · have := List.mem_singleton.mp m; omega
      · rcases List.mem_append.mp m with m | m
        · exact hd b m
        · have := List.mem_singleton.mp m; omega
theorem strp_no {t : List Nat} (h : 40 ∉ t) : strp t = t := by unfold strp; rw [if_neg (head_not h)]
theorem strp_par (t : List Nat) : strp ([40] ++ t ++ [41]) = t := by
  have e := last_app ([40] ++ t) 41
  unfold strp
  rw [if_pos (by rfl), if_pos e.1]
  rw [List.append_assoc, List.singleton_append, List.drop_succ_cons, List.drop_zero]
  rw [show (40 :: (t ++ [41])).length - 1 - 1 = t.length by simp, List.take_append_of_le_length (Nat.le_refl _), List.take_length]
theorem read_end {p : List Nat} {c : Int} (h : 47 ∉ p) (hc : D40 c) : upTo (p ++ endL c) = p ∧ behd (p ++ endL c) = some c := by
  unfold behd endL
  split
  · rename_i e
    rw [List.append_nil, upTo_none h, List.drop_length, e]
    exact ⟨rfl, rfl⟩
  · rw [upTo_app h, List.drop_append_of_le_length (Nat.le_refl _), List.drop_length, List.nil_append]
    exact ⟨rfl, wh_decI hc⟩
theorem numIn_txN {x : T3} (ha : D40 x.1) (hb : D40 x.2.1) (hc : D40 x.2.2) (hx : isNumD (nd x) = true) : numIn (txN x) = some x := by
  obtain ⟨a, b, c⟩ := x
  dsimp only at ha hb hc
  have s40 := signs_txt (a := a) (b := b) (c := 40) (by simp)
  have s47 := signs_txt (a := a) (b := b) (c := 47) (by simp)
  have fin : ∀ p : List Nat, 47 ∉ p → tp (strp p) = (some a, some b) → numIn (p ++ endL c) = some (a, b, c) := fun p hp ht => by
    obtain ⟨e1, e2⟩ := read_end hp hc
    unfold numIn
    rw [e1, e2, ht]
    dsimp only
    rw [if_pos hx]
  unfold txN
  dsimp only
  by_cases h1 : b = 0
  · rw [if_pos h1]
    refine fin _ s47.1 ?_
    rw [strp_no s40.1, tp_whole ha, h1]
  · rw [if_neg h1]
    by_cases h2 : a = 0
    · rw [if_pos h2]
      refine fin _ s47.2.2 ?_
      rw [strp_no s40.2.2, tp_root hb, h2]
    · rw [if_neg h2]
      have n47 : 47 ∉ decI a ++ sgnL b ++ rootL b := fun m => by
        rcases List.mem_append.mp m with m | m
        · rcases List.mem_append.mp m with m | m
          · exact s47.1 m
          · exact s47.2.1 m
        · exact s47.2.2 m
      have n40 : 40 ∉ decI a ++ sgnL b ++ rootL b := fun m => by
        rcases List.mem_append.mp m with m | m
        · rcases List.mem_append.mp m with m | m
          · exact s40.1 m
          · exact s40.2.1 m
        · exact s40.2.2 m
      by_cases h3 : c = 1
      · rw [if_pos h3]
        have := fin _ n47 (by rw [strp_no n40, tp_both ha hb h1])
        rw [show endL c = [] by unfold endL; rw [if_pos h3], List.append_nil] at this
        exact this
      · rw [if_neg h3]
        refine fin _ (fun m => ?_) (by rw [strp_par, tp_both ha hb h1])
        rcases List.mem_append.mp m with m | m
        · rcases List.mem_append.mp m with m | m
          · have := List.mem_singleton.mp m; omega
          · exact n47 m
        · have := List.mem_singleton.mp m; omega
theorem numBy_txN {x : T3} (ha : D40 x.1) (hb : D40 x.2.1) (hc : D40 x.2.2) (hx : isNumD (nd x) = true) : numBy (txN x) = some x := by
  unfold numBy
  rw [numIn_txN ha hb hc hx]
  dsimp only
  rw [if_pos rfl]

end MFL5
section MFL6
local macro_rules | `(tactic| walk_at "pos") => `(tactic| with_reducible first | assumption | exact Q2.one_pos | (show 0 < (_ * _ : Q2 _); exact Q2.mul_pos (by walk_at "pos") (by walk_at "pos")) | (show 0 < ((_ : Q2 _)⁻¹); exact Q2.inv_pos (by walk_at "pos")) | (show 0 < (_ + _ : Q2 _); exact Q2.add_pos (by walk_at "pos") (by walk_at "pos")))
local macro_rules | `(tactic| walk_at "ne") => `(tactic| with_reducible first | assumption | exact Q2.one_ne | exact Q2.ne_pos (by walk_at "pos") | (show (_ * _ : Q2 _) ≠ 0; exact Q2.mul_ne (by walk_at "ne") (by walk_at "ne")) | (show ((_ : Q2 _)⁻¹) ≠ 0; exact Q2.inv_ne (by walk_at "ne")) | (show Q2.conj _ ≠ 0; exact Q2.conj_ne (by walk_at "ne")) | (show (-_ : Q2 _) ≠ 0; exact Q2.neg_ne (by walk_at "ne")))
local macro_rules | `(tactic| walk_at "V") => `(tactic| with_reducible first | assumption | (show V _ _ (nplus (0, 0, 1) _); exact V.plus0 (by walk_at "V")) | (show V _ _ (nplus _ _); exact V.plus (by walk_at "V") (by walk_at "V")) | (show V _ _ (ntimes _ _ _); exact V.times (by assumption) (by walk_at "V") (by walk_at "V")) | (show V _ _ (nneg _); exact V.neg (by walk_at "V")) | (show V _ _ (nmate _); exact V.mate (by walk_at "V")) | (show V _ _ (ninv _ _); exact V.inv (by assumption) (by walk_at "V") (by walk_at "ne")) | exact V.lit0 | exact V.lit1 | exact V.lit4 | exact V.of (by assumption))
local macro_rules | `(tactic| walk_at "shp") => `(tactic| simp only [sok_kind, sok_turn, sok_upon, sok_beside, sok_grid, sok_bar, sok_mixture, sok_plan, sok_squares, sok_laying, sok_laid, sok_barred, sok_mixed, shp_non, shp_bl, shp_int, shp_str_lit, shp_tup, shp_lst, shps_nil, shps_cons, shp_nd, Bool.and_self, Bool.and_true])
local macro_rules | `(tactic| walk_at "bel") => `(tactic| simp only [belows_nil, belows_cons, bel_int, bel_bl, bel_non, bel_str, bel_tup, bel_lst, nd_bel, Bool.and_self, Bool.and_true])
local macro_rules | `(tactic| walk_at "pure") => `(tactic| simp only [pures_nil, pures_cons, pure_int, pure_bl, pure_non, pure_str, pure_tup, pure_lst, nd_pure, pures_append, Bool.and_self, Bool.and_true])
local macro_rules | `(tactic| walk_at "okt") => `(tactic| first | assumption | decide | (show okT (_ ++ _) = true; rw [okT_app, Bool.and_eq_true]; exact ⟨by walk_at "okt", by walk_at "okt"⟩) | exact okT_decI _ | exact okT_decN _)
local macro_rules | `(tactic| walk_at "dis") => `(tactic| first | assumption | with_reducible exact get_last | with_reducible exact get_last2 | (with_reducible show _ ∨ _; first | exact .inl (Nat.le_refl _) | exact .inr (by walk_at "pure") | exact .inl (by omega)) | (with_reducible show pures _ = true; walk_at "pure") | (with_reducible show D.pure _ = true; walk_at "pure") | (with_reducible show V _ _ _; walk_at "V") | (with_reducible show IsN _; exact V.isn (by walk_at "V")) | (with_reducible show List.length _ ≤ 1000; exact Nat.le_of_ble_eq_true rfl) | (with_reducible show List.length _ + List.length _ ≤ 1000; exact Nat.le_of_ble_eq_true rfl) | (with_reducible show (_ : Nat) ≤ _; first | decide | omega) | (with_reducible show mulOk _ _ = true; exact Bd.ok (by walk_at "bd") (by walk_at "bd") (by omega)) | (with_reducible show D.shp _ _ = true; walk_at "shp") | (with_reducible show shps _ _ = true; walk_at "shp") | (with_reducible show belows _ _ = true; walk_at "bel") | (with_reducible show okT _ = true; walk_at "okt") | (with_reducible show lenT _; first | assumption | (simp only [lenT, List.length_append, List.length_cons, List.length_nil, List.length_singleton, List.length_drop, List.length_take, List.length_reverse]; omega)) | (with_reducible show (0 : Q2 _) < _; walk_at "pos") | (with_reducible show (_ : Q2 _) ≠ 0; walk_at "ne") | (with_reducible show NoGrd _; first | exact noGrd1 | exact noGrd0 | exact noGrd2) | (with_reducible show (_ : Int) ≠ _; first | decide | omega) | (with_reducible show (_ : Int) < _; first | decide | omega) | (with_reducible show (_ : Int) ≤ _; first | decide | omega))
private theorem SPA_94b24ffa : type_of% (And.intro (And.intro @sp_bel_oD (And.intro @sp_pure_oD @sp_leave_oD)) (And.intro (And.intro @sp_leave_o2 @sp_leave_io) (And.intro @sp_leave_oi @sp_is_oD))) := (And.intro (And.intro @sp_bel_oD (And.intro @sp_pure_oD @sp_leave_oD)) (And.intro (And.intro @sp_leave_o2 @sp_leave_io) (And.intro @sp_leave_oi @sp_is_oD)))
local macro_rules | `(tactic| walk_at "sp") => `(tactic| simp (disch := walk_at "dis") only [SPA_fdf191e3, SPA_e0de149b, SPA_db4ba9ec, SPA_c623622f, SPA_94b24ffa, Option.bind_some, List.getElem?_cons_zero, List.getElem?_cons_succ, List.set_cons_zero, List.set_cons_succ, List.length_cons, List.length_nil, if_true, if_false, ite_true, ite_false, reduceIte, Bool.not_true, Bool.not_false, Nat.zero_add, Nat.reduceAdd, Nat.reduceLeDiff, Option.isSome_some, decide_true, decide_false, Bool.false_eq_true, Bool.and_true, ne_eq, Int.reduceEq, not_false_eq_true, Int.reduceNeg, Int.reduceLT, Nat.reducePow, Nat.reduceLT, List.length_map, Option.map_some, List.any_cons, List.any_nil, Bool.or_false, Bool.and_self, reduceCtorEq, beq_self_eq_true, or_false, or_true, true_or, false_or, Int.reduceBEq, Int.reduceLE, List.drop_succ_cons, List.drop_zero, List.take_succ_cons, List.take_zero, List.cons_append, List.nil_append, Bool.true_and, Bool.false_and, Bool.and_false, Bool.true_or, Bool.false_or, Bool.or_true, Bool.not_not, Bool.or_self, eq_self])
local macro_rules | `(tactic| walk_at "spx") => `(tactic| simp -implicitDefEqProofs (disch := walk_at "dis") only [SPA_fdf191e3, SPA_e0de149b, SPA_db4ba9ec, SPA_c623622f, SPA_94b24ffa, Option.bind_some, List.getElem?_cons_zero, List.getElem?_cons_succ, List.set_cons_zero, List.set_cons_succ, List.length_cons, List.length_nil, if_true, if_false, ite_true, ite_false, reduceIte, Bool.not_true, Bool.not_false, Nat.zero_add, Nat.reduceAdd, Nat.reduceLeDiff, Option.isSome_some, decide_true, decide_false, Bool.false_eq_true, Bool.and_true, ne_eq, Int.reduceEq, not_false_eq_true, Int.reduceNeg, Int.reduceLT, Nat.reducePow, Nat.reduceLT, List.length_map, Option.map_some, List.any_cons, List.any_nil, Bool.or_false, Bool.and_self, reduceCtorEq, beq_self_eq_true, or_false, or_true, true_or, false_or, Int.reduceBEq, Int.reduceLE, List.drop_succ_cons, List.drop_zero, List.take_succ_cons, List.take_zero, List.cons_append, List.nil_append, Bool.true_and, Bool.false_and, Bool.and_false, Bool.true_or, Bool.false_or, Bool.or_true, Bool.not_not, Bool.or_self, eq_self])
local macro_rules | `(tactic| walk_at "conj") => `(tactic| simp only [Q2.conj_add, Q2.conj_mul, Q2.conj_neg, Q2.conj_inv, Q2.conj_conj, Q2.conj_zero, Q2.conj_one,  Q2.sub_conj])
local macro_rules | `(tactic| walk_at "fld") => `(tactic| first | with_reducible rfl | assumption | grind | (walk_at "conj"; done) | (walk_at "conj"; grind))
local macro_rules | `(tactic| walk_at "dise") => `(tactic| first | (with_reducible show V _ _ _; walk_at "V") | (with_reducible show (_ : Q2 _) = _; walk_at "fld"))
local macro_rules | `(tactic| walk_at "cmp") => `(tactic| simp (disch := first | assumption | grind) only [qlt_t, qlt_f, vsgn_lt, vsgn_gt, vsgn_ge, vsgn_le, vsgn_lt1, vsgn_eq1, vsgn_eq0])
local macro_rules | `(tactic| walk_at "eq") => `(tactic| simp (disch := walk_at "dise") only [deq_t, frac_t])
local macro_rules | `(tactic| walk_at "auto") => `(tactic| (try walk_at "sp"); (repeat (walk_at "eq"; try walk_at "sp")))
local macro_rules | `(tactic| walk_at "un") => `(tactic| first | rw [forK_eq (h := src_lst _ _)] | rw [forK_eq (h := src_tup _ _)] | rw [forK_eq (h := src_ent _ _)] | rw [forK_eq (h := src_en _ _)] | rw [forK_eq (h := src_zip _ _ _)] | rw [forK_eq (h := src_zipt _ _ _)])
local macro_rules | `(tactic| walk_at "autox") => `(tactic| (try walk_at "spx"); (repeat (walk_at "eq"; try walk_at "spx")))

/-! ## Reading numbers' texts: the program's defs -/
theorem okT_take {a : List Nat} (h : okT a = true) (k : Nat) : okT (a.take k) = true := okT_sub h fun _ m => List.mem_of_mem_take m
theorem okT_drop {a : List Nat} (h : okT a = true) (k : Nat) : okT (a.drop k) = true := okT_sub h fun _ m => List.mem_of_mem_drop m
theorem lenT_take {a : List Nat} (h : lenT a) (k : Nat) : lenT (a.take k) := by unfold lenT at *; rw [List.length_take]; omega
theorem lenT_drop {a : List Nat} (h : lenT a) (k : Nat) : lenT (a.drop k) := by unfold lenT at *; rw [List.length_drop]; omega
theorem ev_roots_of (n : Nat) {a : List Nat} (M : Mem) (ha : okT a = true) (hl : lenT a) : callFn FNS (n + 2) 389 [.str (Tx a)] M = .ok (oD (rt a)) M := by
  have t1 := okT_take ha 1
  have e1 := fun M => ev_whole_of n M ha hl
  have e2 := fun M => ev_whole_of n M (okT_drop ha 1) (lenT_drop hl 1)
  rw [call_roots_of]
  unfold B_roots_of rt
  walk_at "auto"
  by_cases h1 : a = []
  · rw [decide_eq_true (show ([] : List Nat) = a from h1.symm), if_pos h1]
    walk_at "auto"
    subst h1
    walk_at "auto"
    first | done | rfl
  · rw [decide_eq_false (show ¬ ([] : List Nat) = a from fun z => h1 z.symm), if_neg h1]
    by_cases h2 : a = [43]
    · subst h2
      walk_at "auto"
      first | done | rfl
    · rw [decide_eq_false (show ¬ ([43] : List Nat) = a from fun z => h2 z.symm), if_neg h2]
      by_cases h3 : a = [45]
      · subst h3
        walk_at "auto"
        first | done | rfl
      · rw [decide_eq_false (show ¬ ([45] : List Nat) = a from fun z => h3 z.symm), if_neg h3]
        walk_at "auto"
        by_cases h4 : a.take 1 = [43]
        · rw [decide_eq_true h4, if_pos h4]
          walk_at "auto"
          rw [e2]
          walk_at "auto"
        · rw [decide_eq_false h4, if_neg h4]
          walk_at "auto"
          rw [e1]
          walk_at "auto"
theorem ev_top_of (n : Nat) {a : List Nat} (M : Mem) (ha : okT a = true) (hl : lenT a) : callFn FNS (n + 3) 390 [.str (Tx a)] M = .ok (.tup [oD (tp a).1, oD (tp a).2]) M := by
  have ot := okT_drop ha (a.length - 1)
  have e1 := fun M => ev_whole_of (n + 1) M ha hl
  have e2 := fun M => ev_roots_of n M (okT_take ha (a.length - 1)) (lenT_take hl _)
  rw [call_top_of]
  unfold B_top_of tp
  walk_at "auto"
  by_cases h1 : a.drop (a.length - 1) = [114]
  · rw [decide_eq_true h1, if_pos h1]
    walk_at "auto"
    rw [show (if lastN a 45 > lastN a 43 then lastN a 45 else lastN a 43) = lastS a from rfl]
    by_cases h2 : lastS a < 1
    · rw [decide_eq_true h2, if_pos h2]
      walk_at "auto"
      rw [e2]
      walk_at "auto"
      first | done | rfl
    · rw [decide_eq_false h2, if_neg h2]
      have hk : lastS a = (((lastS a).toNat : Nat) : Int) := by omega
      generalize (lastS a).toNat = k at hk
      rw [hk]
      have e3 := fun M => ev_whole_of (n + 1) M (okT_take ha k) (lenT_take hl k)
      have e4 := fun M => ev_roots_of n M (okT_take (okT_drop ha k) (a.length - 1 - k)) (lenT_take (lenT_drop hl k) _)
      have c1 := cutN_to a k
      have c2 := cutN_back a k
      walk_at "auto"
      rw [c1, e3]
      walk_at "auto"
      rw [c2, e4]
      walk_at "auto"
      first | done | rfl
  · rw [decide_eq_false h1, if_neg h1]
    walk_at "auto"
    rw [e1]
    walk_at "auto"
    first | done | rfl
/-- what is read, or None -/
def o3 : Option T3 → D
  | none => .non
  | some x => nd x
theorem split_first : ∀ (t : List Nat) (c : Nat), c ∈ t → ∃ p q, t = p ++ c :: q ∧ c ∉ p
  | [], _, h => by cases h
  | x :: r, c, h => by
    by_cases hx : x = c
    · exact ⟨[], r, by rw [hx]; rfl, fun m => by cases m⟩
    · rcases List.mem_cons.mp h with m | m
      · exact absurd m.symm hx
      · obtain ⟨p, q, e, hp⟩ := split_first r c m
        exact ⟨x :: p, q, by rw [e]; rfl, fun z => by
          rcases List.mem_cons.mp z with z | z
          · exact hx z.symm
          · exact hp z⟩
theorem behd_split (t : List Nat) : (47 ∉ t ∧ upTo t = t ∧ behd t = some 1) ∨ ∃ p q, t = p ++ 47 :: q ∧ 47 ∉ p ∧ upTo t = p ∧ behd t = wh q := by
  by_cases h : 47 ∈ t
  · obtain ⟨p, q, e, hp⟩ := split_first t 47 h
    refine .inr ⟨p, q, e, hp, by rw [e]; exact upTo_app hp, ?_⟩
    unfold behd
    rw [e, upTo_app hp, List.drop_append_of_le_length (Nat.le_refl _), List.drop_length]
    rfl
  · refine .inl ⟨h, upTo_none h, ?_⟩
    unfold behd
    rw [upTo_none h, List.drop_length]
theorem strp_ok {p : List Nat} (op : okT p = true) (lp : lenT p) : okT (strp p) = true ∧ lenT (strp p) := by
  unfold strp
  split
  · split
    · exact ⟨okT_take (okT_drop op _) _, lenT_take (lenT_drop lp _) _⟩
    · exact ⟨op, lp⟩
  · exact ⟨op, lp⟩
theorem ev_isnum (n : Nat) (M : Mem) (a b c : Int) : callFn FNS (n + 2) 3 [nd (a, b, c)] M = .ok (.bl (isNumD (nd (a, b, c)))) M :=
  ev_is_number (t := .tup [.int a, .int b, .int c]) trivial fun xs e y hy => by
    cases e
    simp only [List.mem_cons, List.not_mem_nil, or_false] at hy
    rcases hy with rfl | rfl | rfl <;> trivial
theorem ev_number_in (n : Nat) {a : List Nat} (M : Mem) (ha : okT a = true) (hl : lenT a) : callFn FNS (n + 4) 391 [.str (Tx a)] M = .ok (o3 (numIn a)) M := by
  have main : ∀ (p st q : List Nat), okT p = true → lenT p → okT q = true → lenT q → (st = [47] ∧ behd a = wh q ∨ st = [] ∧ behd a = some 1) → upTo a = p →
      part3E (.str (Tx a)) (.str (Tx [47])) M = .ok (.tup [.str (Tx p), .str (Tx st), .str (Tx q)]) M → callFn FNS (n + 4) 391 [.str (Tx a)] M = .ok (o3 (numIn a)) M := fun p st q op lp oq lq hst hup hpt => by
    obtain ⟨os, ls⟩ := strp_ok op lp
    have t1 := okT_take op 1
    have t2 := okT_drop op (p.length - 1)
    have e1 := fun M => ev_top_of n M os ls
    have e2 := fun M => ev_whole_of (n + 2) M oq lq
    have e3 := fun a b c M => ev_isnum (n + 1) M a b c
    have hn : numIn a = match tp (strp p), behd a with
      | (some a, some b), some c => if isNumD (nd (a, b, c)) = true then some (a, b, c) else none
      | _, _ => none := by unfold numIn; rw [hup]; first | done | rfl
    have tail : fin false M.length (evSs (callFn FNS (n + 3)) M.length (.cons (.asg (.tup [(.name 5), (.name 6)]) (.call 390 (.cons (.var 2) .nil)))
    (.cons (.asg (.name 1) (.ite (.prim .eq (.cons (.var 3) (.cons (.con (.str (Tx [47]))) .nil))) (.call 388 (.cons (.var 4) .nil)) (.con (.int 1))))
    (.cons (.ite (.or (.prim .is (.cons (.var 5) (.cons (.con .non) .nil))) (.or (.prim .is (.cons (.var 6) (.cons (.con .non) .nil))) (.or (.prim .is (.cons (.var 1) (.cons (.con .non) .nil))) (.prim .notb (.cons (.call 3 (.cons (.prim .tup (.cons (.var 5) (.cons (.var 6) (.cons (.var 1) .nil)))) .nil)) .nil))))) (.cons (.ret (.con .non)) .nil) .nil)
    (.cons (.ret (.prim .tup (.cons (.var 5) (.cons (.var 6) (.cons (.var 1) .nil)))))
    .nil)))) [some (.str (Tx a)), none, some (.str (Tx (strp p))), some (.str (Tx st)), some (.str (Tx q)), none, none] M) = .ok (o3 (numIn a)) M := by
      rw [hn]
      rcases htp : tp (strp p) with ⟨o1, o2⟩
      rw [htp] at e1
      dsimp only at e1
      rcases hst with ⟨rfl, hb⟩ | ⟨rfl, hb⟩
      · rw [hb]
        walk_at "auto"
        rw [e1]
        walk_at "auto"
        rw [e2]
        walk_at "auto"
        cases o1 with
        | none => simp only [oD, Option.isNone_none, Option.isNone_some]; walk_at "auto"; first | done | rfl
        | some x =>
          cases o2 with
          | none => simp only [oD, Option.isNone_none, Option.isNone_some]; walk_at "auto"; first | done | rfl
          | some y =>
            cases wh q with
            | none => simp only [oD, Option.isNone_none, Option.isNone_some]; walk_at "auto"; first | done | rfl
            | some z =>
              simp only [oD, Option.isNone_some]
              walk_at "auto"
              rw [e3]
              cases isNumD (nd (x, y, z)) <;> walk_at "auto" <;> first | done | rfl
      · rw [hb]
        walk_at "auto"
        rw [e1]
        walk_at "auto"
        cases o1 with
        | none => simp only [oD, Option.isNone_none, Option.isNone_some]; walk_at "auto"; first | done | rfl
        | some x =>
          cases o2 with
          | none => simp only [oD, Option.isNone_none, Option.isNone_some]; walk_at "auto"; first | done | rfl
          | some y =>
            simp only [oD, Option.isNone_some]
            walk_at "auto"
            rw [e3]
            cases isNumD (nd (x, y, 1)) <;> walk_at "auto" <;> first | done | rfl
    rw [call_number_in]
    unfold B_number_in
    rw [ss_cons, st_asg]
    walk_at "sp"
    rw [hpt]
    simp only [Res.bind_ok, asgK_eq, asgO_some, bindP_tup, bindPs_cons, bindPs_nil, bindP_name, Option.bind_some, seqK_next, List.set_cons_zero, List.set_cons_succ]
    have e4 : evS (callFn FNS (n + 3)) M.length (.ite (.and (.prim .eq (.cons (.prim (.slc false true false) (.cons (.var 2) (.cons (.con (.int 1)) .nil))) (.cons (.con (.str (Tx [40]))) .nil))) (.prim .eq (.cons (.prim (.slc true false false) (.cons (.var 2) (.cons (.prim .neg (.cons (.con (.int 1)) .nil)) .nil))) (.cons (.con (.str (Tx [41]))) .nil)))) (.cons (.asg (.name 2) (.slc2 false (.var 2) (.con (.int 1)) (.prim .neg (.cons (.con (.int 1)) .nil)))) .nil) .nil)
      [some (.str (Tx a)), none, some (.str (Tx p)), some (.str (Tx st)), some (.str (Tx q)), none, none] M = .ok (.next [some (.str (Tx a)), none, some (.str (Tx (strp p))), some (.str (Tx st)), some (.str (Tx q)), none, none]) M := by
      walk_at "auto"
      unfold strp
      by_cases h1 : p.take 1 = [40]
      · rw [decide_eq_true h1, if_pos h1]
        walk_at "auto"
        by_cases h2 : p.drop (p.length - 1) = [41]
        · rw [decide_eq_true h2, if_pos h2]
          walk_at "auto"
        · rw [decide_eq_false h2, if_neg h2]
          walk_at "auto"
      · rw [decide_eq_false h1, if_neg h1]
        walk_at "auto"
    rw [ss_cons, e4, Res.bind_ok, seqK_next]
    exact tail
  rcases behd_split a with ⟨h, e1, e2⟩ | ⟨p, q, e, hp, e1, e2⟩
  · exact main a [] [] ha hl (by decide) (by unfold lenT; decide) (.inr ⟨rfl, e2⟩) e1 (tx_part_none hl h)
  · subst e
    refine main p [47] q (okT_sub ha fun c hc => List.mem_append_left _ hc) ?_ (okT_sub ha fun c hc => List.mem_append_right _ (List.mem_cons_of_mem _ hc)) ?_ (.inl ⟨rfl, e2⟩) e1 (tx_part hl hp)
    · unfold lenT at *
      rw [List.length_append] at hl
      omega
    · unfold lenT at *
      rw [List.length_append, List.length_cons] at hl
      omega
theorem D3.of40 {x : T3} (ha : D40 x.1) (hb : D40 x.2.1) (hc : D40 x.2.2) : D3 x := ⟨ha.dg, hb.dg, hc.dg⟩
theorem o3_leave {k : Bool} {b : Nat} {M : Mem} (o : Option T3) : leave k b (o3 o) M = .ok (o3 o) (M.take b) := leave_pure (by cases o <;> rfl)
theorem ev_number_by (n : Nat) {a : List Nat} (M : Mem) (ha : okT a = true) (hl : lenT a) : callFn FNS (n + 5) 392 [.str (Tx a)] M = .ok (o3 (numBy a)) M := by
  have e1 := fun M => ev_number_in n M ha hl
  rw [call_number_by]
  unfold B_number_by numBy
  walk_at "auto"
  rw [e1]
  cases hn : numIn a with
  | none =>
    show fin false _ ((((Res.ok D.non M).bind _).bind _)) = _
    walk_at "auto"
    first | done | rfl
  | some x =>
    obtain ⟨h1, h2, h3, _⟩ := numIn_d hn
    have e2 := fun M => ev_show_number (n + 2) M (D3.of40 h1 h2 h3)
    have ok := okT_txN x
    dsimp only [o3]
    walk_at "auto"
    rw [e2]
    walk_at "auto"
    by_cases h : txN x = a
    · rw [decide_eq_true h, if_pos h]
      walk_at "auto"
    · rw [decide_eq_false h, if_neg h]
      walk_at "auto"
      first | done | rfl
/-- read_number of a text: the number, or the refusal NoText -/
theorem ev_read_number (n : Nat) {a : List Nat} (M : Mem) (ha : okT a = true) (hl : lenT a) : callFn FNS (n + 6) 393 [.str (Tx a)] M = match numBy a with
    | some x => .ok (nd x) M
    | none => .exc "NoText" M := by
  have e1 := fun M => ev_number_by n M ha hl
  rw [call_read_number]
  unfold B_read_number
  walk_at "auto"
  rw [e1]
  cases hn : numBy a with
  | none =>
    dsimp only [o3]
    walk_at "auto"
    first | done | rfl
  | some x =>
    dsimp only [o3]
    walk_at "auto"

/-! ## Numbers as texts: the law's -/
theorem ev_law_roots (n : Nat) {b : Int} (M : Mem) (h : Dg b) : callFn FNS (n + 1) 394 [.int b] M = .ok (.str (Tx (rootL b))) M := by
  have hl := decI_len h
  rw [call_law_roots]
  unfold B_law_roots
  walk_at "auto"
  unfold rootL
  by_cases h1 : b = 1
  · subst h1
    rw [if_pos rfl]
    walk_at "auto"
    first | done | rfl
  · rw [if_neg h1, show (b == 1) = false from beq_eq_false_iff_ne.mpr h1]
    walk_at "auto"
    by_cases h2 : b = -1
    · subst h2
      rw [if_pos rfl]
      walk_at "auto"
      first | done | rfl
    · rw [if_neg h2, show (b == -1) = false from beq_eq_false_iff_ne.mpr h2]
      walk_at "auto"
theorem ev_law_text (n : Nat) {x : T3} (M : Mem) (h : D3 x) : callFn FNS (n + 2) 395 [nd x] M = .ok (.str (Tx (txN x))) M := by
  obtain ⟨a, b, c⟩ := x
  obtain ⟨ha, hb, hc⟩ := h
  dsimp only at ha hb hc
  have la := decI_len ha
  have lb := rootL_len hb
  have lc' := decI_len hc
  have e1 := fun M => ev_law_roots n M hb
  rw [call_law_text]
  unfold B_law_text
  walk_at "auto"
  unfold txN endL
  dsimp only
  by_cases h2 : b = 0
  · subst h2
    walk_at "auto"
    by_cases h1 : c = 1
    · subst h1
      walk_at "auto"
      rw [List.append_nil]
    · rw [show (c == 1) = false from beq_eq_false_iff_ne.mpr h1, if_neg h1]
      walk_at "auto"
      rw [List.append_assoc]
      rfl
  · rw [show (b == 0) = false from beq_eq_false_iff_ne.mpr h2, if_neg h2]
    walk_at "auto"
    by_cases h3 : a = 0
    · subst h3
      walk_at "auto"
      rw [e1]
      walk_at "auto"
      by_cases h1 : c = 1
      · subst h1
        walk_at "auto"
        rw [List.append_nil]
      · rw [show (c == 1) = false from beq_eq_false_iff_ne.mpr h1, if_neg h1]
        walk_at "auto"
        rw [List.append_assoc]
        rfl
    · rw [show (a == 0) = false from beq_eq_false_iff_ne.mpr h3, if_neg h3]
      walk_at "auto"
      rw [show (b == 0) = false from beq_eq_false_iff_ne.mpr h2]
      walk_at "auto"
      unfold sgnL
      by_cases h4 : 0 < b
      · rw [decide_eq_true h4, if_pos h4]
        walk_at "auto"
        rw [e1]
        walk_at "auto"
        by_cases h1 : c = 1
        · subst h1
          walk_at "auto"
        · rw [show (c == 1) = false from beq_eq_false_iff_ne.mpr h1, if_neg h1, if_neg h1]
          walk_at "auto"
          rw [show (c == 1) = false from beq_eq_false_iff_ne.mpr h1]
          walk_at "auto"
          simp only [List.append_assoc, List.cons_append, List.nil_append, List.singleton_append]
      · rw [decide_eq_false h4, if_neg h4]
        walk_at "auto"
        rw [e1]
        walk_at "auto"
        by_cases h1 : c = 1
        · subst h1
          walk_at "auto"
          rw [List.append_nil]
        · rw [show (c == 1) = false from beq_eq_false_iff_ne.mpr h1, if_neg h1, if_neg h1]
          walk_at "auto"
          rw [show (c == 1) = false from beq_eq_false_iff_ne.mpr h1]
          walk_at "auto"
          simp only [List.append_assoc, List.cons_append, List.nil_append, List.singleton_append]

/-! ## Numbers of few figures and of forty, drawn -/
theorem low_le {a b c : Int} : (low a b c).1.natAbs ≤ a.natAbs ∧ (low a b c).2.1.natAbs ≤ b.natAbs ∧ (low a b c).2.2.natAbs ≤ c.natAbs := by
  have key : ∀ x g : Int, g ∣ x → (x / g).natAbs ≤ x.natAbs := fun x g h => by
    by_cases hg : g = 0
    · subst hg; rw [Int.ediv_zero]; exact Nat.zero_le _
    · obtain ⟨k, rfl⟩ := h
      rw [Int.mul_ediv_cancel_left _ hg, Int.natAbs_mul]
      exact Nat.le_mul_of_pos_left _ (Int.natAbs_pos.mpr hg)
  exact ⟨key _ _ (dvd_sg (gcd3_a a b c)), key _ _ (dvd_sg (gcd3_b a b c)), key _ _ (dvd_sg (gcd3_c a b c))⟩
/-- a number whose parts have forty figures at most -/
structure N40 (x : T3) : Prop where
  n : IsN x
  a : D40 x.1
  b : D40 x.2.1
  c : D40 x.2.2
theorem N40.d3 {x : T3} (h : N40 x) : D3 x := D3.of40 h.a h.b h.c
theorem N40.of {x : T3} (h : Nm 20 x) : N40 x := by
  have k : ∀ i : Int, Bd 20 i → D40 i := fun i h => Nat.lt_trans h.lt (by decide)
  exact ⟨h.n, k _ h.z.a, k _ h.z.b, k _ h.z.c⟩
theorem ok_law_digits (n : Nat) {i : Nat} {w : Int} {M : Mem} (h : Bag i M) (w0 : 2 ≤ w) (w1 : w ≤ 10 ^ 40) : Ok (callFn FNS (n + 2) 397 [.ref i, .int w] M) (fun v M' => (∃ k, v = .int k ∧ 0 ≤ k ∧ k < w) ∧ BagSt i M M') := by
  rw [call_law_digits]
  unfold B_law_digits
  walk_at "auto"
  walk_at "dig"
  refine ok_for_rngI (by decide) (fun m ρ M' => ∃ (f : Int) (z : Option D), ρ = [some (.ref i), some (.int w), some (.int f), z] ∧ 0 ≤ f ∧ Bd (14 * m.toNat) f ∧ BagSt i M M') ?_ ⟨0, _, rfl, by omega, ⟨by decide⟩, BagSt.refl h⟩ ?_
  · rintro m ρ M1 m0 m1 ⟨f, z, rfl, f0, hf, st⟩
    walk_at "auto"
    have hp : powE (.int 10) (.int 4) M1 = .ok (.int 10000) M1 := rfl
    have hb : Bd 140 f := hf.mono (by omega)
    have hm : mulOk f 10000 = true := Bd.ok hb (show Bd 14 10000 from ⟨by decide⟩) (by omega)
    try rw [hp]
    walk_at "auto"
    try rw [mulE_int _ _ _ hm]
    walk_at "auto"
    try rw [hp]
    walk_at "auto"
    walk_at "dig"
    refine Ok.mono (ok_law_take _ st.bag (by decide) (by decide)) ?_
    rintro _ M2 ⟨⟨t, rfl, t0, t1⟩, st2⟩
    replace st := st.trans st2
    walk_at "auto"
    refine ⟨_, rfl, f * 10000 + t, _, rfl, by have := Int.mul_nonneg f0 (show (0 : Int) ≤ 10000 by decide); omega, ⟨?_⟩, st⟩
    have l := hf.lt
    have e : (m + 1).toNat = m.toNat + 1 := by omega
    rw [e, Nat.mul_add, Nat.pow_add]
    obtain ⟨g, rfl⟩ := Int.eq_ofNat_of_zero_le f0
    obtain ⟨s, rfl⟩ := Int.eq_ofNat_of_zero_le t0
    rw [Int.natAbs_natCast] at l
    have : (((g : Int) * 10000 + (s : Int))).natAbs = g * 10000 + s := by omega
    rw [this]
    have : g * 10000 + s < (g + 1) * 10000 := by omega
    have : (g + 1) * 10000 ≤ 2 ^ (14 * m.toNat) * 2 ^ (14 * 1) := Nat.mul_le_mul l (by decide)
    omega
  · rintro ρ M1 ⟨f, z, rfl, f0, hf, st⟩
    walk_at "auto"
    try rw [modE_int _ _ _ (by omega)]
    walk_at "auto"
    rw [st.take]
    refine ⟨⟨_, rfl, ?_, ?_⟩, st⟩
    · rw [Int.fmod_eq_emod_of_nonneg _ (by omega)]; exact Int.emod_nonneg _ (by omega)
    · rw [Int.fmod_eq_emod_of_nonneg _ (by omega)]; exact Int.emod_lt_of_pos _ (by omega)
theorem sel_of {xs : List D} {P : Int → Prop} {j : Int} (M : Mem) (j0 : 0 ≤ j) (j1 : j < (xs.length : Int)) (h : ∀ x ∈ xs, ∃ y, x = .int y ∧ P y) : ∃ y, P y ∧ idxE (.lst xs) (.int j) M = .ok (.int y) M := by
  obtain ⟨x, hm, e⟩ := idx_mem (xs := xs) M j0 j1
  obtain ⟨y, rfl, hy⟩ := h x hm
  exact ⟨y, hy, e⟩
theorem ok_law_any_number (n : Nat) {i : Nat} {M : Mem} (h : Bag i M) : Ok (callFn FNS (n + 4) 396 [.ref i] M) (fun v M' => (∃ x, v = nd x ∧ N40 x) ∧ BagSt i M M') := by
  rw [call_law_any_number]
  unfold B_law_any_number
  walk_at "auto"
  walk_at "dig"
  refine Ok.mono (ok_law_take _ h (by decide) (by decide)) ?_
  rintro _ M1 ⟨⟨way, rfl, y0, y1⟩, st⟩
  walk_at "auto"
  by_cases c : way < 2
  · rw [decide_eq_true c]
    walk_at "auto"
    walk_at "dig"
    refine Ok.mono (ok_law_number _ st.bag) ?_
    rintro _ M2 ⟨⟨x, rfl, nx⟩, st2⟩
    replace st := st.trans st2
    walk_at "auto"
    rw [st.take]
    exact ⟨⟨x, rfl, .of nx⟩, st⟩
  · rw [decide_eq_false c]
    walk_at "auto"
    walk_at "dig"
    refine Ok.mono (ok_law_take _ st.bag (by decide) (by decide)) ?_
    rintro _ M2 ⟨⟨t, rfl, t0, t1⟩, st2⟩
    replace st := st.trans st2
    walk_at "auto"
    obtain ⟨k, ⟨k0, k1⟩, e⟩ := sel_of (xs := [.int 39, .int t]) (P := fun k => 0 ≤ k ∧ k ≤ 39) (j := 3 - way) M2 (by omega) (by show _ < (2 : Int); omega) (by
      simp only [List.mem_cons, List.not_mem_nil, or_false]
      rintro _ (rfl | rfl)
      · exact ⟨_, rfl, by omega⟩
      · exact ⟨_, rfl, by omega⟩)
    rw [e]
    walk_at "auto"
    walk_at "dig"
    refine ok_for_rngI (by omega) (fun m ρ M' => ∃ (w : Int) (z : Option D), ρ = [some (.ref i), some (.int way), some (.int w), z, none, none, none, none] ∧ w = ((10 ^ (m.toNat + 1) : Nat) : Int) ∧ M' = M2) ?_ ⟨10, _, rfl, rfl, rfl⟩ ?_
    · rintro m ρ M3 m0 m1 ⟨w, z, rfl, hw, rfl⟩
      have hm : mulOk w 10 = true := Bd.ok (s := 140) (t := 4) ⟨by
        rw [hw, Int.natAbs_natCast]
        exact Nat.lt_of_le_of_lt (Nat.pow_le_pow_right (by decide) (show m.toNat + 1 ≤ 40 by omega)) (by decide)⟩ ⟨by decide⟩ (by omega)
      walk_at "auto"
      try rw [mulE_int _ _ _ hm]
      walk_at "auto"
      refine ⟨_, rfl, w * 10, _, rfl, ?_, by first | rfl | trivial⟩
      rw [hw, show (m + 1).toNat + 1 = (m.toNat + 1) + 1 by omega, Nat.pow_succ 10 (m.toNat + 1)]
      rfl
    · rintro ρ M3 ⟨w, z, rfl, hw, rfl⟩
      have w0 : 10 ≤ w := by
        have := Nat.pow_le_pow_right (show 0 < 10 by decide) (show 1 ≤ k.toNat + 1 by omega)
        omega
      have w1 : w ≤ 10 ^ 40 := by
        have := Nat.pow_le_pow_right (show 0 < 10 by decide) (show k.toNat + 1 ≤ 40 by omega)
        rw [hw]
        exact_mod_cast this
      clear hw
      walk_at "auto"
      walk_at "dig"
      refine ok_draws (P := fun v => ∃ a : Int, v = .int a ∧ D40 a) (by decide) st.bag ?_ ?_
      · rintro j M4 j0 j1 hb
        walk_at "auto"
        walk_at "dig"
        refine Ok.mono (ok_law_digits _ hb (by omega) w1) ?_
        rintro _ M5 ⟨⟨a, rfl, a0, a1⟩, s1⟩
        walk_at "auto"
        walk_at "dig"
        refine Ok.mono (ok_law_take _ s1.bag (by decide) (by decide)) ?_
        rintro _ M6 ⟨⟨t, rfl, t0, t1⟩, s2⟩
        have ab : Bd 140 a := ⟨by
          have : a.natAbs < 10 ^ 40 := by
            have h40 : w ≤ ((10 ^ 40 : Nat) : Int) := by exact_mod_cast w1
            omega
          exact Nat.lt_trans this (by decide)⟩
        have hm : mulOk 2 t = true := Bd.ok (s := 2) (t := 2) ⟨by decide⟩ ⟨by omega⟩ (by decide)
        have hm2 : mulOk a (1 - 2 * t) = true := Bd.ok (t := 4) ab ⟨by omega⟩ (by decide)
        walk_at "auto"
        try rw [mulE_int _ _ _ hm]
        walk_at "auto"
        try rw [mulE_int _ _ _ hm2]
        walk_at "auto"
        refine ⟨_, by first | rfl | trivial, ⟨_, by first | rfl | trivial, ?_⟩, s1.trans s2⟩
        unfold D40
        have h40 : w ≤ ((10 ^ 40 : Nat) : Int) := by exact_mod_cast w1
        rcases (show t = 0 ∨ t = 1 by omega) with rfl | rfl
        · rw [show a * (1 - 2 * 0) = a by omega]; omega
        · rw [show a * (1 - 2 * 1) = -a by omega]; omega
      · rintro vs M4 hv hl s1
        replace st := st.trans s1
        match vs, hl with
        | [u, v], _ =>
          obtain ⟨a, rfl, ha⟩ := hv _ List.mem_cons_self
          obtain ⟨b, rfl, hb⟩ := hv _ (List.mem_cons_of_mem _ List.mem_cons_self)
          walk_at "auto"
          walk_at "dig"
          refine Ok.mono (ok_law_digits _ st.bag (by omega) w1) ?_
          rintro _ M5 ⟨⟨q, rfl, q0, q1⟩, s1⟩
          replace st := st.trans s1
          walk_at "auto"
          try rw [modE_int _ _ _ (show w - 1 ≠ 0 by omega)]
          walk_at "auto"
          have c0 : 0 ≤ q.fmod (w - 1) := by rw [Int.fmod_eq_emod_of_nonneg _ (by omega)]; exact Int.emod_nonneg _ (by omega)
          have c1 : q.fmod (w - 1) < w - 1 := by rw [Int.fmod_eq_emod_of_nonneg _ (by omega)]; exact Int.emod_lt_of_pos _ (by omega)
          generalize q.fmod (w - 1) = r at c0 c1
          have h40 : w ≤ ((10 ^ 40 : Nat) : Int) := by exact_mod_cast w1
          have hr : D40 (1 + r) := by unfold D40; omega
          have d0 : D40 0 := d40_small (.inl rfl)
          have d1 : D40 1 := d40_small (.inr (.inl rfl))
          have dm : D40 (-1) := d40_small (.inr (.inr rfl))
          walk_at "dig"
          refine Ok.mono (ok_law_take _ st.bag (by decide) (by decide)) ?_
          rintro _ M6 ⟨⟨j1, rfl, p0, p1⟩, s1⟩
          replace st := st.trans s1
          obtain ⟨a', ha', e1⟩ := sel_of (xs := [.int a, .int a, .int 0, .int a]) (P := D40) M6 p0 p1 (by
            simp only [List.forall_mem_cons, D.int.injEq]
            exact ⟨⟨_, rfl, ha⟩, ⟨_, rfl, ha⟩, ⟨_, rfl, d0⟩, ⟨_, rfl, ha⟩, fun x hx => by cases hx⟩)
          walk_at "auto"
          rw [e1]
          walk_at "auto"
          walk_at "dig"
          refine Ok.mono (ok_law_take _ st.bag (by decide) (by decide)) ?_
          rintro _ M7 ⟨⟨j2, rfl, p0, p1⟩, s1⟩
          replace st := st.trans s1
          obtain ⟨b', hb', e2⟩ := sel_of (xs := [.int b, .int 1, .int b, .int (-1), .int 0]) (P := D40) M7 p0 p1 (by
            simp only [List.forall_mem_cons, D.int.injEq]
            exact ⟨⟨_, rfl, hb⟩, ⟨_, rfl, d1⟩, ⟨_, rfl, hb⟩, ⟨_, rfl, dm⟩, ⟨_, rfl, d0⟩, fun x hx => by cases hx⟩)
          walk_at "auto"
          rw [e2]
          walk_at "auto"
          walk_at "dig"
          refine Ok.mono (ok_law_take _ st.bag (by decide) (by decide)) ?_
          rintro _ M8 ⟨⟨j3, rfl, p0, p1⟩, s1⟩
          replace st := st.trans s1
          obtain ⟨c', ⟨hc', hc0⟩, e3⟩ := sel_of (xs := [.int (1 + r), .int 1]) (P := fun y => D40 y ∧ 1 ≤ y) M8 p0 p1 (by
            simp only [List.forall_mem_cons, D.int.injEq]
            exact ⟨⟨_, rfl, hr, by omega⟩, ⟨_, rfl, d1, by omega⟩, fun x hx => by cases hx⟩)
          walk_at "auto"
          rw [e3]
          walk_at "auto"
          rw [ev_law_low _ _ (by omega) (s := 200) hc'.dg.bd (by decide)]
          walk_at "auto"
          rw [st.take]
          obtain ⟨l1, l2, l3⟩ := low_le (a := a') (b := b') (c := c')
          exact ⟨⟨_, rfl, low_isN (by omega), Nat.lt_of_le_of_lt l1 ha', Nat.lt_of_le_of_lt l2 hb', Nat.lt_of_le_of_lt l3 hc'⟩, st⟩

end MFL6
section MFL7
local macro_rules | `(tactic| walk_at "pos") => `(tactic| with_reducible first | assumption | exact Q2.one_pos | (show 0 < (_ * _ : Q2 _); exact Q2.mul_pos (by walk_at "pos") (by walk_at "pos")) | (show 0 < ((_ : Q2 _)⁻¹); exact Q2.inv_pos (by walk_at "pos")) | (show 0 < (_ + _ : Q2 _); exact Q2.add_pos (by walk_at "pos") (by walk_at "pos")))
local macro_rules | `(tactic| walk_at "ne") => `(tactic| with_reducible first | assumption | exact Q2.one_ne | exact Q2.ne_pos (by walk_at "pos") | (show (_ * _ : Q2 _) ≠ 0; exact Q2.mul_ne (by walk_at "ne") (by walk_at "ne")) | (show ((_ : Q2 _)⁻¹) ≠ 0; exact Q2.inv_ne (by walk_at "ne")) | (show Q2.conj _ ≠ 0; exact Q2.conj_ne (by walk_at "ne")) | (show (-_ : Q2 _) ≠ 0; exact Q2.neg_ne (by walk_at "ne")))
local macro_rules | `(tactic| walk_at "V") => `(tactic| with_reducible first | assumption | (show V _ _ (nplus (0, 0, 1) _); exact V.plus0 (by walk_at "V")) | (show V _ _ (nplus _ _); exact V.plus (by walk_at "V") (by walk_at "V")) | (show V _ _ (ntimes _ _ _); exact V.times (by assumption) (by walk_at "V") (by walk_at "V")) | (show V _ _ (nneg _); exact V.neg (by walk_at "V")) | (show V _ _ (nmate _); exact V.mate (by walk_at "V")) | (show V _ _ (ninv _ _); exact V.inv (by assumption) (by walk_at "V") (by walk_at "ne")) | exact V.lit0 | exact V.lit1 | exact V.lit4 | exact V.of (by assumption))
local macro_rules | `(tactic| walk_at "shp") => `(tactic| simp only [sok_kind, sok_turn, sok_upon, sok_beside, sok_grid, sok_bar, sok_mixture, sok_plan, sok_squares, sok_laying, sok_laid, sok_barred, sok_mixed, shp_non, shp_bl, shp_int, shp_str_lit, shp_tup, shp_lst, shps_nil, shps_cons, shp_nd, Bool.and_self, Bool.and_true])
local macro_rules | `(tactic| walk_at "bel") => `(tactic| simp only [belows_nil, belows_cons, bel_int, bel_bl, bel_non, bel_str, bel_tup, bel_lst, nd_bel, Bool.and_self, Bool.and_true])
local macro_rules | `(tactic| walk_at "pure") => `(tactic| simp only [pures_nil, pures_cons, pure_int, pure_bl, pure_non, pure_str, pure_tup, pure_lst, nd_pure, pures_append, Bool.and_self, Bool.and_true])
local macro_rules | `(tactic| walk_at "okt") => `(tactic| first | assumption | decide | (show okT (_ ++ _) = true; rw [okT_app, Bool.and_eq_true]; exact ⟨by walk_at "okt", by walk_at "okt"⟩) | exact okT_decI _ | exact okT_decN _)
local macro_rules | `(tactic| walk_at "dis") => `(tactic| first | assumption | with_reducible exact get_last | with_reducible exact get_last2 | (with_reducible show _ ∨ _; first | exact .inl (Nat.le_refl _) | exact .inr (by walk_at "pure") | exact .inl (by omega)) | (with_reducible show pures _ = true; walk_at "pure") | (with_reducible show D.pure _ = true; walk_at "pure") | (with_reducible show V _ _ _; walk_at "V") | (with_reducible show IsN _; exact V.isn (by walk_at "V")) | (with_reducible show List.length _ ≤ 1000; exact Nat.le_of_ble_eq_true rfl) | (with_reducible show List.length _ + List.length _ ≤ 1000; exact Nat.le_of_ble_eq_true rfl) | (with_reducible show (_ : Nat) ≤ _; first | decide | omega) | (with_reducible show mulOk _ _ = true; exact Bd.ok (by walk_at "bd") (by walk_at "bd") (by omega)) | (with_reducible show D.shp _ _ = true; walk_at "shp") | (with_reducible show shps _ _ = true; walk_at "shp") | (with_reducible show belows _ _ = true; walk_at "bel") | (with_reducible show okT _ = true; walk_at "okt") | (with_reducible show lenT _; first | assumption | (simp only [lenT, List.length_append, List.length_cons, List.length_nil, List.length_singleton, List.length_drop, List.length_take, List.length_reverse]; omega)) | (with_reducible show (0 : Q2 _) < _; walk_at "pos") | (with_reducible show (_ : Q2 _) ≠ 0; walk_at "ne") | (with_reducible show NoGrd _; first | exact noGrd1 | exact noGrd0 | exact noGrd2) | (with_reducible show (_ : Int) ≠ _; first | decide | omega) | (with_reducible show (_ : Int) < _; first | decide | omega) | (with_reducible show (_ : Int) ≤ _; first | decide | omega))
local macro_rules | `(tactic| walk_at "sp") => `(tactic| simp (disch := walk_at "dis") only [SPA_fdf191e3, SPA_e0de149b, SPA_db4ba9ec, SPA_c623622f, SPA_94b24ffa, Option.bind_some, List.getElem?_cons_zero, List.getElem?_cons_succ, List.set_cons_zero, List.set_cons_succ, List.length_cons, List.length_nil, if_true, if_false, ite_true, ite_false, reduceIte, Bool.not_true, Bool.not_false, Nat.zero_add, Nat.reduceAdd, Nat.reduceLeDiff, Option.isSome_some, decide_true, decide_false, Bool.false_eq_true, Bool.and_true, ne_eq, Int.reduceEq, not_false_eq_true, Int.reduceNeg, Int.reduceLT, Nat.reducePow, Nat.reduceLT, List.length_map, Option.map_some, List.any_cons, List.any_nil, Bool.or_false, Bool.and_self, reduceCtorEq, beq_self_eq_true, or_false, or_true, true_or, false_or, Int.reduceBEq, Int.reduceLE, List.drop_succ_cons, List.drop_zero, List.take_succ_cons, List.take_zero, List.cons_append, List.nil_append, Bool.true_and, Bool.false_and, Bool.and_false, Bool.true_or, Bool.false_or, Bool.or_true, Bool.not_not, Bool.or_self, eq_self])
local macro_rules | `(tactic| walk_at "spx") => `(tactic| simp -implicitDefEqProofs (disch := walk_at "dis") only [SPA_fdf191e3, SPA_e0de149b, SPA_db4ba9ec, SPA_c623622f, SPA_94b24ffa, Option.bind_some, List.getElem?_cons_zero, List.getElem?_cons_succ, List.set_cons_zero, List.set_cons_succ, List.length_cons, List.length_nil, if_true, if_false, ite_true, ite_false, reduceIte, Bool.not_true, Bool.not_false, Nat.zero_add, Nat.reduceAdd, Nat.reduceLeDiff, Option.isSome_some, decide_true, decide_false, Bool.false_eq_true, Bool.and_true, ne_eq, Int.reduceEq, not_false_eq_true, Int.reduceNeg, Int.reduceLT, Nat.reducePow, Nat.reduceLT, List.length_map, Option.map_some, List.any_cons, List.any_nil, Bool.or_false, Bool.and_self, reduceCtorEq, beq_self_eq_true, or_false, or_true, true_or, false_or, Int.reduceBEq, Int.reduceLE, List.drop_succ_cons, List.drop_zero, List.take_succ_cons, List.take_zero, List.cons_append, List.nil_append, Bool.true_and, Bool.false_and, Bool.and_false, Bool.true_or, Bool.false_or, Bool.or_true, Bool.not_not, Bool.or_self, eq_self])
local macro_rules | `(tactic| walk_at "conj") => `(tactic| simp only [Q2.conj_add, Q2.conj_mul, Q2.conj_neg, Q2.conj_inv, Q2.conj_conj, Q2.conj_zero, Q2.conj_one,  Q2.sub_conj])
local macro_rules | `(tactic| walk_at "fld") => `(tactic| first | with_reducible rfl | assumption | grind | (walk_at "conj"; done) | (walk_at "conj"; grind))
local macro_rules | `(tactic| walk_at "dise") => `(tactic| first | (with_reducible show V _ _ _; walk_at "V") | (with_reducible show (_ : Q2 _) = _; walk_at "fld"))
local macro_rules | `(tactic| walk_at "cmp") => `(tactic| simp (disch := first | assumption | grind) only [qlt_t, qlt_f, vsgn_lt, vsgn_gt, vsgn_ge, vsgn_le, vsgn_lt1, vsgn_eq1, vsgn_eq0])
local macro_rules | `(tactic| walk_at "eq") => `(tactic| simp (disch := walk_at "dise") only [deq_t, frac_t])
local macro_rules | `(tactic| walk_at "auto") => `(tactic| (try walk_at "sp"); (repeat (walk_at "eq"; try walk_at "sp")))
local macro_rules | `(tactic| walk_at "un") => `(tactic| first | rw [forK_eq (h := src_lst _ _)] | rw [forK_eq (h := src_tup _ _)] | rw [forK_eq (h := src_ent _ _)] | rw [forK_eq (h := src_en _ _)] | rw [forK_eq (h := src_zip _ _ _)] | rw [forK_eq (h := src_zipt _ _ _)])
local macro_rules | `(tactic| walk_at "autox") => `(tactic| (try walk_at "spx"); (repeat (walk_at "eq"; try walk_at "spx")))

def prN (x : T3) : D := .tup [nd x, .str (Tx (txN x))]
theorem prN_pure (x : T3) : (prN x).pure = true := rfl
theorem rd_txN (n : Nat) {x : T3} (M : Mem) (h : N40 x) : callFn FNS (n + 6) 393 [.str (Tx (txN x))] M = .ok (nd x) M := by
  rw [ev_read_number n M (okT_txN x) (by unfold lenT; have := txN_len h.d3; omega), numBy_txN h.a h.b h.c (isNumD_nd h.n)]
theorem ok_law_k47 (n : Nat) (ns : List Int) : Ok (callFn FNS (n + 20) 398 [.fix (ns.map D.int)] []) (fun v _ => v = .bl true) := by
  have l1 : Str.ofString "(1-r)/2" = Tx [40, 49, 45, 114, 41, 47, 50] := by decide +kernel
  have l2 : Str.ofString "0" = Tx [48] := by decide +kernel
  have t1 : txN (0, -1, 1) = [45, 114] := by decide +kernel
  have t2 : txN (1, -1, 2) = [40, 49, 45, 114, 41, 47, 50] := by decide +kernel
  have t3 : txN (0, 0, 1) = [48] := by decide +kernel
  have n1 : N40 (0, 0, 1) := ⟨⟨by decide, by decide⟩, d40_small (.inl rfl), d40_small (.inl rfl), d40_small (.inr (.inl rfl))⟩
  have d1 : D3 (0, -1, 1) := ⟨by unfold Dg; decide, by unfold Dg; decide, by unfold Dg; decide⟩
  have d2 : D3 (1, -1, 2) := ⟨by unfold Dg; decide, by unfold Dg; decide, by unfold Dg; decide⟩
  have s1 := fun M => ev_show_number (n + 17) M d1
  have s2 := fun M => ev_show_number (n + 17) M d2
  have s3 := fun M => rd_txN (n + 13) M n1
  rw [t1] at s1
  rw [t2] at s2
  rw [t3] at s3
  rw [call_law_k47]
  unfold B_law_k47
  rw [l1, l2]
  walk_at "auto"
  walk_at "dig"
  refine ok_cellsI (by decide) (fun i ρ M => ρ.length = 8 ∧ ρ[0]? = some (some (.fix (ns.map D.int))) ∧ ρ[1]? = some (some (.ref 0)) ∧ ∃ ps : List T3, M[0]? = some (.lst (ps.map prN)) ∧ (ps.length : Int) = 6 * i ∧ ∀ x ∈ ps, N40 x) ?_ ⟨rfl, rfl, rfl, [], rfl, rfl, fun x h => by cases h⟩ ?_
  · rintro k ρ M k0 k1 ⟨hl, h0, h1, ps, hc, hn, hp⟩
    repeat (obtain ⟨_, _, e, hl'⟩ := list_len_succ hl; clear hl; subst e; have hl := hl'; clear hl')
    obtain rfl := List.length_eq_zero_iff.mp hl
    simp only [List.getElem?_cons_zero, List.getElem?_cons_succ, Option.some.injEq] at h0 h1
    subst h0 h1
    have hlt := (List.getElem?_eq_some_iff.mp hc).1
    walk_at "auto"
    walk_at "dig"
    refine Ok.mono (ok_law_bag _ k ns M k0 (by omega)) ?_
    rintro _ _ ⟨rfl, g, x, rfl, x0, x1⟩
    have hb : Bag M.length (M ++ [.lst [.int g, .int x]]) := ⟨g, x, by simp, x0, x1⟩
    have hc1 : (M ++ [.lst [.int g, .int x]])[0]? = some (.lst (ps.map prN)) := by rw [List.getElem?_append_left hlt]; exact hc
    have ne : (0 : Nat) ≠ M.length := by omega
    generalize M ++ [.lst [.int g, .int x]] = M1 at hb hc1
    generalize M.length = i at hb ne
    walk_at "auto"
    walk_at "dig"
    refine ok_for_rngI (by decide) (fun m ρ M' => ρ.length = 8 ∧ ρ[0]? = some (some (.fix (ns.map D.int))) ∧ ρ[1]? = some (some (.ref 0)) ∧ ρ[3]? = some (some (.ref i)) ∧ Bag i M' ∧ ∃ ps : List T3, M'[0]? = some (.lst (ps.map prN)) ∧ (ps.length : Int) = 6 * k + m ∧ ∀ x ∈ ps, N40 x) ?_ ⟨rfl, rfl, rfl, rfl, hb, ps, hc1, by omega, hp⟩ ?_
    · clear hc1 hb hp hn hc hlt
      rintro m ρ M2 m0 m1 ⟨hl, h0, h1, h3, hb, ps, hc, hn, hp⟩
      repeat (obtain ⟨_, _, e, hl'⟩ := list_len_succ hl; clear hl; subst e; have hl := hl'; clear hl')
      obtain rfl := List.length_eq_zero_iff.mp hl
      simp only [List.getElem?_cons_zero, List.getElem?_cons_succ, Option.some.injEq] at h0 h1 h3
      subst h0 h1 h3
      walk_at "auto"
      walk_at "dig"
      refine Ok.mono (ok_law_any_number _ hb) ?_
      rintro _ M3 ⟨⟨x, rfl, nx⟩, st⟩
      replace hb := st.bag
      replace hc := st.keep ne hc
      have e1 := fun M => ev_show_number (n + 17) M nx.d3
      have e2 := fun M => ev_law_text (n + 17) M nx.d3
      have e3 := fun M => rd_txN (n + 13) M nx
      have ok := okT_txN x
      have hx := nx.n
      walk_at "auto"
      rw [e1]
      walk_at "auto"
      rw [e2]
      walk_at "auto"
      rw [e3]
      walk_at "auto"
      have lp : (ps.map prN).length ≤ 1000 := by rw [List.length_map]; omega
      have ap := fun b => append_at (b := b) (v := prN x) hc (.inr (prN_pure x)) lp
      have lt := (List.getElem?_eq_some_iff.mp hc).1
      unfold prN at ap
      try rw [methK_at hc]
      walk_at "auto"
      try rw [ap]
      walk_at "auto"
      refine ⟨_, rfl, rfl, rfl, rfl, rfl, hb.set_other ne, ps ++ [x], ?_, by rw [List.length_append, List.length_singleton]; omega, fun y hy => ?_⟩
      · rw [List.getElem?_set_self lt, List.map_append]
        rfl
      · rcases List.mem_append.mp hy with hy | hy
        · exact hp y hy
        · rw [List.mem_singleton.mp hy]; exact nx
    · clear hc1 hb hp hn hc hlt
      rintro ρ M2 ⟨hl, h0, h1, h3, hb, ps, hc, hn, hp⟩
      exact ⟨_, rfl, hl, h0, h1, ps, hc, by omega, hp⟩
  · rintro k ρ M k0 k1 ⟨hl, h0, h1, ps, hc, hn, hp⟩
    repeat (obtain ⟨_, _, e, hl'⟩ := list_len_succ hl; clear hl; subst e; have hl := hl'; clear hl')
    obtain rfl := List.length_eq_zero_iff.mp hl
    simp only [List.getElem?_cons_zero, List.getElem?_cons_succ, Option.some.injEq] at h0 h1
    subst h0 h1
    walk_at "auto"
    walk_at "dig"
    rw [forK_eq (h := src_ref _ _ _ hc)]
    refine ok_forP (fun v => ∃ x, v = prN x ∧ N40 x) (fun ρ M' => ρ.length = 8 ∧ M' = M) (fun ρ M' h => by rw [h.2]; exact grd_ref hc) ?_ ?_ (fun v hv => by
      obtain ⟨x, hx, rfl⟩ := List.mem_map.mp hv
      exact ⟨x, rfl, hp x hx⟩) ⟨rfl, rfl⟩
    · rintro v ρ M2 ⟨x, rfl, nx⟩ ⟨hl, rfl⟩
      repeat (obtain ⟨_, _, e, hl'⟩ := list_len_succ hl; clear hl; subst e; have hl := hl'; clear hl')
      obtain rfl := List.length_eq_zero_iff.mp hl
      have e1 := fun M => ev_show_number (n + 17) M nx.d3
      have e3 := fun M => rd_txN (n + 13) M nx
      have ok := okT_txN x
      have hx := nx.n
      unfold prN
      walk_at "auto"
      rw [e1]
      walk_at "auto"
      rw [e3]
      walk_at "auto"
      exact ⟨_, rfl, rfl, by first | rfl | trivial⟩
    · rintro ρ M2 ⟨hl, rfl⟩
      walk_at "auto"
      rw [s1]
      walk_at "auto"
      rw [s2]
      walk_at "auto"
      rw [s3]
      walk_at "auto"
      first | done | rfl | trivial
theorem law_true : LawTrue FNS 40 398 := fun ns _ => by
  obtain ⟨v, M, e, rfl⟩ := (ok_law_k47 20 ns).ex
  exact ⟨M, e⟩

end MFL7
abbrev topS (i : Nat) : Stmt := PySem.Challenge.pw_matefloors_k47_numbers_written.main.body.getD i (.Pass ⟨0, 0, 0, 0⟩)
theorem sc_0 : FnScope F_is_whole.N F_is_whole.ps (defScope (topS 4)) := ⟨rfl, rfl, rfl, by decide +kernel, rfl, by decide +kernel, by decide +kernel⟩
theorem cb_0 : cSs PAR F_is_whole.N (defScope (topS 4)) 60 (defBody (topS 4)) = some F_is_whole.body := by kernel_rfl
theorem sc_1 : FnScope F_shared.N F_shared.ps (defScope (topS 5)) := ⟨rfl, rfl, rfl, by decide +kernel, rfl, by decide +kernel, by decide +kernel⟩
theorem cb_1 : cSs PAR F_shared.N (defScope (topS 5)) 60 (defBody (topS 5)) = some F_shared.body := by kernel_rfl
theorem sc_2 : FnScope F_is_number.N F_is_number.ps (defScope (topS 6)) := ⟨rfl, rfl, rfl, by decide +kernel, rfl, by decide +kernel, by decide +kernel⟩
theorem cb_2 : cSs PAR F_is_number.N (defScope (topS 6)) 60 (defBody (topS 6)) = some F_is_number.body := by kernel_rfl
theorem sc_3 : FnScope F_root_text.N F_root_text.ps (defScope (topS 10)) := ⟨rfl, rfl, rfl, by decide +kernel, rfl, by decide +kernel, by decide +kernel⟩
theorem cb_3 : cSs PAR F_root_text.N (defScope (topS 10)) 60 (defBody (topS 10)) = some F_root_text.body := by kernel_rfl
theorem sc_4 : FnScope F_show_number.N F_show_number.ps (defScope (topS 11)) := ⟨rfl, rfl, rfl, by decide +kernel, rfl, by decide +kernel, by decide +kernel⟩
theorem cb_4 : cSs PAR F_show_number.N (defScope (topS 11)) 60 (defBody (topS 11)) = some F_show_number.body := by kernel_rfl
theorem sc_5 : FnScope F_whole_of.N F_whole_of.ps (defScope (topS 12)) := ⟨rfl, rfl, rfl, by decide +kernel, rfl, by decide +kernel, by decide +kernel⟩
theorem cb_5 : cSs PAR F_whole_of.N (defScope (topS 12)) 60 (defBody (topS 12)) = some F_whole_of.body := by kernel_rfl
theorem sc_6 : FnScope F_roots_of.N F_roots_of.ps (defScope (topS 13)) := ⟨rfl, rfl, rfl, by decide +kernel, rfl, by decide +kernel, by decide +kernel⟩
theorem cb_6 : cSs PAR F_roots_of.N (defScope (topS 13)) 60 (defBody (topS 13)) = some F_roots_of.body := by kernel_rfl
theorem sc_7 : FnScope F_top_of.N F_top_of.ps (defScope (topS 14)) := ⟨rfl, rfl, rfl, by decide +kernel, rfl, by decide +kernel, by decide +kernel⟩
theorem cb_7 : cSs PAR F_top_of.N (defScope (topS 14)) 60 (defBody (topS 14)) = some F_top_of.body := by kernel_rfl
theorem sc_8 : FnScope F_number_in.N F_number_in.ps (defScope (topS 15)) := ⟨rfl, rfl, rfl, by decide +kernel, rfl, by decide +kernel, by decide +kernel⟩
theorem cb_8 : cSs PAR F_number_in.N (defScope (topS 15)) 60 (defBody (topS 15)) = some F_number_in.body := by kernel_rfl
theorem sc_9 : FnScope F_number_by.N F_number_by.ps (defScope (topS 16)) := ⟨rfl, rfl, rfl, by decide +kernel, rfl, by decide +kernel, by decide +kernel⟩
theorem cb_9 : cSs PAR F_number_by.N (defScope (topS 16)) 60 (defBody (topS 16)) = some F_number_by.body := by kernel_rfl
theorem sc_10 : FnScope F_read_number.N F_read_number.ps (defScope (topS 17)) := ⟨rfl, rfl, rfl, by decide +kernel, rfl, by decide +kernel, by decide +kernel⟩
theorem cb_10 : cSs PAR F_read_number.N (defScope (topS 17)) 60 (defBody (topS 17)) = some F_read_number.body := by kernel_rfl
theorem sc_11 : FnScope F_law_bag.N F_law_bag.ps (defScope (topS 19)) := ⟨rfl, rfl, rfl, by decide +kernel, rfl, by decide +kernel, by decide +kernel⟩
theorem cb_11 : cSs PAR F_law_bag.N (defScope (topS 19)) 60 (defBody (topS 19)) = some F_law_bag.body := by kernel_rfl
theorem sc_12 : FnScope F_law_take.N F_law_take.ps (defScope (topS 20)) := ⟨rfl, rfl, rfl, by decide +kernel, rfl, by decide +kernel, by decide +kernel⟩
theorem cb_12 : cSs PAR F_law_take.N (defScope (topS 20)) 60 (defBody (topS 20)) = some F_law_take.body := by kernel_rfl
theorem sc_13 : FnScope F_law_is_whole.N F_law_is_whole.ps (defScope (topS 21)) := ⟨rfl, rfl, rfl, by decide +kernel, rfl, by decide +kernel, by decide +kernel⟩
theorem cb_13 : cSs PAR F_law_is_whole.N (defScope (topS 21)) 60 (defBody (topS 21)) = some F_law_is_whole.body := by kernel_rfl
theorem sc_14 : FnScope F_law_shared.N F_law_shared.ps (defScope (topS 22)) := ⟨rfl, rfl, rfl, by decide +kernel, rfl, by decide +kernel, by decide +kernel⟩
theorem cb_14 : cSs PAR F_law_shared.N (defScope (topS 22)) 60 (defBody (topS 22)) = some F_law_shared.body := by kernel_rfl
theorem sc_15 : FnScope F_law_low.N F_law_low.ps (defScope (topS 23)) := ⟨rfl, rfl, rfl, by decide +kernel, rfl, by decide +kernel, by decide +kernel⟩
theorem cb_15 : cSs PAR F_law_low.N (defScope (topS 23)) 60 (defBody (topS 23)) = some F_law_low.body := by kernel_rfl
theorem sc_16 : FnScope F_law_is_number.N F_law_is_number.ps (defScope (topS 24)) := ⟨rfl, rfl, rfl, by decide +kernel, rfl, by decide +kernel, by decide +kernel⟩
theorem cb_16 : cSs PAR F_law_is_number.N (defScope (topS 24)) 60 (defBody (topS 24)) = some F_law_is_number.body := by kernel_rfl
theorem sc_17 : FnScope F_law_number.N F_law_number.ps (defScope (topS 25)) := ⟨rfl, rfl, rfl, by decide +kernel, rfl, by decide +kernel, by decide +kernel⟩
theorem cb_17 : cSs PAR F_law_number.N (defScope (topS 25)) 60 (defBody (topS 25)) = some F_law_number.body := by kernel_rfl
theorem sc_18 : FnScope F_law_roots.N F_law_roots.ps (defScope (topS 26)) := ⟨rfl, rfl, rfl, by decide +kernel, rfl, by decide +kernel, by decide +kernel⟩
theorem cb_18 : cSs PAR F_law_roots.N (defScope (topS 26)) 60 (defBody (topS 26)) = some F_law_roots.body := by kernel_rfl
theorem sc_19 : FnScope F_law_text.N F_law_text.ps (defScope (topS 27)) := ⟨rfl, rfl, rfl, by decide +kernel, rfl, by decide +kernel, by decide +kernel⟩
theorem cb_19 : cSs PAR F_law_text.N (defScope (topS 27)) 60 (defBody (topS 27)) = some F_law_text.body := by kernel_rfl
theorem sc_20 : FnScope F_law_any_number.N F_law_any_number.ps (defScope (topS 28)) := ⟨rfl, rfl, rfl, by decide +kernel, rfl, by decide +kernel, by decide +kernel⟩
theorem cb_20 : cSs PAR F_law_any_number.N (defScope (topS 28)) 60 (defBody (topS 28)) = some F_law_any_number.body := by kernel_rfl
theorem sc_21 : FnScope F_law_digits.N F_law_digits.ps (defScope (topS 29)) := ⟨rfl, rfl, rfl, by decide +kernel, rfl, by decide +kernel, by decide +kernel⟩
theorem cb_21 : cSs PAR F_law_digits.N (defScope (topS 29)) 60 (defBody (topS 29)) = some F_law_digits.body := by kernel_rfl
theorem sc_22 : FnScope F_law_k47.N F_law_k47.ps (defScope (topS 30)) := ⟨rfl, rfl, rfl, by decide +kernel, rfl, by decide +kernel, by decide +kernel⟩
theorem cb_22 : cSs PAR F_law_k47.N (defScope (topS 30)) 60 (defBody (topS 30)) = some F_law_k47.body := by kernel_rfl
def TAB : List (Str × Nat) := [(Str.ofString "is_whole", (0 : Nat)), (Str.ofString "shared", (2 : Nat)), (Str.ofString "is_number", (3 : Nat)), (Str.ofString "root_text", (386 : Nat)), (Str.ofString "show_number", (387 : Nat)), (Str.ofString "whole_of", (388 : Nat)), (Str.ofString "roots_of", (389 : Nat)), (Str.ofString "top_of", (390 : Nat)), (Str.ofString "number_in", (391 : Nat)), (Str.ofString "number_by", (392 : Nat)), (Str.ofString "read_number", (393 : Nat)), (Str.ofString "_law_bag", (4 : Nat)), (Str.ofString "_law_take", (5 : Nat)), (Str.ofString "_law_is_whole", (6 : Nat)), (Str.ofString "_law_shared", (7 : Nat)), (Str.ofString "_law_low", (8 : Nat)), (Str.ofString "_law_is_number", (9 : Nat)), (Str.ofString "_law_number", (10 : Nat)), (Str.ofString "_law_roots", (394 : Nat)), (Str.ofString "_law_text", (395 : Nat)), (Str.ofString "_law_any_number", (396 : Nat)), (Str.ofString "_law_digits", (397 : Nat)), (Str.ofString "law", (398 : Nat))]
theorem tab_ok : tabOk PAR.fnm TAB = true := by decide +kernel
theorem all_mk {l : PySem.W.OpenLaw} {w : World} {K : PySem.W.Frag} {h : Heap} {mg : Str → Option Value} {fa : Addr} (L : LawTrue FNS 40 398) (X : K.In h) (G : h.Ns mainGlobals mg) (hfa : mg "law" = some (.ref fa))
    {f0 : Addr} {od0 an0 : Option Addr} {sl0 : Array (Option Value)} {oc0 kV0 dc0 pm0 cd0 ct0 : Value}
    (a0 : PySem.W.nsIn K mainGlobals "is_whole" = some (some (.ref f0))) (l0 : K.lookup f0 = some ⟨oc0, od0, .func (PySem.W.fnOf "is_whole" "is_whole" (defArgs (topS 4)) (defBody (topS 4)) (defScope (topS 4)) .none kV0 dc0 pm0 an0 cd0 ct0), sl0⟩) (c0 : PySem.W.codeIn K cd0 "is_whole" = true) (k0 : PySem.W.keepIn K (.ref f0) = true)
    {f1 : Addr} {od1 an1 : Option Addr} {sl1 : Array (Option Value)} {oc1 kV1 dc1 pm1 cd1 ct1 : Value}
    (a1 : PySem.W.nsIn K mainGlobals "shared" = some (some (.ref f1))) (l1 : K.lookup f1 = some ⟨oc1, od1, .func (PySem.W.fnOf "shared" "shared" (defArgs (topS 5)) (defBody (topS 5)) (defScope (topS 5)) .none kV1 dc1 pm1 an1 cd1 ct1), sl1⟩) (c1 : PySem.W.codeIn K cd1 "shared" = true) (k1 : PySem.W.keepIn K (.ref f1) = true)
    {f2 : Addr} {od2 an2 : Option Addr} {sl2 : Array (Option Value)} {oc2 kV2 dc2 pm2 cd2 ct2 : Value}
    (a2 : PySem.W.nsIn K mainGlobals "is_number" = some (some (.ref f2))) (l2 : K.lookup f2 = some ⟨oc2, od2, .func (PySem.W.fnOf "is_number" "is_number" (defArgs (topS 6)) (defBody (topS 6)) (defScope (topS 6)) .none kV2 dc2 pm2 an2 cd2 ct2), sl2⟩) (c2 : PySem.W.codeIn K cd2 "is_number" = true) (k2 : PySem.W.keepIn K (.ref f2) = true)
    {f3 : Addr} {od3 an3 : Option Addr} {sl3 : Array (Option Value)} {oc3 kV3 dc3 pm3 cd3 ct3 : Value}
    (a3 : PySem.W.nsIn K mainGlobals "root_text" = some (some (.ref f3))) (l3 : K.lookup f3 = some ⟨oc3, od3, .func (PySem.W.fnOf "root_text" "root_text" (defArgs (topS 10)) (defBody (topS 10)) (defScope (topS 10)) .none kV3 dc3 pm3 an3 cd3 ct3), sl3⟩) (c3 : PySem.W.codeIn K cd3 "root_text" = true) (k3 : PySem.W.keepIn K (.ref f3) = true)
    {f4 : Addr} {od4 an4 : Option Addr} {sl4 : Array (Option Value)} {oc4 kV4 dc4 pm4 cd4 ct4 : Value}
    (a4 : PySem.W.nsIn K mainGlobals "show_number" = some (some (.ref f4))) (l4 : K.lookup f4 = some ⟨oc4, od4, .func (PySem.W.fnOf "show_number" "show_number" (defArgs (topS 11)) (defBody (topS 11)) (defScope (topS 11)) .none kV4 dc4 pm4 an4 cd4 ct4), sl4⟩) (c4 : PySem.W.codeIn K cd4 "show_number" = true) (k4 : PySem.W.keepIn K (.ref f4) = true)
    {f5 : Addr} {od5 an5 : Option Addr} {sl5 : Array (Option Value)} {oc5 kV5 dc5 pm5 cd5 ct5 : Value}
    (a5 : PySem.W.nsIn K mainGlobals "whole_of" = some (some (.ref f5))) (l5 : K.lookup f5 = some ⟨oc5, od5, .func (PySem.W.fnOf "whole_of" "whole_of" (defArgs (topS 12)) (defBody (topS 12)) (defScope (topS 12)) .none kV5 dc5 pm5 an5 cd5 ct5), sl5⟩) (c5 : PySem.W.codeIn K cd5 "whole_of" = true) (k5 : PySem.W.keepIn K (.ref f5) = true)
    {f6 : Addr} {od6 an6 : Option Addr} {sl6 : Array (Option Value)} {oc6 kV6 dc6 pm6 cd6 ct6 : Value}
    (a6 : PySem.W.nsIn K mainGlobals "roots_of" = some (some (.ref f6))) (l6 : K.lookup f6 = some ⟨oc6, od6, .func (PySem.W.fnOf "roots_of" "roots_of" (defArgs (topS 13)) (defBody (topS 13)) (defScope (topS 13)) .none kV6 dc6 pm6 an6 cd6 ct6), sl6⟩) (c6 : PySem.W.codeIn K cd6 "roots_of" = true) (k6 : PySem.W.keepIn K (.ref f6) = true)
    {f7 : Addr} {od7 an7 : Option Addr} {sl7 : Array (Option Value)} {oc7 kV7 dc7 pm7 cd7 ct7 : Value}
    (a7 : PySem.W.nsIn K mainGlobals "top_of" = some (some (.ref f7))) (l7 : K.lookup f7 = some ⟨oc7, od7, .func (PySem.W.fnOf "top_of" "top_of" (defArgs (topS 14)) (defBody (topS 14)) (defScope (topS 14)) .none kV7 dc7 pm7 an7 cd7 ct7), sl7⟩) (c7 : PySem.W.codeIn K cd7 "top_of" = true) (k7 : PySem.W.keepIn K (.ref f7) = true)
    {f8 : Addr} {od8 an8 : Option Addr} {sl8 : Array (Option Value)} {oc8 kV8 dc8 pm8 cd8 ct8 : Value}
    (a8 : PySem.W.nsIn K mainGlobals "number_in" = some (some (.ref f8))) (l8 : K.lookup f8 = some ⟨oc8, od8, .func (PySem.W.fnOf "number_in" "number_in" (defArgs (topS 15)) (defBody (topS 15)) (defScope (topS 15)) .none kV8 dc8 pm8 an8 cd8 ct8), sl8⟩) (c8 : PySem.W.codeIn K cd8 "number_in" = true) (k8 : PySem.W.keepIn K (.ref f8) = true)
    {f9 : Addr} {od9 an9 : Option Addr} {sl9 : Array (Option Value)} {oc9 kV9 dc9 pm9 cd9 ct9 : Value}
    (a9 : PySem.W.nsIn K mainGlobals "number_by" = some (some (.ref f9))) (l9 : K.lookup f9 = some ⟨oc9, od9, .func (PySem.W.fnOf "number_by" "number_by" (defArgs (topS 16)) (defBody (topS 16)) (defScope (topS 16)) .none kV9 dc9 pm9 an9 cd9 ct9), sl9⟩) (c9 : PySem.W.codeIn K cd9 "number_by" = true) (k9 : PySem.W.keepIn K (.ref f9) = true)
    {f10 : Addr} {od10 an10 : Option Addr} {sl10 : Array (Option Value)} {oc10 kV10 dc10 pm10 cd10 ct10 : Value}
    (a10 : PySem.W.nsIn K mainGlobals "read_number" = some (some (.ref f10))) (l10 : K.lookup f10 = some ⟨oc10, od10, .func (PySem.W.fnOf "read_number" "read_number" (defArgs (topS 17)) (defBody (topS 17)) (defScope (topS 17)) .none kV10 dc10 pm10 an10 cd10 ct10), sl10⟩) (c10 : PySem.W.codeIn K cd10 "read_number" = true) (k10 : PySem.W.keepIn K (.ref f10) = true)
    {f11 : Addr} {od11 an11 : Option Addr} {sl11 : Array (Option Value)} {oc11 kV11 dc11 pm11 cd11 ct11 : Value}
    (a11 : PySem.W.nsIn K mainGlobals "_law_bag" = some (some (.ref f11))) (l11 : K.lookup f11 = some ⟨oc11, od11, .func (PySem.W.fnOf "_law_bag" "_law_bag" (defArgs (topS 19)) (defBody (topS 19)) (defScope (topS 19)) .none kV11 dc11 pm11 an11 cd11 ct11), sl11⟩) (c11 : PySem.W.codeIn K cd11 "_law_bag" = true) (k11 : PySem.W.keepIn K (.ref f11) = true)
    {f12 : Addr} {od12 an12 : Option Addr} {sl12 : Array (Option Value)} {oc12 kV12 dc12 pm12 cd12 ct12 : Value}
    (a12 : PySem.W.nsIn K mainGlobals "_law_take" = some (some (.ref f12))) (l12 : K.lookup f12 = some ⟨oc12, od12, .func (PySem.W.fnOf "_law_take" "_law_take" (defArgs (topS 20)) (defBody (topS 20)) (defScope (topS 20)) .none kV12 dc12 pm12 an12 cd12 ct12), sl12⟩) (c12 : PySem.W.codeIn K cd12 "_law_take" = true) (k12 : PySem.W.keepIn K (.ref f12) = true)
    {f13 : Addr} {od13 an13 : Option Addr} {sl13 : Array (Option Value)} {oc13 kV13 dc13 pm13 cd13 ct13 : Value}
    (a13 : PySem.W.nsIn K mainGlobals "_law_is_whole" = some (some (.ref f13))) (l13 : K.lookup f13 = some ⟨oc13, od13, .func (PySem.W.fnOf "_law_is_whole" "_law_is_whole" (defArgs (topS 21)) (defBody (topS 21)) (defScope (topS 21)) .none kV13 dc13 pm13 an13 cd13 ct13), sl13⟩) (c13 : PySem.W.codeIn K cd13 "_law_is_whole" = true) (k13 : PySem.W.keepIn K (.ref f13) = true)
    {f14 : Addr} {od14 an14 : Option Addr} {sl14 : Array (Option Value)} {oc14 kV14 dc14 pm14 cd14 ct14 : Value}
    (a14 : PySem.W.nsIn K mainGlobals "_law_shared" = some (some (.ref f14))) (l14 : K.lookup f14 = some ⟨oc14, od14, .func (PySem.W.fnOf "_law_shared" "_law_shared" (defArgs (topS 22)) (defBody (topS 22)) (defScope (topS 22)) .none kV14 dc14 pm14 an14 cd14 ct14), sl14⟩) (c14 : PySem.W.codeIn K cd14 "_law_shared" = true) (k14 : PySem.W.keepIn K (.ref f14) = true)
    {f15 : Addr} {od15 an15 : Option Addr} {sl15 : Array (Option Value)} {oc15 kV15 dc15 pm15 cd15 ct15 : Value}
    (a15 : PySem.W.nsIn K mainGlobals "_law_low" = some (some (.ref f15))) (l15 : K.lookup f15 = some ⟨oc15, od15, .func (PySem.W.fnOf "_law_low" "_law_low" (defArgs (topS 23)) (defBody (topS 23)) (defScope (topS 23)) .none kV15 dc15 pm15 an15 cd15 ct15), sl15⟩) (c15 : PySem.W.codeIn K cd15 "_law_low" = true) (k15 : PySem.W.keepIn K (.ref f15) = true)
    {f16 : Addr} {od16 an16 : Option Addr} {sl16 : Array (Option Value)} {oc16 kV16 dc16 pm16 cd16 ct16 : Value}
    (a16 : PySem.W.nsIn K mainGlobals "_law_is_number" = some (some (.ref f16))) (l16 : K.lookup f16 = some ⟨oc16, od16, .func (PySem.W.fnOf "_law_is_number" "_law_is_number" (defArgs (topS 24)) (defBody (topS 24)) (defScope (topS 24)) .none kV16 dc16 pm16 an16 cd16 ct16), sl16⟩) (c16 : PySem.W.codeIn K cd16 "_law_is_number" = true) (k16 : PySem.W.keepIn K (.ref f16) = true)
    {f17 : Addr} {od17 an17 : Option Addr} {sl17 : Array (Option Value)} {oc17 kV17 dc17 pm17 cd17 ct17 : Value}
    (a17 : PySem.W.nsIn K mainGlobals "_law_number" = some (some (.ref f17))) (l17 : K.lookup f17 = some ⟨oc17, od17, .func (PySem.W.fnOf "_law_number" "_law_number" (defArgs (topS 25)) (defBody (topS 25)) (defScope (topS 25)) .none kV17 dc17 pm17 an17 cd17 ct17), sl17⟩) (c17 : PySem.W.codeIn K cd17 "_law_number" = true) (k17 : PySem.W.keepIn K (.ref f17) = true)
    {f18 : Addr} {od18 an18 : Option Addr} {sl18 : Array (Option Value)} {oc18 kV18 dc18 pm18 cd18 ct18 : Value}
    (a18 : PySem.W.nsIn K mainGlobals "_law_roots" = some (some (.ref f18))) (l18 : K.lookup f18 = some ⟨oc18, od18, .func (PySem.W.fnOf "_law_roots" "_law_roots" (defArgs (topS 26)) (defBody (topS 26)) (defScope (topS 26)) .none kV18 dc18 pm18 an18 cd18 ct18), sl18⟩) (c18 : PySem.W.codeIn K cd18 "_law_roots" = true) (k18 : PySem.W.keepIn K (.ref f18) = true)
    {f19 : Addr} {od19 an19 : Option Addr} {sl19 : Array (Option Value)} {oc19 kV19 dc19 pm19 cd19 ct19 : Value}
    (a19 : PySem.W.nsIn K mainGlobals "_law_text" = some (some (.ref f19))) (l19 : K.lookup f19 = some ⟨oc19, od19, .func (PySem.W.fnOf "_law_text" "_law_text" (defArgs (topS 27)) (defBody (topS 27)) (defScope (topS 27)) .none kV19 dc19 pm19 an19 cd19 ct19), sl19⟩) (c19 : PySem.W.codeIn K cd19 "_law_text" = true) (k19 : PySem.W.keepIn K (.ref f19) = true)
    {f20 : Addr} {od20 an20 : Option Addr} {sl20 : Array (Option Value)} {oc20 kV20 dc20 pm20 cd20 ct20 : Value}
    (a20 : PySem.W.nsIn K mainGlobals "_law_any_number" = some (some (.ref f20))) (l20 : K.lookup f20 = some ⟨oc20, od20, .func (PySem.W.fnOf "_law_any_number" "_law_any_number" (defArgs (topS 28)) (defBody (topS 28)) (defScope (topS 28)) .none kV20 dc20 pm20 an20 cd20 ct20), sl20⟩) (c20 : PySem.W.codeIn K cd20 "_law_any_number" = true) (k20 : PySem.W.keepIn K (.ref f20) = true)
    {f21 : Addr} {od21 an21 : Option Addr} {sl21 : Array (Option Value)} {oc21 kV21 dc21 pm21 cd21 ct21 : Value}
    (a21 : PySem.W.nsIn K mainGlobals "_law_digits" = some (some (.ref f21))) (l21 : K.lookup f21 = some ⟨oc21, od21, .func (PySem.W.fnOf "_law_digits" "_law_digits" (defArgs (topS 29)) (defBody (topS 29)) (defScope (topS 29)) .none kV21 dc21 pm21 an21 cd21 ct21), sl21⟩) (c21 : PySem.W.codeIn K cd21 "_law_digits" = true) (k21 : PySem.W.keepIn K (.ref f21) = true)
    {f22 : Addr} {od22 an22 : Option Addr} {sl22 : Array (Option Value)} {oc22 kV22 dc22 pm22 cd22 ct22 : Value}
    (a22 : PySem.W.nsIn K mainGlobals "law" = some (some (.ref f22))) (l22 : K.lookup f22 = some ⟨oc22, od22, .func (PySem.W.fnOf "law" "law" (defArgs (topS 30)) (defBody (topS 30)) (defScope (topS 30)) .none kV22 dc22 pm22 an22 cd22 ct22), sl22⟩) (c22 : PySem.W.codeIn K cd22 "law" = true) (k22 : PySem.W.keepIn K (.ref f22) = true)
    (z0 : PySem.W.nsIn K mainGlobals "ValueError" = some none)
    (z1 : PySem.W.nsIn K mainGlobals "isinstance" = some none)
    (z2 : PySem.W.nsIn K mainGlobals "int" = some none)
    (z3 : PySem.W.nsIn K mainGlobals "bool" = some none)
    (z4 : PySem.W.nsIn K mainGlobals "abs" = some none)
    (z5 : PySem.W.nsIn K mainGlobals "tuple" = some none)
    (z6 : PySem.W.nsIn K mainGlobals "len" = some none)
    (z7 : PySem.W.nsIn K mainGlobals "all" = some none)
    (z8 : PySem.W.nsIn K mainGlobals "str" = some none)
    (z9 : PySem.W.nsIn K mainGlobals "max" = some none)
    (z10 : PySem.W.nsIn K mainGlobals "range" = some none)
    (z11 : PySem.W.nsIn K mainGlobals "min" = some none)
    {gt0 : Tok} (ng0 : PySem.W.nsIn K mainGlobals "FIGURES" = some (some (.str "0123456789" gt0)))
    {gt1 : Tok} (ng1 : PySem.W.nsIn K mainGlobals "MOST_FIGURES" = some (some (.int 40 gt1)))
    {x0 : Addr} (xa0 : PySem.W.nsIn K mainGlobals "NoText" = some (some (.ref x0))) (xb0 : PySem.W.excIn K x0 [.type "ValueError", .type "Exception", .type "BaseException", .type "object"] "ValueError.__new__" = true) (xc0 : PySem.W.keepIn K (.ref x0) = true) (xd0 : PySem.W.subIn K (.ref x0) (.type "BaseException") = some true) (xe0 : PySem.W.typeIn K (.ref x0) = some (.type "type"))
    : LamX.LawAtS l w K (L2N.CX l.prog w) (3 * 40) 63 "_law_script" mg fa h := by
  letI : Tbs := ⟨[], []⟩
  have T : TopOk PAR FNS K mg w := by
    refine top_mk tab_ok ?_ ?_ ?_ ?_ ?_ ?_
    · exact List.forall_mem_cons.mpr ⟨⟨.str _, _, PySem.W.mg_of X G ng0, ⟨_, rfl⟩, fun _ _ _ => .str _⟩, List.forall_mem_cons.mpr ⟨⟨.int _, _, PySem.W.mg_of X G ng1, ⟨_, rfl⟩, fun _ _ _ => .int _⟩, List.forall_mem_nil _⟩⟩
    · exact List.forall_mem_cons.mpr ⟨PySem.W.mg_none_of X G z0, List.forall_mem_cons.mpr ⟨PySem.W.mg_none_of X G z1, List.forall_mem_cons.mpr ⟨PySem.W.mg_none_of X G z2, List.forall_mem_cons.mpr ⟨PySem.W.mg_none_of X G z3, List.forall_mem_cons.mpr ⟨PySem.W.mg_none_of X G z4, List.forall_mem_cons.mpr ⟨PySem.W.mg_none_of X G z5, List.forall_mem_cons.mpr ⟨PySem.W.mg_none_of X G z6, List.forall_mem_cons.mpr ⟨PySem.W.mg_none_of X G z7, List.forall_mem_cons.mpr ⟨PySem.W.mg_none_of X G z8, List.forall_mem_cons.mpr ⟨PySem.W.mg_none_of X G z9, List.forall_mem_cons.mpr ⟨PySem.W.mg_none_of X G z10, List.forall_mem_cons.mpr ⟨PySem.W.mg_none_of X G z11, List.forall_mem_nil _⟩⟩⟩⟩⟩⟩⟩⟩⟩⟩⟩⟩
    · exact List.forall_mem_cons.mpr ⟨⟨x0, PySem.W.mg_of X G xa0, xb0, xc0, xd0, xe0⟩, List.forall_mem_nil _⟩
    · exact List.forall_mem_cons.mpr ⟨def_mk X G F_is_whole (topS 4) 60 rfl sc_0 (.inl cb_0) (by decide) (fun _ _ _ _ _ _ us hl => match us, hl with | [_], _ => rfl) a0 l0 c0 k0, List.forall_mem_cons.mpr ⟨def_mk X G F_shared (topS 5) 60 rfl sc_1 (.inl cb_1) (by decide) (fun _ _ _ _ _ _ us hl => match us, hl with | [_, _], _ => rfl) a1 l1 c1 k1, List.forall_mem_cons.mpr ⟨def_mk X G F_is_number (topS 6) 60 rfl sc_2 (.inl cb_2) (by decide) (fun _ _ _ _ _ _ us hl => match us, hl with | [_], _ => rfl) a2 l2 c2 k2, List.forall_mem_cons.mpr ⟨def_mk X G F_root_text (topS 10) 60 rfl sc_3 (.inl cb_3) (by decide) (fun _ _ _ _ _ _ us hl => match us, hl with | [_], _ => rfl) a3 l3 c3 k3, List.forall_mem_cons.mpr ⟨def_mk X G F_show_number (topS 11) 60 rfl sc_4 (.inl cb_4) (by decide) (fun _ _ _ _ _ _ us hl => match us, hl with | [_], _ => rfl) a4 l4 c4 k4, List.forall_mem_cons.mpr ⟨def_mk X G F_whole_of (topS 12) 60 rfl sc_5 (.inl cb_5) (by decide) (fun _ _ _ _ _ _ us hl => match us, hl with | [_], _ => rfl) a5 l5 c5 k5, List.forall_mem_cons.mpr ⟨def_mk X G F_roots_of (topS 13) 60 rfl sc_6 (.inl cb_6) (by decide) (fun _ _ _ _ _ _ us hl => match us, hl with | [_], _ => rfl) a6 l6 c6 k6, List.forall_mem_cons.mpr ⟨def_mk X G F_top_of (topS 14) 60 rfl sc_7 (.inl cb_7) (by decide) (fun _ _ _ _ _ _ us hl => match us, hl with | [_], _ => rfl) a7 l7 c7 k7, List.forall_mem_cons.mpr ⟨def_mk X G F_number_in (topS 15) 60 rfl sc_8 (.inl cb_8) (by decide) (fun _ _ _ _ _ _ us hl => match us, hl with | [_], _ => rfl) a8 l8 c8 k8, List.forall_mem_cons.mpr ⟨def_mk X G F_number_by (topS 16) 60 rfl sc_9 (.inl cb_9) (by decide) (fun _ _ _ _ _ _ us hl => match us, hl with | [_], _ => rfl) a9 l9 c9 k9, List.forall_mem_cons.mpr ⟨def_mk X G F_read_number (topS 17) 60 rfl sc_10 (.inl cb_10) (by decide) (fun _ _ _ _ _ _ us hl => match us, hl with | [_], _ => rfl) a10 l10 c10 k10, List.forall_mem_cons.mpr ⟨def_mk X G F_law_bag (topS 19) 60 rfl sc_11 (.inl cb_11) (by decide) (fun _ _ _ _ _ _ us hl => match us, hl with | [_, _], _ => rfl) a11 l11 c11 k11, List.forall_mem_cons.mpr ⟨def_mk X G F_law_take (topS 20) 60 rfl sc_12 (.inl cb_12) (by decide) (fun _ _ _ _ _ _ us hl => match us, hl with | [_, _], _ => rfl) a12 l12 c12 k12, List.forall_mem_cons.mpr ⟨def_mk X G F_law_is_whole (topS 21) 60 rfl sc_13 (.inl cb_13) (by decide) (fun _ _ _ _ _ _ us hl => match us, hl with | [_], _ => rfl) a13 l13 c13 k13, List.forall_mem_cons.mpr ⟨def_mk X G F_law_shared (topS 22) 60 rfl sc_14 (.inl cb_14) (by decide) (fun _ _ _ _ _ _ us hl => match us, hl with | [_, _], _ => rfl) a14 l14 c14 k14, List.forall_mem_cons.mpr ⟨def_mk X G F_law_low (topS 23) 60 rfl sc_15 (.inl cb_15) (by decide) (fun _ _ _ _ _ _ us hl => match us, hl with | [_, _, _], _ => rfl) a15 l15 c15 k15, List.forall_mem_cons.mpr ⟨def_mk X G F_law_is_number (topS 24) 60 rfl sc_16 (.inl cb_16) (by decide) (fun _ _ _ _ _ _ us hl => match us, hl with | [_], _ => rfl) a16 l16 c16 k16, List.forall_mem_cons.mpr ⟨def_mk X G F_law_number (topS 25) 60 rfl sc_17 (.inl cb_17) (by decide) (fun _ _ _ _ _ _ us hl => match us, hl with | [_], _ => rfl) a17 l17 c17 k17, List.forall_mem_cons.mpr ⟨def_mk X G F_law_roots (topS 26) 60 rfl sc_18 (.inl cb_18) (by decide) (fun _ _ _ _ _ _ us hl => match us, hl with | [_], _ => rfl) a18 l18 c18 k18, List.forall_mem_cons.mpr ⟨def_mk X G F_law_text (topS 27) 60 rfl sc_19 (.inl cb_19) (by decide) (fun _ _ _ _ _ _ us hl => match us, hl with | [_], _ => rfl) a19 l19 c19 k19, List.forall_mem_cons.mpr ⟨def_mk X G F_law_any_number (topS 28) 60 rfl sc_20 (.inl cb_20) (by decide) (fun _ _ _ _ _ _ us hl => match us, hl with | [_], _ => rfl) a20 l20 c20 k20, List.forall_mem_cons.mpr ⟨def_mk X G F_law_digits (topS 29) 60 rfl sc_21 (.inl cb_21) (by decide) (fun _ _ _ _ _ _ us hl => match us, hl with | [_, _], _ => rfl) a21 l21 c21 k21, List.forall_mem_cons.mpr ⟨def_mk X G F_law_k47 (topS 30) 60 rfl sc_22 (.inl cb_22) (by decide) (fun _ _ _ _ _ _ us hl => match us, hl with | [_], _ => rfl) a22 l22 c22 k22, List.forall_mem_nil _⟩⟩⟩⟩⟩⟩⟩⟩⟩⟩⟩⟩⟩⟩⟩⟩⟩⟩⟩⟩⟩⟩⟩
    · intro x hx; cases hx
    · exact List.forall_mem_nil _
  have e := hfa.symm.trans (PySem.W.mg_of X G a22)
  cases e
  exact law_at (P := PAR) (i := 398) (f := F_law_k47) (st := topS 30) (k := 60) T (List.forall_mem_nil _) (List.forall_mem_nil _) (List.forall_mem_nil _) L (by decide +kernel) rfl hfa (fun_mk (st := topS 30) l22 c22 k22) sc_22 cb_22 rfl ((fun_mk (st := topS 30) l22 c22 k22).binds (fun _ _ _ _ _ _ us hl => match us, hl with | [_], _ => rfl)) (by decide) (fun h => absurd h (by decide +kernel)) (fun s v => .of_eq rfl)
end MF
open PySem PySem.W PyProof.Rows
set_option maxHeartbeats 0 in
theorem PySem.Challenge.cw_matefloors_k47_numbers_written_holds : PySem.Challenge.rw_matefloors_k47_numbers_written.Holds := by
  w_on; o_law; k_head; (case hw => w_witness2)
  k_fill
  refine MF.walk_tabs (l := PySem.Challenge.rw_matefloors_k47_numbers_written) (n := 63) (k := 3 * 40) (x := "_law_script") (CX := fun w => L2N.CX PySem.Challenge.rw_matefloors_k47_numbers_written.prog w) rfl (by decide) rfl ⟨rfl, by decide, by decide⟩ (fun w h Y => PySem.W.kIn_of Y) ?F (fun _ _ _ _ _ h => MF.cx_no h)
  case F =>
    intro w mg fa h KX G hmg HT
    refine' MF.all_mk MF.law_true KX G hmg ?a0 ?l0 ?c0 ?k0 ?a1 ?l1 ?c1 ?k1 ?a2 ?l2 ?c2 ?k2 ?a3 ?l3 ?c3 ?k3 ?a4 ?l4 ?c4 ?k4 ?a5 ?l5 ?c5 ?k5 ?a6 ?l6 ?c6 ?k6 ?a7 ?l7 ?c7 ?k7 ?a8 ?l8 ?c8 ?k8 ?a9 ?l9 ?c9 ?k9 ?a10 ?l10 ?c10 ?k10 ?a11 ?l11 ?c11 ?k11 ?a12 ?l12 ?c12 ?k12 ?a13 ?l13 ?c13 ?k13 ?a14 ?l14 ?c14 ?k14 ?a15 ?l15 ?c15 ?k15 ?a16 ?l16 ?c16 ?k16 ?a17 ?l17 ?c17 ?k17 ?a18 ?l18 ?c18 ?k18 ?a19 ?l19 ?c19 ?k19 ?a20 ?l20 ?c20 ?k20 ?a21 ?l21 ?c21 ?k21 ?a22 ?l22 ?c22 ?k22 ?z0 ?z1 ?z2 ?z3 ?z4 ?z5 ?z6 ?z7 ?z8 ?z9 ?z10 ?z11 ?ng0 ?ng1 ?xa0 ?xb0 ?xc0 ?xd0 ?xe0
    (case a0 => k_is)
    (case l0 => k_is)
    (case c0 => k_is)
    (case k0 => k_is)
    (case a1 => k_is)
    (case l1 => k_is)
    (case c1 => k_is)
    (case k1 => k_is)
    (case a2 => k_is)
    (case l2 => k_is)
    (case c2 => k_is)
    (case k2 => k_is)
    (case a3 => k_is)
    (case l3 => k_is)
    (case c3 => k_is)
    (case k3 => k_is)
    (case a4 => k_is)
    (case l4 => k_is)
    (case c4 => k_is)
    (case k4 => k_is)
    (case a5 => k_is)
    (case l5 => k_is)
    (case c5 => k_is)
    (case k5 => k_is)
    (case a6 => k_is)
    (case l6 => k_is)
    (case c6 => k_is)
    (case k6 => k_is)
    (case a7 => k_is)
    (case l7 => k_is)
    (case c7 => k_is)
    (case k7 => k_is)
    (case a8 => k_is)
    (case l8 => k_is)
    (case c8 => k_is)
    (case k8 => k_is)
    (case a9 => k_is)
    (case l9 => k_is)
    (case c9 => k_is)
    (case k9 => k_is)
    (case a10 => k_is)
    (case l10 => k_is)
    (case c10 => k_is)
    (case k10 => k_is)
    (case a11 => k_is)
    (case l11 => k_is)
    (case c11 => k_is)
    (case k11 => k_is)
    (case a12 => k_is)
    (case l12 => k_is)
    (case c12 => k_is)
    (case k12 => k_is)
    (case a13 => k_is)
    (case l13 => k_is)
    (case c13 => k_is)
    (case k13 => k_is)
    (case a14 => k_is)
    (case l14 => k_is)
    (case c14 => k_is)
    (case k14 => k_is)
    (case a15 => k_is)
    (case l15 => k_is)
    (case c15 => k_is)
    (case k15 => k_is)
    (case a16 => k_is)
    (case l16 => k_is)
    (case c16 => k_is)
    (case k16 => k_is)
    (case a17 => k_is)
    (case l17 => k_is)
    (case c17 => k_is)
    (case k17 => k_is)
    (case a18 => k_is)
    (case l18 => k_is)
    (case c18 => k_is)
    (case k18 => k_is)
    (case a19 => k_is)
    (case l19 => k_is)
    (case c19 => k_is)
    (case k19 => k_is)
    (case a20 => k_is)
    (case l20 => k_is)
    (case c20 => k_is)
    (case k20 => k_is)
    (case a21 => k_is)
    (case l21 => k_is)
    (case c21 => k_is)
    (case k21 => k_is)
    (case a22 => k_is)
    (case l22 => k_is)
    (case c22 => k_is)
    (case k22 => k_is)
    (case z0 => k_is)
    (case z1 => k_is)
    (case z2 => k_is)
    (case z3 => k_is)
    (case z4 => k_is)
    (case z5 => k_is)
    (case z6 => k_is)
    (case z7 => k_is)
    (case z8 => k_is)
    (case z9 => k_is)
    (case z10 => k_is)
    (case z11 => k_is)
    (case ng0 => k_is)
    (case ng1 => k_is)
    (case xa0 => k_is)
    (case xb0 => k_exc)
    (case xc0 => k_is)
    (case xd0 => k_is)
    (case xe0 => k_is)

