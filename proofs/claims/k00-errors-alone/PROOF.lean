import PyProof.Rows.All
import Wide.All
import OpenK.AllK
import Wide.FinOn
import PySem.Str
import HandS.Base
import HandS.Call
import HandS.List
import HandS.Comp
import HandS.Dict
import HandS.Iter
import HandS.Text
import HandS.Exc
import HandS.ExcOwn
import HandS.TryMany
import HandS.IsInst
import HandS.ExcInit
import HandS.ExcField
import HandS.Conv
import HandS.TupAny
import HandS.Style
import HandS.TupLe
import PyProof.EqAt
import PyProof.EqKinds
import PyProof.NeKinds
import HandS.Wide
import HandS.TupMul
import HandS.Defaults
import HandS.HeadHook4
import HandS.HeadEnd
import HandS.Words
import HandS.WordsExc
import HandS.Head2
import HandS.Head0
import HandS.Head1
import KE.KStateDown
import PySem.Challenge.RW_bestterms_k00_errors_alone
set_option linter.all false
set_option autoImplicit false
/-! Dee: data, programs over data, and what such a program wants (a plain small language; no model of Python in sight). -/
namespace Dee
open PySem

/-- data: what a value is, with all that hangs below it; `ref` is something that may still change -/
inductive D where
  | non | bl (b : Bool) | int (i : Int) | str (s : Str)
  | tup (xs : List D) | lst (xs : List D) | dct (t : Bool) (kvs : List (D × D)) | obj (C : String) (fs : List (String × D))
  | ref (a : Nat)
  | clo (l : Nat) (σ : List (Option D))
noncomputable instance : DecidableEq D := fun _ _ => Classical.propDecidable _
instance : Inhabited D := ⟨.non⟩

abbrev Env := List (Option D)
/-- what may still change -/
inductive MO where
  | lst (xs : List D) | dct (t : Bool) (kvs : List (D × D)) | ins (C : String) (fs : List (String × D))
abbrev Mem := Nat → Option MO
structure Exn where
  C : String
  fs : List (String × D)
def up (M : Mem) (a : Nat) (o : MO) : Mem := fun b => if b = a then some o else M b
def del (M : Mem) (a : Nat) : Mem := fun b => if b = a then none else M b
def MO.ice : MO → D
  | .lst xs => .lst xs | .dct t kvs => .dct t kvs | .ins C fs => .obj C fs

/-! ### the language -/
inductive Bop where | add | sub | mul | fdiv | mod | pow
  deriving DecidableEq
inductive Cop where | eq | ne | lt | le | gt | ge | isin | notin
  deriving DecidableEq
inductive Bi where | len | abs | int | str | list | tuple | dict | all | any | sum | max2 | min2 | max1 | min1 | sorted | lenset | sortset
  deriving DecidableEq
inductive Mt where | append | extend | pop | get | index | count | join | split
  deriving DecidableEq
inductive Ty where | int | bool | str | tuple | list | dict
  deriving DecidableEq
inductive Ik where | seq | rng | enm | zip
  deriving DecidableEq
inductive Tg where | nm (i : Nat) | tu (ts : List Tg)
inductive Ex where
  | var (i : Nat) | int (i : Int) | str (s : Str) | bl (b : Bool) | non | glb (x : String)
  | tup (es : List Ex) | lst (m : Bool) (es : List Ex) | dnew (m t : Bool) (kvs : List (Ex × Ex))
  | bin (o : Bop) (a b : Ex) | neg (a : Ex)
  | cmp (o : Cop) (a b : Ex) | chain (o o' : Cop) (a b c : Ex) | isN (n : Bool) (a : Ex)
  | and (es : List Ex) | or (es : List Ex) | not (a : Ex) | ifx (c a b : Ex)
  | sub (a i : Ex) | slc (a : Ex) (lo hi : Option Ex) | rev (a : Ex) | fld (a : Ex) (f : String)
  | call (f : Nat) (es : List Ex) | mk (C : String) (es : List Ex)
  | bi (b : Bi) (m : Bool) (es : List Ex) | mth (m : Mt) (a : Ex) (es : List Ex) | omth (C : String) (f : Nat) (a : Ex) (es : List Ex)
  | isi (a : Ex) (ts : List Ty)
  | comp (m : Bool) (e : Ex) (t : Tg) (k : Ik) (es : List Ex) (c : List Ex)
  | lam (l : Nat) | clo (i : Nat)
  | xfld (f : String) | xisi
  | fstr (es : List Ex)
inductive St where
  | asg (t : Tg) (e : Ex) | asub (o i e : Ex) | afld (o : Ex) (f : String) (e : Ex)
  | aug (i : Nat) (op : Bop) (e : Ex) | augs (o i : Ex) (op : Bop) (e : Ex) | augf (o : Ex) (f : String) (op : Bop) (e : Ex)
  | expr (e : Ex) | ret (e : Ex) | retN
  | ifs (c : Ex) (a b : List St)
  | for (t : Tg) (k : Ik) (es : List Ex) (b : List St) | whl (c : Ex) (b : List St) | brk | cont | pass
  | raise (C : String) (es : List Ex)
  | try (b : List St) (hs : List (String × Option Nat × List St))
  | frz (i : Nat)

/-! ### by values -/
def lk : Env → Nat → Option D
  | [], _ => none
  | x :: _, 0 => x
  | _ :: σ, i + 1 => lk σ i
/-- a number as such: True is 1 -/
def b2i (b : Bool) : Int := if b then 1 else 0
mutual
/-- how deep a thing is -/
def D.dep : D → Nat
  | .tup xs => depL xs + 1 | .lst xs => depL xs + 1
  | .non => 0 | .bl _ => 0 | .int _ => 0 | .str _ => 0 | .dct _ _ => 1000 | .obj _ _ => 1000 | .ref _ => 1000 | .clo _ _ => 1000
def depL : List D → Nat
  | [] => 0
  | x :: xs => max x.dep (depL xs)
end
mutual
/-- Python's == on data -/
def peq : D → D → Bool
  | .non, y => match y with | .non => true | _ => false
  | .bl a, y => match y with | .bl b => a == b | .int j => b2i a == j | _ => false
  | .int i, y => match y with | .int j => i == j | .bl b => i == b2i b | _ => false
  | .str s, y => match y with | .str t => s == t | _ => false
  | .tup xs, y => match y with | .tup ys => peqL xs ys | _ => false
  | .lst xs, y => match y with | .lst ys => peqL xs ys | _ => false
  | .dct _ _, _ => false | .obj _ _, _ => false | .ref _, _ => false | .clo _ _, _ => false
def peqL : List D → List D → Bool
  | [], ys => match ys with | [] => true | _ :: _ => false
  | x :: xs, ys => match ys with | [] => false | y :: ys => peq x y && peqL xs ys
end
mutual
/-- Python's < on data of one shape (numbers, texts, tuples of such) -/
def plt : D → D → Option Bool
  | .int i, y => match y with | .int j => some (decide (i < j)) | _ => none
  | .str s, y => match y with | .str t => some (decide (s.cps.toList < t.cps.toList)) | _ => none
  | .tup xs, y => match y with | .tup ys => pltL xs ys | _ => none
  | .non, _ => none | .bl _, _ => none | .lst _, _ => none | .dct _ _, _ => none | .obj _ _, _ => none | .ref _, _ => none | .clo _ _, _ => none
def pltL : List D → List D → Option Bool
  | [], ys => match ys with | [] => some false | _ :: _ => some true
  | x :: xs, ys => match ys with | [] => some false | y :: ys => match pltL xs ys with | none => none | some r => if peq x y then some r else plt x y
end
/-- an item's place, from the front or from the back -/
def ixN (n : Nat) (i : Int) : Option Nat := if 0 ≤ i then (if i < n then some i.toNat else none) else if -(n : Int) ≤ i then some (i + n).toNat else none
/-- a slice's end -/
def sIx (n d : Nat) : Option Int → Nat
  | none => d
  | some i => if i < 0 then (i + n).toNat else min i.toNat n
def cutL {α : Type} (xs : List α) (lo hi : Option Int) : List α := (xs.drop (sIx xs.length 0 lo)).take (sIx xs.length xs.length hi - sIx xs.length 0 lo)
def flatK : D → Bool | .int _ => true | .str _ => true | _ => false
def isKey (t : Bool) (d : D) : Bool := match d with
  | .int _ => !t
  | .str _ => !t
  | .tup xs => t && xs.all flatK
  | _ => false
noncomputable def look (kvs : List (D × D)) (k : D) : Option D := (kvs.find? fun p => decide (p.1 = k)).map (·.2)
noncomputable def put (kvs : List (D × D)) (k v : D) : List (D × D) := if (look kvs k).isSome then kvs.map fun p => if p.1 = k then (p.1, v) else p else kvs ++ [(k, v)]
noncomputable def putAll (kvs ps : List (D × D)) : List (D × D) := ps.foldl (fun acc p => put acc p.1 p.2) kvs
noncomputable def lookF (fs : List (String × D)) (f : String) : Option D := fs.lookup f
/-- a field stored: in its place, or behind -/
def putF (fs : List (String × D)) (f : String) (v : D) : List (String × D) := match fs with
  | [] => [(f, v)]
  | p :: r => if p.1 = f then (f, v) :: r else p :: putF r f v

/-- the items of a list or a tuple -/
def seqM (M : Mem) : D → Option (List D)
  | .tup xs => some xs
  | .lst xs => some xs
  | .ref a => match M a with | some (.lst xs) => some xs | _ => none
  | _ => none
def dctM (M : Mem) : D → Option (Bool × List (D × D))
  | .dct t kvs => some (t, kvs)
  | .ref a => match M a with | some (.dct t kvs) => some (t, kvs) | _ => none
  | _ => none
def insM (M : Mem) : D → Option (String × List (String × D))
  | .obj C fs => some (C, fs)
  | .ref a => match M a with | some (.ins C fs) => some (C, fs) | _ => none
  | _ => none
/-- a list that may still change is read as one that may not -/
def iceL (M : Mem) (d : D) : D := match d with
  | .ref a => match M a with | some (.lst xs) => .lst xs | _ => d
  | _ => d

abbrev K := D → Mem → Prop
abbrev KX := Exn → Mem → Prop
/-- a new list: one that may change, or not -/
def newL (m : Bool) (xs : List D) (M : Mem) (Q : K) : Prop := if m then ∀ a, M a = none → Q (.ref a) (up M a (.lst xs)) else Q (.lst xs) M
def newD (m t : Bool) (kvs : List (D × D)) (M : Mem) (Q : K) : Prop := if m then ∀ a, M a = none → Q (.ref a) (up M a (.dct t kvs)) else Q (.dct t kvs) M

def line : Nat := 2 ^ 24
/-- with what is there -/
def ob {α : Type} (o : Option α) (f : α → Prop) : Prop := match o with | some a => f a | none => False
def on1 (ds : List D) (f : D → Prop) : Prop := match ds with | [d] => f d | _ => False
def on2 (ds : List D) (f : D → D → Prop) : Prop := match ds with | [d, e] => f d e | _ => False
def onI (d : D) (f : Int → Prop) : Prop := match d with | .int i => f i | _ => False
def onS (d : D) (f : Str → Prop) : Prop := match d with | .str i => f i | _ => False
def onR (d : D) (f : Nat → Prop) : Prop := match d with | .ref i => f i | _ => False
def isTup : D → Bool | .tup _ => true | _ => false
def isStr : D → Bool | .str _ => true | _ => false
/-- what stands in memory: a list, a dict, an instance -/
def atL (M : Mem) (a : Nat) : Option (List D) := match M a with | some (.lst xs) => some xs | _ => none
def atD (M : Mem) (a : Nat) : Option (Bool × List (D × D)) := match M a with | some (.dct t kvs) => some (t, kvs) | _ => none
def atN (M : Mem) (a : Nat) : Option (String × List (String × D)) := match M a with | some (.ins C fs) => some (C, fs) | _ => none
def catop (a b : D) (M : Mem) (Q : K) : Prop :=
  (isTup a = false ∧ isTup b = false) ∧ ob (seqM M a) fun xs => ob (seqM M b) fun ys => xs.length + ys.length ≤ line ∧ Q (.lst (xs ++ ys)) M
def binop (o : Bop) (a b : D) (M : Mem) (Q : K) : Prop := match o with
  | .add => match a, b with
    | .int i, .int j => Q (.int (i + j)) M
    | .str s, .str t => s.length + t.length ≤ line ∧ Q (.str (s ++ t)) M
    | .tup xs, .tup ys => xs.length + ys.length ≤ line ∧ Q (.tup (xs ++ ys)) M
    | a, b => catop a b M Q
  | .sub => onI a fun i => onI b fun j => Q (.int (i - j)) M
  | .mul => match a with
    | .lst xs => onI b fun j => (0 ≤ j ∧ j ≤ line ∧ xs.length * j.toNat ≤ line) ∧ Q (.lst (List.replicate j.toNat xs).flatten) M
    | a => onI a fun i => onI b fun j => (i.natAbs < 2 ^ 100000 ∧ j.natAbs < 2 ^ 100000) ∧ Q (.int (i * j)) M
  | .fdiv => onI a fun i => onI b fun j => (0 < j ∧ j < 1073741824) ∧ Q (.int (i / j)) M
  | .mod => onI a fun i => onI b fun j => 0 < j ∧ Q (.int (i % j)) M
  | .pow => onI a fun i => onI b fun j => (0 ≤ j ∧ j ≤ 1000 ∧ i.natAbs < 2 ^ 64) ∧ Q (.int (i ^ j.toNat)) M
/-- one sign -/
def onC (d : D) (f : Nat → Prop) : Prop := match d with | .str t => (match t.cps.toList with | [c] => f c | _ => False) | _ => False
/-- x in y -/
noncomputable def inop (a b : D) (M : Mem) (Q : Bool → Prop) : Prop := match b with
  | .str s => onC a fun c => Q (decide (c ∈ s.cps.toList))
  | b => match dctM M b with
    | some p => isKey p.1 a = true ∧ Q (look p.2 a).isSome
    | none => ob (seqM M b) fun xs => (a.dep ≤ 60 ∧ depL xs ≤ 60) ∧ Q (xs.any fun x => peq x a)
/-- comparisons that give True or False -/
noncomputable def cmpop (o : Cop) (a b : D) (M : Mem) (Q : Bool → Prop) : Prop := match o with
  | .eq => ((iceL M a).dep ≤ 60 ∧ (iceL M b).dep ≤ 60) ∧ Q (peq (iceL M a) (iceL M b))
  | .ne => ((iceL M a).dep ≤ 60 ∧ (iceL M b).dep ≤ 60) ∧ Q (!peq (iceL M a) (iceL M b))
  | .lt => (a.dep ≤ 60 ∧ b.dep ≤ 60) ∧ ob (plt a b) Q
  | .le => onI a fun i => onI b fun j => Q (decide (i ≤ j))
  | .gt => onI a fun i => onI b fun j => Q (decide (j < i))
  | .ge => onI a fun i => onI b fun j => Q (decide (j ≤ i))
  | .isin => inop a b M Q
  | .notin => inop a b M fun r => Q (!r)
/-- o[i] -/
noncomputable def subop (o i : D) (M : Mem) (Q : D → Prop) : Prop := match dctM M o with
  | some p => isKey p.1 i = true ∧ ob (look p.2 i) Q
  | none => match o with
    | .str s => onI i fun k => ob (ixN s.cps.toList.length k) fun j => ob s.cps.toList[j]? fun c => s.length ≤ line ∧ Q (.str ⟨#[c]⟩)
    | o => onI i fun k => ob (seqM M o) fun xs => ob (ixN xs.length k) fun j => ob xs[j]? Q
/-- o[lo:hi] -/
def slcop (o : D) (l h : Option Int) (M : Mem) (Q : D → Prop) : Prop := match o with
  | .str s => s.length ≤ line ∧ Q (.str ⟨(cutL s.cps.toList l h).toArray⟩)
  | .tup xs => Q (.tup (cutL xs l h))
  | o => ob (seqM M o) fun xs => Q (.lst (cutL xs l h))
/-- o[::-1] -/
def revop (o : D) (M : Mem) (Q : D → Prop) : Prop := match o with
  | .tup xs => Q (.tup xs.reverse)
  | o => ob (seqM M o) fun xs => Q (.lst xs.reverse)
noncomputable def fldop (o : D) (f : String) (M : Mem) (Q : D → Prop) : Prop := ob (insM M o) fun p => ob (lookF p.2 f) Q
def tyOf (M : Mem) : D → Option Ty
  | .bl _ => some .bool | .int _ => some .int | .str _ => some .str | .tup _ => some .tuple | .lst _ => some .list | .dct false _ => some .dict
  | .ref a => match M a with | some (.lst _) => some .list | some (.dct _ _) => some .dict | _ => none
  | _ => none
def isiop (ts : List Ty) (M : Mem) (d : D) (Q : Bool → Prop) : Prop := match d with
  | .non => Q false
  | d => ob (tyOf M d) fun t => Q (ts.any fun x => x == t || (x == .int && t == .bool))
def dInts : List D → Option (List Int)
  | [] => some []
  | .int i :: r => (dInts r).map (i :: ·)
  | _ => none
def dBools : List D → Option (List Bool)
  | [] => some []
  | .bl i :: r => (dBools r).map (i :: ·)
  | _ => none
def dTexts : List D → Option (List Str)
  | [] => some []
  | .str i :: r => (dTexts r).map (i :: ·)
  | _ => none
def dPairs : List D → Option (List (D × D))
  | [] => some []
  | .tup [a, b] :: r => (dPairs r).map ((a, b) :: ·)
  | _ => none
/-- the first of each, in the order of coming -/
noncomputable def firsts : List D → List D → List D
  | acc, [] => acc
  | acc, x :: xs => if x ∈ acc then firsts acc xs else firsts (acc ++ [x]) xs
/-- sorted: put in by < -/
noncomputable def insD (x : D) : List D → List D
  | [] => [x]
  | y :: ys => if plt y x = some true ∨ peq y x = true then y :: insD x ys else x :: y :: ys
noncomputable def sortD : List D → List D
  | [] => []
  | x :: xs => insD x (sortD xs)
/-- what sorting wants: any two things are ordered -/
def Sortable (xs : List D) : Prop := depL xs ≤ 60 ∧ ∀ x ∈ xs, ∀ y ∈ xs, (plt x y).isSome
def strOf (c : Nat) : D := .str ⟨#[c]⟩
def rngF (j : Int) : List D := (List.range j.toNat).map fun n => .int (n : Nat)
def rngA (i j : Int) : List D := (List.range (j - i).toNat).map fun n => .int (i + (n : Nat))
def rngB (i j : Int) : List D := (List.range (i - j).toNat).map fun n => .int (i - (n : Nat))
def enmL (xs : List D) : List D := xs.zipIdx.map fun p => .tup [.int p.2, p.1]
def zipL (xs ys : List D) : List D := (xs.zip ys).map fun p => .tup [p.1, p.2]
/-- the items of what is not to change -/
def still : D → Option (List D)
  | .str s => if s.length ≤ line then some (s.cps.toList.map strOf) else none
  | .tup xs => some xs
  | .lst xs => some xs
  | _ => none
def stillS : D → Option (Bool × List D)
  | .tup xs => some (true, xs)
  | .lst xs => some (false, xs)
  | _ => none
/-- what is walked -/
def itop (k : Ik) (ds : List D) (Q : List D → Prop) : Prop := match k with
  | .seq => on1 ds fun d => ob (still d) Q
  | .rng => match ds with
    | [a] => onI a fun j => (-(2 ^ 60) ≤ j ∧ j ≤ line) ∧ Q (rngF j)
    | [a, b] => onI a fun i => onI b fun j => (-(2 ^ 60) ≤ i ∧ i ≤ 2 ^ 60 ∧ -(2 ^ 60) ≤ j ∧ j ≤ 2 ^ 60 ∧ j - i ≤ line) ∧ Q (rngA i j)
    | [a, b, c] => onI a fun i => onI b fun j => onI c fun k => (k = -1 ∧ -(2 ^ 60) ≤ i ∧ i ≤ 2 ^ 60 ∧ -(2 ^ 60) ≤ j ∧ j ≤ 2 ^ 60 ∧ i - j ≤ line) ∧ Q (rngB i j)
    | _ => False
  | .enm => on1 ds fun d => ob (stillS d) fun p => Q (enmL p.2)
  | .zip => on2 ds fun a b => ob (stillS a) fun p => ob (stillS b) fun q => p.1 = q.1 ∧ Q (zipL p.2 q.2)
/-- the items as numbers .. -/
def lsI (M : Mem) (d : D) (f : List Int → Prop) : Prop := isTup d = false ∧ ob (seqM M d) fun xs => ob (dInts xs) f
def lsB (M : Mem) (d : D) (f : List Bool → Prop) : Prop := isTup d = false ∧ ob (seqM M d) fun xs => ob (dBools xs) f
def lsS (M : Mem) (d : D) (f : List Str → Prop) : Prop := ob (seqM M d) fun xs => ob (dTexts xs) f
noncomputable def biop (b : Bi) (m : Bool) (ds : List D) (M : Mem) (Q : K) : Prop := match b with
  | .len => on1 ds fun d => match d with
    | .str s => s.length ≤ line ∧ Q (.int s.length) M
    | d => match dctM M d with
      | some p => p.1 = false ∧ Q (.int p.2.length) M
      | none => ob (seqM M d) fun xs => Q (.int xs.length) M
  | .abs => on1 ds fun d => onI d fun i => Q (.int (if i < 0 then -i else i)) M
  | .int => on1 ds fun d => onI d fun i => Q (.int i) M
  | .str => on1 ds fun d => onI d fun i => i.natAbs.log2 < 1920 ∧ Q (.str (toString i)) M
  | .list => on1 ds fun d => match dctM M d with
      | some _ => False
      | none => ob (seqM M d) fun xs => newL m xs M Q
  | .tuple => on1 ds fun d => ob (seqM M d) fun xs => Q (.tup xs) M
  | .dict => on1 ds fun d => match dctM M d with
      | some _ => False
      | none => isTup d = false ∧ ob (seqM M d) fun xs => ob (dPairs xs) fun ps => (∀ p ∈ ps, isKey false p.1 = true) ∧ newD m false (putAll [] ps) M Q
  | .all => on1 ds fun d => lsB M d fun bs => Q (.bl (bs.all id)) M
  | .any => on1 ds fun d => lsB M d fun bs => Q (.bl (bs.any id)) M
  | .sum => on1 ds fun d => lsI M d fun ns => Q (.int ns.sum) M
  | .max2 => on2 ds fun a b => onI a fun i => onI b fun j => Q (.int (if j > i then j else i)) M
  | .min2 => on2 ds fun a b => onI a fun i => onI b fun j => Q (.int (if j < i then j else i)) M
  | .max1 => on1 ds fun d => lsI M d fun ns => 0 < ns.length ∧ ∀ k, k ∈ ns → (∀ y, y ∈ ns → y ≤ k) → Q (.int k) M
  | .min1 => on1 ds fun d => lsI M d fun ns => 0 < ns.length ∧ ∀ k, k ∈ ns → (∀ y, y ∈ ns → k ≤ y) → Q (.int k) M
  | .sorted => on1 ds fun d => ob (seqM M d) fun xs => Sortable xs ∧ newL m (sortD xs) M Q
  | .lenset => on1 ds fun d => ob (seqM M d) fun xs => (∃ t, xs.all (isKey t) = true) ∧ Q (.int (firsts [] xs).length) M
  | .sortset => on1 ds fun d => ob (seqM M d) fun xs => Sortable xs ∧ newL m (sortD (firsts [] xs)) M Q
noncomputable def mthop (x : Mt) (o : D) (ds : List D) (M : Mem) (Q : K) : Prop := match x with
  | .append => onR o fun a => ob (atL M a) fun xs => on1 ds fun d => xs.length < line ∧ Q .non (up M a (.lst (xs ++ [d])))
  | .extend => onR o fun a => ob (atL M a) fun xs => on1 ds fun d => ob (seqM M d) fun ys => (∀ b, d = .ref b → b ≠ a) ∧ xs.length + ys.length ≤ line ∧ Q .non (up M a (.lst (xs ++ ys)))
  | .pop => onR o fun a => ob (atL M a) fun xs => ds = [] ∧ ob xs.getLast? fun v => Q v (up M a (.lst xs.dropLast))
  | .get => ob (dctM M o) fun p => on2 ds fun k d => isKey p.1 k = true ∧ Q ((look p.2 k).getD d) M
  | .index => ob (seqM M o) fun xs => on1 ds fun d => (d.dep ≤ 60 ∧ depL xs ≤ 60) ∧ ob (xs.findIdx? fun x => peq x d) fun j => Q (.int j) M
  | .count => on1 ds fun d => match o with
    | .tup xs => (d.dep ≤ 60 ∧ depL xs ≤ 60) ∧ Q (.int (xs.countP fun x => peq x d)) M
    | _ => False
  | .join => onS o fun s => on1 ds fun d => lsS M d fun ts =>
      (ts.map (·.length)).sum + ts.length * s.length ≤ 16777216 ∧ Q (.str (Str.join s ts)) M
  | .split => False

/-- that there is such a method -/
def mtIs (x : Mt) (o : D) (M : Mem) : Prop := match x with
  | .get => (dctM M o).isSome = true
  | .count => isTup o = true
  | .join => isStr o = true
  | .split => isStr o = true
  | _ => isTup o = false ∧ (seqM M o).isSome = true

/-- where a target's values go -/
def onT (d : D) (f : List D → Prop) : Prop := match d with | .tup xs => f xs | _ => False
mutual
def wTg : Tg → D → Env → (Env → Prop) → Prop
  | .nm i, d, σ, Q => Q (σ.set i (some d))
  | .tu ts, d, σ, Q => onT d fun xs => wTgs ts xs σ Q
def wTgs : List Tg → List D → Env → (Env → Prop) → Prop
  | [], xs, σ, Q => (match xs with | [] => Q σ | _ :: _ => False)
  | t :: ts, xs, σ, Q => (match xs with | [] => False | x :: xs => wTg t x σ fun σ1 => wTgs ts xs σ1 Q)
end

mutual
def tgSlots : Tg → List Nat
  | .nm i => [i]
  | .tu ts => tgsSlots ts
def tgsSlots : List Tg → List Nat
  | [] => []
  | t :: ts => tgSlots t ++ tgsSlots ts
end
def wipeD (σ : Env) : List Nat → Env
  | [] => σ
  | v :: vs => (wipeD σ vs).set v none
/-- what calls do -/
structure Sem where
  call : Nat → List D → Mem → K → KX → Prop
  init : Nat → List D → Mem → K → KX → Prop
  lam : Nat → Env → Mem → K → KX → Prop
  glo : String → Option D
  ini : String → Option Nat
  xf : String → Option (List String)
  sub : String → String → Bool
  cur : Option Exn

/-- the turns of a comprehension -/
def lcL (turn : D → Mem → (Option D → Mem → Prop) → Prop) (Q : List D → Mem → Prop) : List D → List D → Mem → Prop
  | [], acc, M => Q acc M
  | x :: xs, acc, M => turn x M fun r M1 => match r with | some y => lcL turn Q xs (acc ++ [y]) M1 | none => lcL turn Q xs acc M1
/-- the turns of a for -/
def forL (turn : D → Env → Mem → (Env → Mem → Prop) → Prop) (Q : Env → Mem → Prop) : List D → Env → Mem → Prop
  | [], σ, M => Q σ M
  | x :: xs, σ, M => turn x σ M fun σ1 M1 => forL turn Q xs σ1 M1
/-- at most so many turns of a while -/
def whlL (test : Env → Mem → (Bool → Mem → Prop) → Prop) (turn : Env → Mem → (Env → Mem → Prop) → Prop) (Q : Env → Mem → Prop) : Nat → Env → Mem → Prop
  | 0, _, _ => False
  | n + 1, σ, M => test σ M fun b M1 => if b then turn σ M1 fun σ2 M2 => whlL test turn Q n σ2 M2 else Q σ M1
def asB (Q : Bool → Mem → Prop) : K := fun d M => match d with | .bl b => Q b M | _ => False

mutual
noncomputable def wE (F : Sem) : Ex → Env → Mem → K → KX → Prop
  | .var i, σ, M, Q, _ => ob (lk σ i) fun d => Q d M
  | .int i, _, M, Q, _ => Q (.int i) M
  | .str s, _, M, Q, _ => Q (.str s) M
  | .bl b, _, M, Q, _ => Q (.bl b) M
  | .non, _, M, Q, _ => Q .non M
  | .glb x, _, M, Q, _ => ob (F.glo x) fun d => Q d M
  | .tup es, σ, M, Q, E => wEs F es σ M (fun ds M1 => Q (.tup ds) M1) E
  | .lst m es, σ, M, Q, E => wEs F es σ M (fun ds M1 => newL m ds M1 Q) E
  | .dnew m t kvs, σ, M, Q, E => wKv F kvs σ M (fun ps M1 => (∀ p ∈ ps, isKey t p.1 = true) ∧ newD m t (putAll [] ps) M1 Q) E
  | .bin o a b, σ, M, Q, E => wE F a σ M (fun x M1 => wE F b σ M1 (fun y M2 => binop o x y M2 Q) E) E
  | .neg a, σ, M, Q, E => wE F a σ M (fun x M1 => onI x fun i => Q (.int (-i)) M1) E
  | .cmp o a b, σ, M, Q, E => wE F a σ M (fun x M1 => wE F b σ M1 (fun y M2 => cmpop o x y M2 (fun r => Q (.bl r) M2)) E) E
  | .chain o o' a b c, σ, M, Q, E => wE F a σ M (fun x M1 => wE F b σ M1 (fun y M2 => cmpop o x y M2 (fun r => if r then wE F c σ M2 (fun z M3 => cmpop o' y z M3 (fun r => Q (.bl r) M3)) E else Q (.bl false) M2)) E) E
  | .isN n a, σ, M, Q, E => wE F a σ M (fun x M1 => Q (.bl (if x = .non then !n else n)) M1) E
  | .and es, σ, M, Q, E => wAnd F es σ M Q E
  | .or es, σ, M, Q, E => wOr F es σ M Q E
  | .not a, σ, M, Q, E => wE F a σ M (asB fun b M1 => Q (.bl (!b)) M1) E
  | .ifx c a b, σ, M, Q, E => wE F c σ M (asB fun r M1 => if r then wE F a σ M1 Q E else wE F b σ M1 Q E) E
  | .sub a i, σ, M, Q, E => wE F a σ M (fun x M1 => wE F i σ M1 (fun y M2 => subop x y M2 fun v => Q v M2) E) E
  | .slc a lo hi, σ, M, Q, E => wE F a σ M (fun x M1 => wO F lo σ M1 (fun l M2 => wO F hi σ M2 (fun h M3 => slcop x l h M3 fun v => Q v M3) E) E) E
  | .rev a, σ, M, Q, E => wE F a σ M (fun x M1 => revop x M1 fun v => Q v M1) E
  | .fld a f, σ, M, Q, E => wE F a σ M (fun x M1 => fldop x f M1 fun v => Q v M1) E
  | .call f es, σ, M, Q, E => wEs F es σ M (fun ds M1 => F.call f ds M1 Q E) E
  | .mk C es, σ, M, Q, E => wEs F es σ M (fun ds M1 => ob (F.ini C) fun f => ∀ a, M1 a = none → F.init f (.ref a :: ds) (up M1 a (.ins C [])) (fun r M2 => r = .non ∧ Q (.ref a) M2) E) E
  | .bi b m es, σ, M, Q, E => wEs F es σ M (fun ds M1 => biop b m ds M1 Q) E
  | .mth x a es, σ, M, Q, E => wE F a σ M (fun o M1 => mtIs x o M1 ∧ wEs F es σ M1 (fun ds M2 => mthop x o ds M2 Q) E) E
  | .omth C f a es, σ, M, Q, E => wE F a σ M (fun o M1 => (∃ fs, insM M1 o = some (C, fs)) ∧ wEs F es σ M1 (fun ds M2 => F.call f (o :: ds) M2 Q E) E) E
  | .isi a ts, σ, M, Q, E => wE F a σ M (fun x M1 => isiop ts M1 x fun b => Q (.bl b) M1) E
  | .comp m e t k es c, σ, M, Q, E => wEs F es σ M (fun ds M1 => itop k ds fun xs =>
      lcL (fun x M R => wTg t x (wipeD σ (tgSlots t)) fun σ1 => wCs F c σ1 M (fun b M2 => if b then wE F e σ1 M2 (fun y M3 => R (some y) M3) (fun _ _ => False) else R none M2) (fun _ _ => False))
        (fun acc M2 => newL m acc M2 Q) xs [] M1) E
  | .lam l, σ, M, Q, _ => Q (.clo l σ) M
  | .clo i, σ, M, Q, E => match lk σ i with | some (.clo l ρ) => F.lam l ρ M Q E | _ => False
  | .xfld f, _, M, Q, _ => ob F.cur fun e => ob (F.xf e.C) fun fs => f ∈ fs ∧ ob (lookF e.fs f) fun d => Q d M
  | .xisi, _, M, Q, _ => ob F.cur fun e => (F.xf e.C).isSome = true ∧ Q (.bl true) M
  | .fstr es, σ, M, Q, E => wEs F es σ M (fun ds M1 => False) E
noncomputable def wEs (F : Sem) : List Ex → Env → Mem → (List D → Mem → Prop) → KX → Prop
  | [], _, M, Q, _ => Q [] M
  | e :: es, σ, M, Q, E => wE F e σ M (fun d M1 => wEs F es σ M1 (fun ds M2 => Q (d :: ds) M2) E) E
noncomputable def wKv (F : Sem) : List (Ex × Ex) → Env → Mem → (List (D × D) → Mem → Prop) → KX → Prop
  | [], _, M, Q, _ => Q [] M
  | (k, v) :: es, σ, M, Q, E => wE F k σ M (fun x M1 => wE F v σ M1 (fun y M2 => wKv F es σ M2 (fun ps M3 => Q ((x, y) :: ps) M3) E) E) E
noncomputable def wO (F : Sem) : Option Ex → Env → Mem → (Option Int → Mem → Prop) → KX → Prop
  | none, _, M, Q, _ => Q none M
  | some e, σ, M, Q, E => wE F e σ M (fun d M1 => onI d fun i => Q (some i) M1) E
noncomputable def wAnd (F : Sem) : List Ex → Env → Mem → K → KX → Prop
  | [], _, _, _, _ => False
  | e :: es, σ, M, Q, E => wE F e σ M (asB fun b M1 => match es with
      | [] => Q (.bl b) M1
      | _ :: _ => if b then wAnd F es σ M1 Q E else Q (.bl false) M1) E
noncomputable def wOr (F : Sem) : List Ex → Env → Mem → K → KX → Prop
  | [], _, _, _, _ => False
  | e :: es, σ, M, Q, E => wE F e σ M (asB fun b M1 => match es with
      | [] => Q (.bl b) M1
      | _ :: _ => if b then Q (.bl true) M1 else wOr F es σ M1 Q E) E
noncomputable def wCs (F : Sem) : List Ex → Env → Mem → (Bool → Mem → Prop) → KX → Prop
  | [], _, M, Q, _ => Q true M
  | e :: es, σ, M, Q, E => wE F e σ M (asB fun b M1 => if b then wCs F es σ M1 Q E else Q false M1) E
end

structure Ends where
  nx : Env → Mem → Prop
  rt : K
  bk : Env → Mem → Prop
  ct : Env → Mem → Prop
  ex : Exn → Env → Mem → Prop
abbrev Ends.x (D : Ends) (σ : Env) : KX := fun e M => D.ex e σ M

/-- o[i] = v -/
noncomputable def setop (o i v : D) (M : Mem) (Q : Mem → Prop) : Prop := onR o fun a => match M a with
  | some (.lst xs) => onI i fun k => ob (ixN xs.length k) fun j => Q (up M a (.lst (xs.set j v)))
  | some (.dct t kvs) => isKey t i = true ∧ kvs.length < line ∧ Q (up M a (.dct t (put kvs i v)))
  | _ => False
/-- o.f = v -/
def putop (o : D) (f : String) (v : D) (M : Mem) (Q : Mem → Prop) : Prop := onR o fun a => ob (atN M a) fun p => p.2.length < 100 ∧ Q (up M a (.ins p.1 (putF p.2 f v)))
/-- two numbers -/
def augop (op : Bop) (x y : D) (M : Mem) (Q : K) : Prop := onI x fun i => onI y fun j => binop op (.int i) (.int j) M Q
mutual
noncomputable def wS (F : Sem) : St → Env → Mem → Ends → Prop
  | .asg t e, σ, M, D => wE F e σ M (fun d M1 => wTg t d σ fun σ1 => D.nx σ1 M1) (D.x σ)
  | .asub o i e, σ, M, D => wE F e σ M (fun v M1 => wE F o σ M1 (fun x M2 => wE F i σ M2 (fun y M3 => setop x y v M3 fun M4 => D.nx σ M4) (D.x σ)) (D.x σ)) (D.x σ)
  | .afld o f e, σ, M, D => wE F e σ M (fun v M1 => wE F o σ M1 (fun x M2 => putop x f v M2 fun M3 => D.nx σ M3) (D.x σ)) (D.x σ)
  | .aug i op e, σ, M, D => ob (lk σ i) fun x => wE F e σ M (fun y M1 => augop op x y M1 fun z M2 => D.nx (σ.set i (some z)) M2) (D.x σ)
  | .augs o i op e, σ, M, D => wE F o σ M (fun x M1 => wE F i σ M1 (fun y M2 => subop x y M2 fun v => wE F e σ M2 (fun w M3 => augop op v w M3 fun z M4 => setop x y z M4 fun M5 => D.nx σ M5) (D.x σ)) (D.x σ)) (D.x σ)
  | .augf o f op e, σ, M, D => wE F o σ M (fun x M1 => fldop x f M1 fun v => wE F e σ M1 (fun w M2 => augop op v w M2 fun z M3 => putop x f z M3 fun M4 => D.nx σ M4) (D.x σ)) (D.x σ)
  | .expr e, σ, M, D => wE F e σ M (fun _ M1 => D.nx σ M1) (D.x σ)
  | .ret e, σ, M, D => wE F e σ M D.rt (D.x σ)
  | .retN, _, M, D => D.rt .non M
  | .ifs c a b, σ, M, D => wE F c σ M (asB fun r M1 => if r then wSs F a σ M1 D else wSs F b σ M1 D) (D.x σ)
  | .for t k es b, σ, M, D => wEs F es σ M (fun ds M1 => itop k ds fun xs =>
      forL (fun x σ M R => wTg t x σ fun σ1 => wSs F b σ1 M { D with nx := R, ct := R, bk := D.nx }) D.nx xs σ M1) (D.x σ)
  | .whl c b, σ, M, D => ∃ n, whlL (fun σ M R => wE F c σ M (asB R) (D.x σ)) (fun σ M R => wSs F b σ M { D with nx := R, ct := R, bk := D.nx }) D.nx n σ M
  | .brk, σ, M, D => D.bk σ M
  | .cont, σ, M, D => D.ct σ M
  | .pass, σ, M, D => D.nx σ M
  | .raise C es, σ, M, D => ob (F.xf C) fun fs => wEs F es σ M (fun ds M1 => fs.length = ds.length ∧ D.ex ⟨C, fs.zip ds⟩ σ M1) (D.x σ)
  | .try b hs, σ, M, D => wSs F b σ M { D with ex := fun e σ1 M1 => wHs F hs e σ1 M1 D }
  | .frz i, σ, M, D => ob (lk σ i) fun d => onR d fun a => ob (M a) fun o => D.nx (σ.set i (some o.ice)) (del M a)
noncomputable def wSs (F : Sem) : List St → Env → Mem → Ends → Prop
  | [], σ, M, D => D.nx σ M
  | s :: ss, σ, M, D => wS F s σ M { D with nx := fun σ1 M1 => wSs F ss σ1 M1 D }
/-- the first clause that takes the exception; in its suite nothing is raised -/
noncomputable def wHs (F : Sem) : List (String × Option Nat × List St) → Exn → Env → Mem → Ends → Prop
  | [], e, σ, M, D => D.ex e σ M
  | (C, n, b) :: hs, e, σ, M, D => (F.xf e.C).isSome = true ∧ if F.sub e.C C then
      (match n with
        | none => wSs { F with cur := none } b σ M { D with ex := fun _ _ _ => False }
        | some i => i < σ.length ∧ wSs { F with cur := some e } b (σ.set i none) M { nx := fun σ1 M1 => D.nx (σ1.set i none) M1, rt := D.rt, bk := fun σ1 M1 => D.bk (σ1.set i none) M1, ct := fun σ1 M1 => D.ct (σ1.set i none) M1, ex := fun _ _ _ => False })
    else wHs F hs e σ M D
end

/-- a def: how many parameters, how many names, its body -/
structure Fn where
  ps : Nat
  ns : Nat
  body : List St
structure Prog where
  fns : List Fn
  lams : List Ex
  glo : String → Option D
  ini : String → Option Nat
  xf : String → Option (List String)
  sub : String → String → Bool
/-- what calls do at a depth of at most so much -/
noncomputable def semOf (P : Prog) (c c1 : Nat → List D → Mem → K → KX → Prop) (l : Nat → Env → Mem → K → KX → Prop) : Sem := ⟨c, c1, l, P.glo, P.ini, P.xf, P.sub, none⟩
noncomputable def lamOf (P : Prog) (c c1 : Nat → List D → Mem → K → KX → Prop) (l : Nat) (ρ : Env) (M : Mem) (Q : K) (E : KX) : Prop := ob P.lams[l]? fun e => wE (semOf P c c1 fun _ _ _ _ _ => False) e ρ M Q E
noncomputable def runFn (F : Sem) (fn : Fn) (ds : List D) (M : Mem) (Q : K) (E : KX) : Prop :=
  ds.length = fn.ps ∧ wSs F fn.body (ds.map some ++ List.replicate (fn.ns - fn.ps) none) M ⟨fun _ M => Q .non M, Q, fun _ _ => False, fun _ _ => False, fun e _ M => E e M⟩
/-- a def called at a depth of at most so much; the one less, and the next one less -/
noncomputable def call3 (P : Prog) : Nat → (Nat → List D → Mem → K → KX → Prop) × (Nat → List D → Mem → K → KX → Prop) × (Nat → List D → Mem → K → KX → Prop)
  | 0 => (fun _ _ _ _ _ => False, fun _ _ _ _ _ => False, fun _ _ _ _ _ => False)
  | k + 1 => let c := call3 P k
    (fun f ds M Q E => ob P.fns[f]? fun fn => runFn (semOf P c.1 c.2.1 (lamOf P c.2.1 c.2.2)) fn ds M Q E, c.1, c.2.1)
noncomputable def wCall (P : Prog) (k : Nat) : Nat → List D → Mem → K → KX → Prop := (call3 P k).1
noncomputable def semAt (P : Prog) (k : Nat) : Sem := semOf P (wCall P k) (wCall P (k - 1)) (lamOf P (wCall P (k - 1)) (wCall P (k - 2)))
theorem call3_2 (P : Prog) (k : Nat) : (call3 P k).2.1 = wCall P (k - 1) := by cases k <;> rfl
theorem call3_3 (P : Prog) (k : Nat) : (call3 P k).2.2 = wCall P (k - 2) := by
  cases k with
  | zero => rfl
  | succ k => exact call3_2 P k
theorem wCall_zero (P : Prog) (f : Nat) (ds : List D) (M : Mem) (Q : K) (E : KX) : wCall P 0 f ds M Q E = False := rfl
theorem wCall_succ (P : Prog) (k f : Nat) (ds : List D) (M : Mem) (Q : K) (E : KX) : wCall P (k + 1) f ds M Q E = ob P.fns[f]? fun fn => runFn (semAt P k) fn ds M Q E := by
  show (ob P.fns[f]? fun fn => runFn (semOf P (call3 P k).1 (call3 P k).2.1 (lamOf P (call3 P k).2.1 (call3 P k).2.2)) fn ds M Q E) = _
  rw [call3_2, call3_3]
  rfl
end Dee

set_option Elab.async false
set_option linter.all false
set_option autoImplicit false
set_option maxRecDepth 100000
/-! Dee: how data stand in the model's memory. -/
namespace Dee
open PySem PySem.Spec PyProof.Rows L2

/-- not locked -/
def NF : HO → Prop
  | .frz _ _ => False
  | _ => True
/-- tuples, lists, and what is locked -/
def OwnT : HO → Prop
  | .tup _ => True
  | .lst _ => True
  | .xd _ => True
  | .frz _ _ => True
  | _ => False
/-- what stood still stands -/
structure Mono (M : Mem) (H : Hp) (M' : Mem) (H' : Hp) : Prop where
  keep : ∀ a u, NF u → M a = none → Rd H a u → M' a = none ∧ Rd H' a u
  tup : ∀ a u, OwnT u → M a = none → H a = some u → M' a = none ∧ H' a = some u
theorem Mono.refl (M : Mem) (H : Hp) : Mono M H M H := ⟨fun _ _ _ h r => ⟨h, r⟩, fun _ _ _ n h => ⟨n, h⟩⟩
theorem Mono.trans {M M1 M2 : Mem} {H H1 H2 : Hp} (a : Mono M H M1 H1) (b : Mono M1 H1 M2 H2) : Mono M H M2 H2 :=
  ⟨fun c u n h r => let ⟨h1, r1⟩ := a.keep c u n h r; b.keep c u n h1 r1, fun c u o h e => let ⟨h1, e1⟩ := a.tup c u o h e; b.tup c u o h1 e1⟩
/-- something new is laid -/
theorem Mono.new {M : Mem} {H : Hp} {p : Addr} {o : HO} (hp : H p = none) : Mono M H M (upd H p o) where
  keep := fun a u _ h r => ⟨h, by
    rcases r with e | ⟨ob, e⟩
    · exact .inl (by rw [upd_ne (ne_of_none e hp)]; exact e)
    · exact .inr ⟨ob, by rw [upd_ne (ne_of_none e hp)]; exact e⟩⟩
  tup := fun a u _ n e => ⟨n, by rw [upd_ne (ne_of_none e hp)]; exact e⟩
/-- something that may change is laid, or changed -/
theorem Mono.put {M : Mem} {H : Hp} {p : Addr} {o : HO} {x : MO} (hp : H p = none ∨ ∃ y, M p = some y) : Mono M H (up M p x) (upd H p o) where
  keep := fun a u _ h r => by
    have ne : a ≠ p := by
      rintro rfl
      rcases hp with hp | ⟨y, hp⟩
      · rcases r with e | ⟨ob, e⟩ <;> (rw [hp] at e; cases e)
      · rw [h] at hp; cases hp
    refine ⟨by unfold up; rw [if_neg ne]; exact h, ?_⟩
    rcases r with e | ⟨ob, e⟩
    · exact .inl (by rw [upd_ne ne]; exact e)
    · exact .inr ⟨ob, by rw [upd_ne ne]; exact e⟩
  tup := fun a u _ h e => by
    have ne : a ≠ p := by
      rintro rfl
      rcases hp with hp | ⟨y, hp⟩
      · rw [hp] at e; cases e
      · rw [h] at hp; cases hp
    exact ⟨by unfold up; rw [if_neg ne]; exact h, by rw [upd_ne ne]; exact e⟩
/-- it no longer changes -/
theorem Mono.ice {M : Mem} {H : Hp} {p : Addr} : Mono M H (del M p) H where
  keep := fun a u _ h r => ⟨by unfold Dee.del; by_cases e : a = p; rw [if_pos e]; rw [if_neg e]; exact h, r⟩
  tup := fun a _ _ n e => ⟨by unfold Dee.del; by_cases e : a = p; rw [if_pos e]; rw [if_neg e]; exact n, e⟩
/-- something young changes -/
theorem Mono.young {M M' : Mem} {H H' : Hp} {p : Addr} {o : HO} (m : Mono M H M' H') (hp : H p = none) : Mono M H M' (upd H' p o) where
  keep := fun a u n h r => by
    have ne : a ≠ p := by
      rintro rfl
      rcases r with e | ⟨ob, e⟩ <;> (rw [hp] at e; cases e)
    obtain ⟨h1, r1⟩ := m.keep a u n h r
    refine ⟨h1, ?_⟩
    rcases r1 with e | ⟨ob, e⟩
    · exact .inl (by rw [upd_ne ne]; exact e)
    · exact .inr ⟨ob, by rw [upd_ne ne]; exact e⟩
  tup := fun a u t n e => by
    have ne : a ≠ p := by
      rintro rfl
      rw [hp] at e; cases e
    obtain ⟨h1, e1⟩ := m.tup a u t n e
    exact ⟨h1, by rw [upd_ne ne]; exact e1⟩

/-- the module's names: classes -/
structure Gm where
  mg : Str → Option Value
  /-- what stands hidden: new lists of comprehensions -/
  hid : Addr → Prop
structure LC where
  mg : Gm
  /-- the suite's exception: its slot, where it stands, its class, its dict -/
  xi : Option (Nat × Addr × Value × Option Addr × Exn)

def Un (mg : Gm) (M : Mem) (a : Addr) : Prop := M a = none ∧ ¬ mg.hid a
def keyD : Key → D | .inl i => .int i | .inr s => .str s
mutual
def Rep (mg : Gm) (M : Mem) (H : Hp) : D → V → Prop
  | .non, v => v = .non
  | .bl b, v => v = .bl b
  | .int i, v => v = .int i
  | .str s, v => v = .str s
  | .tup ds, v => ∃ a vs, v = .ref a ∧ Un mg M a ∧ H a = some (.tup vs) ∧ RepL mg M H ds vs
  | .lst ds, v => ∃ a vs, v = .ref a ∧ Un mg M a ∧ Rd H a (.lst vs) ∧ RepL mg M H ds vs
  | .dct t kvs, v => ∃ a, v = .ref a ∧ Un mg M a ∧ match t with
    | false => ∃ ws, Rd H a (.dK ws) ∧ RepK mg M H kvs ws
    | true => ∃ ws, Rd H a (.dT ws) ∧ RepT mg M H kvs ws
  | .obj C fs, v => ∃ a c dx ws, v = .ref a ∧ Un mg M a ∧ Rd H a (.ins c dx ws) ∧ mg.mg C = some (.ref c) ∧ RepF mg M H fs ws
  | .ref a, v => v = .ref a
  | .clo _ _, v => ∃ a, v = .ref a
def RepL (mg : Gm) (M : Mem) (H : Hp) : List D → List V → Prop
  | [], vs => vs = []
  | d :: ds, vs => ∃ v r, vs = v :: r ∧ Rep mg M H d v ∧ RepL mg M H ds r
def RepK (mg : Gm) (M : Mem) (H : Hp) : List (D × D) → List (Key × V) → Prop
  | [], ws => ws = []
  | (k, d) :: ds, ws => ∃ j v r, ws = (j, v) :: r ∧ k = keyD j ∧ Rep mg M H d v ∧ RepK mg M H ds r
def RepT (mg : Gm) (M : Mem) (H : Hp) : List (D × D) → List (List Key × V) → Prop
  | [], ws => ws = []
  | (k, d) :: ds, ws => ∃ j v r, ws = (j, v) :: r ∧ k = .tup (j.map keyD) ∧ Rep mg M H d v ∧ RepT mg M H ds r
def RepF (mg : Gm) (M : Mem) (H : Hp) : List (String × D) → List (Str × V) → Prop
  | [], ws => ws = []
  | (f, d) :: ds, ws => ∃ v r, ws = (Str.ofString f, v) :: r ∧ Rep mg M H d v ∧ RepF mg M H ds r
end

/-- what is not hidden stands -/
structure Keeps (mg mg' : Gm) (M : Mem) (H : Hp) (M' : Mem) (H' : Hp) : Prop where
  cl : mg'.mg = mg.mg
  keep : ∀ a u, NF u → Un mg M a → Rd H a u → Un mg' M' a ∧ Rd H' a u
  tup : ∀ a vs, Un mg M a → H a = some (.tup vs) → H' a = some (.tup vs)
theorem Keeps.refl {mg : Gm} {M : Mem} {H : Hp} : Keeps mg mg M H M H := ⟨rfl, fun _ _ _ n r => ⟨n, r⟩, fun _ _ _ e => e⟩
theorem Keeps.trans {g g1 g2 : Gm} {M M1 M2 : Mem} {H H1 H2 : Hp} (a : Keeps g g1 M H M1 H1) (b : Keeps g1 g2 M1 H1 M2 H2) : Keeps g g2 M H M2 H2 :=
  ⟨b.cl.trans a.cl, fun x u n h r => let ⟨h1, r1⟩ := a.keep x u n h r; b.keep x u n h1 r1, fun x vs h e => b.tup x vs (a.keep x (.tup vs) True.intro h (.inl e)).1 (a.tup x vs h e)⟩
theorem Mono.keeps {mg : Gm} {M M' : Mem} {H H' : Hp} (m : Mono M H M' H') : Keeps mg mg M H M' H' :=
  ⟨rfl, fun a u n h r => let ⟨x, y⟩ := m.keep a u n h.1 r; ⟨⟨x, h.2⟩, y⟩, fun a vs n e => (m.tup a (.tup vs) True.intro n.1 e).2⟩
section
variable {mg mg' : Gm} {M M' : Mem} {H H' : Hp}
mutual
theorem Rep.keeps (m : Keeps mg mg' M H M' H') : ∀ {d : D} {v : V}, Rep mg M H d v → Rep mg' M' H' d v
  | .non, _, h => h
  | .bl _, _, h => h
  | .int _, _, h => h
  | .str _, _, h => h
  | .tup ds, _, ⟨a, vs, e, n, h, r⟩ => by
    obtain ⟨n', _⟩ := m.keep a (.tup vs) True.intro n (.inl h)
    exact ⟨a, vs, e, n', m.tup a vs n h, RepL.keeps m r⟩
  | .lst ds, _, ⟨a, vs, e, n, h, r⟩ => by
    obtain ⟨n', h'⟩ := m.keep a (.lst vs) True.intro n h
    exact ⟨a, vs, e, n', h', RepL.keeps m r⟩
  | .dct false kvs, _, ⟨a, e, n, ws, h, r⟩ => by
    obtain ⟨n', h'⟩ := m.keep a (.dK ws) True.intro n h
    exact ⟨a, e, n', ws, h', RepK.keeps m r⟩
  | .dct true kvs, _, ⟨a, e, n, ws, h, r⟩ => by
    obtain ⟨n', h'⟩ := m.keep a (.dT ws) True.intro n h
    exact ⟨a, e, n', ws, h', RepT.keeps m r⟩
  | .obj C fs, _, ⟨a, c, dx, ws, e, n, h, g, r⟩ => by
    obtain ⟨n', h'⟩ := m.keep a (.ins c dx ws) True.intro n h
    exact ⟨a, c, dx, ws, e, n', h', by rw [m.cl]; exact g, RepF.keeps m r⟩
  | .ref _, _, h => h
  | .clo _ _, _, h => h
theorem RepL.keeps (m : Keeps mg mg' M H M' H') : ∀ {ds : List D} {vs : List V}, RepL mg M H ds vs → RepL mg' M' H' ds vs
  | [], _, h => h
  | _ :: _, _, ⟨v, r, e, h, hr⟩ => ⟨v, r, e, Rep.keeps m h, RepL.keeps m hr⟩
theorem RepK.keeps (m : Keeps mg mg' M H M' H') : ∀ {ds : List (D × D)} {vs : List (Key × V)}, RepK mg M H ds vs → RepK mg' M' H' ds vs
  | [], _, h => h
  | (_, _) :: _, _, ⟨j, v, r, e, k, h, hr⟩ => ⟨j, v, r, e, k, Rep.keeps m h, RepK.keeps m hr⟩
theorem RepT.keeps (m : Keeps mg mg' M H M' H') : ∀ {ds : List (D × D)} {vs : List (List Key × V)}, RepT mg M H ds vs → RepT mg' M' H' ds vs
  | [], _, h => h
  | (_, _) :: _, _, ⟨j, v, r, e, k, h, hr⟩ => ⟨j, v, r, e, k, Rep.keeps m h, RepT.keeps m hr⟩
theorem RepF.keeps (m : Keeps mg mg' M H M' H') : ∀ {ds : List (String × D)} {vs : List (Str × V)}, RepF mg M H ds vs → RepF mg' M' H' ds vs
  | [], _, h => h
  | (_, _) :: _, _, ⟨v, r, e, h, hr⟩ => ⟨v, r, e, Rep.keeps m h, RepF.keeps m hr⟩
end
theorem Rep.mono (m : Mono M H M' H') {d : D} {v : V} (h : Rep mg M H d v) : Rep mg M' H' d v := h.keeps m.keeps
theorem RepL.mono (m : Mono M H M' H') {d : List D} {v : List V} (h : RepL mg M H d v) : RepL mg M' H' d v := h.keeps m.keeps
theorem RepK.mono (m : Mono M H M' H') {d : List (D × D)} {v : List (Key × V)} (h : RepK mg M H d v) : RepK mg M' H' d v := h.keeps m.keeps
theorem RepT.mono (m : Mono M H M' H') {d : List (D × D)} {v : List (List Key × V)} (h : RepT mg M H d v) : RepT mg M' H' d v := h.keeps m.keeps
theorem RepF.mono (m : Mono M H M' H') {d : List (String × D)} {v : List (Str × V)} (h : RepF mg M H d v) : RepF mg M' H' d v := h.keeps m.keeps

theorem RepL.length : ∀ {ds : List D} {vs : List V}, RepL mg M H ds vs → ds.length = vs.length
  | [], _, h => by cases h; rfl
  | _ :: _, _, ⟨v, r, e, h, hr⟩ => by cases e; simp [RepL.length hr]
theorem RepL.append : ∀ {ds es : List D} {vs us : List V}, RepL mg M H ds vs → RepL mg M H es us → RepL mg M H (ds ++ es) (vs ++ us)
  | [], _, _, _, h, h2 => by cases h; exact h2
  | _ :: _, _, _, _, ⟨v, r, e, h, hr⟩, h2 => by cases e; exact ⟨v, _, rfl, h, RepL.append hr h2⟩
theorem RepL.get : ∀ {ds : List D} {vs : List V} {i : Nat} {d : D}, RepL mg M H ds vs → ds[i]? = some d → ∃ v, vs[i]? = some v ∧ Rep mg M H d v
  | [], _, _, _, _, e => by simp at e
  | _ :: _, _, 0, _, ⟨v, r, e, h, hr⟩, q => by cases e; simp at q; subst q; exact ⟨v, rfl, h⟩
  | _ :: _, _, i + 1, _, ⟨v, r, e, h, hr⟩, q => by cases e; simpa using RepL.get hr (by simpa using q)
theorem RepL.get' : ∀ {ds : List D} {vs : List V} {i : Nat} {v : V}, RepL mg M H ds vs → vs[i]? = some v → ∃ d, ds[i]? = some d ∧ Rep mg M H d v
  | [], _, _, _, h, e => by cases h; simp at e
  | d :: _, _, 0, _, ⟨v, r, e, h, hr⟩, q => by cases e; simp at q; subst q; exact ⟨d, rfl, h⟩
  | _ :: _, _, i + 1, _, ⟨v, r, e, h, hr⟩, q => by cases e; simpa using RepL.get' hr (by simpa using q)
theorem RepL.take : ∀ {ds : List D} {vs : List V} (n : Nat), RepL mg M H ds vs → RepL mg M H (ds.take n) (vs.take n)
  | _, _, 0, _ => by simp [RepL]
  | [], _, _ + 1, h => by cases h; simp [RepL]
  | _ :: _, _, n + 1, ⟨v, r, e, h, hr⟩ => by cases e; exact ⟨v, _, rfl, h, RepL.take n hr⟩
theorem RepL.drop : ∀ {ds : List D} {vs : List V} (n : Nat), RepL mg M H ds vs → RepL mg M H (ds.drop n) (vs.drop n)
  | _, _, 0, h => h
  | [], _, _ + 1, h => by cases h; simp [RepL]
  | _ :: _, _, n + 1, ⟨v, r, e, h, hr⟩ => by cases e; exact RepL.drop n hr
theorem RepL.set {d : D} {v : V} (r : Rep mg M H d v) : ∀ {ds : List D} {vs : List V} (i : Nat), RepL mg M H ds vs → RepL mg M H (ds.set i d) (vs.set i v)
  | [], _, _, h => by cases h; simp [RepL]
  | _ :: _, _, 0, ⟨v, r', e, h, hr⟩ => by cases e; exact ⟨_, _, rfl, r, hr⟩
  | _ :: _, _, i + 1, ⟨v, r', e, h, hr⟩ => by cases e; exact ⟨_, _, rfl, h, RepL.set r i hr⟩
theorem RepL.reverse : ∀ {ds : List D} {vs : List V}, RepL mg M H ds vs → RepL mg M H ds.reverse vs.reverse
  | [], _, h => by cases h; simp [RepL]
  | d :: ds, _, ⟨v, r, e, h, hr⟩ => by
    cases e
    rw [List.reverse_cons, List.reverse_cons]
    exact RepL.append (RepL.reverse hr) ⟨v, [], rfl, h, rfl⟩
theorem RepL.flat {ds : List D} {vs : List V} (h : RepL mg M H ds vs) : ∀ n : Nat, RepL mg M H (List.replicate n ds).flatten (List.replicate n vs).flatten
  | 0 => by simp [RepL]
  | n + 1 => by
    rw [List.replicate_succ, List.replicate_succ, List.flatten_cons, List.flatten_cons]
    exact RepL.append h (RepL.flat h n)

/-- what may change stands as it is told -/
def ORep (mg : Gm) (M : Mem) (H : Hp) (a : Addr) : MO → Prop
  | .lst xs => ∃ vs, H a = some (.lst vs) ∧ RepL mg M H xs vs
  | .dct false kvs => ∃ ws, H a = some (.dK ws) ∧ RepK mg M H kvs ws
  | .dct true kvs => ∃ ws, H a = some (.dT ws) ∧ RepT mg M H kvs ws
  | .ins C fs => ∃ c dx ws, H a = some (.ins c dx ws) ∧ mg.mg C = some (.ref c) ∧ RepF mg M H fs ws
structure MRep (mg : Gm) (M : Mem) (H : Hp) : Prop where
  std : ∀ a o, M a = some o → ORep mg M H a o
  hid : ∀ a, mg.hid a → M a = none ∧ ∃ u, H a = some u
theorem ORep.at {a : Addr} {o : MO} (h : ORep mg M H a o) : ∃ u, H a = some u := by
  match o, h with
  | .lst _, ⟨_, e, _⟩ => exact ⟨_, e⟩
  | .dct false _, ⟨_, e, _⟩ => exact ⟨_, e⟩
  | .dct true _, ⟨_, e, _⟩ => exact ⟨_, e⟩
  | .ins _ _, ⟨_, _, _, e, _⟩ => exact ⟨_, e⟩
theorem MRep.nil {p : Addr} (m : MRep mg M H) (hp : H p = none) : M p = none := by
  cases e : M p with
  | none => rfl
  | some o =>
    obtain ⟨u, q⟩ := (m.std p o e).at
    rw [hp] at q; cases q
theorem MRep.gone {p : Addr} (m : MRep mg M H) (hp : H p = none) : Un mg M p := ⟨m.nil hp, fun h => by
  obtain ⟨_, u, e⟩ := m.hid p h
  rw [hp] at e; cases e⟩
theorem ORep.keeps {a : Addr} {o : MO} (m : Keeps mg mg' M H M' H') (e : H' a = H a) (h : ORep mg M H a o) : ORep mg' M' H' a o := by
  match o, h with
  | .lst _, ⟨vs, q, r⟩ => exact ⟨vs, e.trans q, r.keeps m⟩
  | .dct false _, ⟨vs, q, r⟩ => exact ⟨vs, e.trans q, r.keeps m⟩
  | .dct true _, ⟨vs, q, r⟩ => exact ⟨vs, e.trans q, r.keeps m⟩
  | .ins _ _, ⟨c, dx, ws, q, g, r⟩ => exact ⟨c, dx, ws, e.trans q, by rw [m.cl]; exact g, r.keeps m⟩
theorem ORep.mono {a : Addr} {o : MO} (m : Mono M H M' H') (e : H' a = H a) (h : ORep mg M H a o) : ORep mg M' H' a o := h.keeps m.keeps e
theorem MRep.new {p : Addr} {o : HO} (m : MRep mg M H) (hp : H p = none) : MRep mg M (upd H p o) := ⟨fun a x e => by
  obtain ⟨u, q⟩ := (m.std a x e).at
  exact (m.std a x e).mono (Mono.new hp) (upd_ne (ne_of_none q hp)), fun a h => by
  obtain ⟨n, u, q⟩ := m.hid a h
  exact ⟨n, u, by rw [upd_ne (ne_of_none q hp)]; exact q⟩⟩
theorem MRep.put {p : Addr} {o : HO} {x : MO} (m : MRep mg M H) (hp : H p = none ∨ ∃ y, M p = some y) (h : ORep mg (up M p x) (upd H p o) p x) : MRep mg (up M p x) (upd H p o) := ⟨fun a y e => by
  by_cases ha : a = p
  · subst ha
    unfold up at e
    rw [if_pos rfl] at e
    cases e
    exact h
  · unfold up at e
    rw [if_neg ha] at e
    exact (m.std a y e).mono (Mono.put hp) (upd_ne ha), fun a h => by
  obtain ⟨n, u, q⟩ := m.hid a h
  have ne : a ≠ p := by
    rintro rfl
    rcases hp with hp | ⟨y, hp⟩
    · rw [hp] at q; cases q
    · rw [n] at hp; cases hp
  exact ⟨by unfold up; rw [if_neg ne]; exact n, u, by rw [upd_ne ne]; exact q⟩⟩
theorem MRep.ice {p : Addr} (m : MRep mg M H) : MRep mg (del M p) H := ⟨fun a y e => by
  by_cases ha : a = p
  · subst ha
    unfold del at e
    rw [if_pos rfl] at e
    cases e
  · unfold del at e
    rw [if_neg ha] at e
    exact (m.std a y e).mono Mono.ice rfl, fun a h => by
  obtain ⟨n, q⟩ := m.hid a h
  refine ⟨?_, q⟩
  unfold del
  by_cases ha : a = p
  · rw [if_pos ha]
  · rw [if_neg ha]; exact n⟩
theorem up_same {a : Addr} {o : MO} : up M a o a = some o := by unfold up; rw [if_pos rfl]
theorem up_ne {a b : Addr} {o : MO} (h : b ≠ a) : up M a o b = M b := by unfold up; rw [if_neg h]
theorem del_same {a : Addr} : Dee.del M a a = none := by unfold Dee.del; rw [if_pos rfl]
theorem del_ne {a b : Addr} (h : b ≠ a) : Dee.del M a b = M b := by unfold Dee.del; rw [if_neg h]

/-- the items of a list or tuple -/
theorem seq_of (m : MRep mg M H) {d : D} {v : V} {xs : List D} (r : Rep mg M H d v) (e : seqM M d = some xs) :
    ∃ a vs, v = .ref a ∧ RepL mg M H xs vs ∧ ((isTup d = true ∧ H a = some (.tup vs)) ∨ (isTup d = false ∧ Rd H a (.lst vs))) := by
  cases d with
  | tup ys =>
    cases e
    obtain ⟨a, vs, e, n, h, r⟩ := r
    exact ⟨a, vs, e, r, .inl ⟨rfl, h⟩⟩
  | lst ys =>
    cases e
    obtain ⟨a, vs, e, n, h, r⟩ := r
    exact ⟨a, vs, e, r, .inr ⟨rfl, h⟩⟩
  | ref a =>
    unfold seqM at e
    dsimp only at e
    split at e
    · rename_i ys q
      cases e
      obtain ⟨vs, h, r'⟩ := m.std a _ q
      exact ⟨a, vs, r, r', .inr ⟨rfl, .inl h⟩⟩
    · cases e
  | _ => cases e
theorem dct_of (m : MRep mg M H) {d : D} {v : V} {t : Bool} {kvs : List (D × D)} (r : Rep mg M H d v) (e : dctM M d = some (t, kvs)) :
    ∃ a, v = .ref a ∧ ((t = false ∧ ∃ ws, Rd H a (.dK ws) ∧ RepK mg M H kvs ws) ∨ (t = true ∧ ∃ ws, Rd H a (.dT ws) ∧ RepT mg M H kvs ws)) := by
  cases d with
  | dct t' ys =>
    cases e
    cases t with
    | false =>
      obtain ⟨a, e, n, ws, h, r⟩ := r
      exact ⟨a, e, .inl ⟨rfl, ws, h, r⟩⟩
    | true =>
      obtain ⟨a, e, n, ws, h, r⟩ := r
      exact ⟨a, e, .inr ⟨rfl, ws, h, r⟩⟩
  | ref a =>
    unfold dctM at e
    dsimp only at e
    split at e
    · rename_i t' ys q
      cases e
      cases t with
      | false =>
        obtain ⟨vs, h, r'⟩ := m.std a _ q
        exact ⟨a, r, .inl ⟨rfl, vs, .inl h, r'⟩⟩
      | true =>
        obtain ⟨vs, h, r'⟩ := m.std a _ q
        exact ⟨a, r, .inr ⟨rfl, vs, .inl h, r'⟩⟩
    · cases e
  | _ => cases e
theorem ins_of (m : MRep mg M H) {d : D} {v : V} {C : String} {fs : List (String × D)} (r : Rep mg M H d v) (e : insM M d = some (C, fs)) :
    ∃ a c dx ws, v = .ref a ∧ Rd H a (.ins c dx ws) ∧ mg.mg C = some (.ref c) ∧ RepF mg M H fs ws := by
  cases d with
  | obj C' ys =>
    cases e
    obtain ⟨a, c, dx, ws, e, n, h, g, r⟩ := r
    exact ⟨a, c, dx, ws, e, h, g, r⟩
  | ref a =>
    unfold insM at e
    dsimp only at e
    split at e
    · rename_i t' ys q
      cases e
      obtain ⟨c, dx, ws, h, g, r'⟩ := m.std a _ q
      exact ⟨a, c, dx, ws, r, .inl h, g, r'⟩
    · cases e
  | _ => cases e
end

/-- an exception stands as told -/
def RepX (c : LC) (M : Mem) (H : Hp) (ε : Exn) (cls : Value) (d : Option Addr) : Prop :=
  c.mg.mg (Str.ofString ε.C) = some cls ∧ (ε.fs = [] ∨ ∃ dd ws, d = some dd ∧ Un c.mg M dd ∧ H dd = some (.xd ws) ∧ ∀ f x, lookF ε.fs f = some x → ∃ v, ws.lookup (Str.ofString f) = some v ∧ Rep c.mg M H x v)
/-- the names, the memory and the suite's exception stand as told -/
structure Rp (c : LC) (ρ : Env) (M : Mem) (σ : L2.St) (H : Hp) : Prop where
  len : ρ.length = σ.length
  env : ∀ i d, lk ρ i = some d → ∃ v, σ[i]? = some (some v) ∧ Rep c.mg M H d v
  mem : MRep c.mg M H
  xi : ∀ i a cls d ε, c.xi = some (i, a, cls, d, ε) → σ[i]? = some (some (.ref a)) ∧ RepX c M H ε cls d
theorem RepX.mono {c : LC} {M M' : Mem} {H H' : Hp} {ε : Exn} {cls : Value} {d : Option Addr} (h : RepX c M H ε cls d) (m : Mono M H M' H') : RepX c M' H' ε cls d := by
  obtain ⟨e, h⟩ := h
  refine ⟨e, ?_⟩
  rcases h with h | ⟨dd, ws, e1, n, r, h⟩
  · exact .inl h
  · obtain ⟨n', r'⟩ := m.tup dd (.xd ws) True.intro n.1 r
    exact .inr ⟨dd, ws, e1, ⟨n', n.2⟩, r', fun f x q => let ⟨v, l, z⟩ := h f x q; ⟨v, l, z.mono m⟩⟩
theorem Rp.mono {c : LC} {ρ : Env} {M M' : Mem} {σ : L2.St} {H H' : Hp} (R : Rp c ρ M σ H) (m : Mono M H M' H') (mr : MRep c.mg M' H') : Rp c ρ M' σ H' :=
  ⟨R.len, fun i d e => let ⟨v, h, r⟩ := R.env i d e; ⟨v, h, r.mono m⟩, mr, fun i a cls d ε e => let ⟨h, x⟩ := R.xi i a cls d ε e; ⟨h, x.mono m⟩⟩
theorem lk_get : ∀ (ρ : Env) (i : Nat), lk ρ i = (ρ[i]?).join
  | [], i => by simp [lk]
  | x :: r, 0 => by simp [lk]
  | x :: r, i + 1 => by simp [lk, lk_get r i]
theorem lk_set {ρ : Env} {i j : Nat} {o : Option D} (h : i < ρ.length) : lk (ρ.set i o) j = if j = i then o else lk ρ j := by
  rw [lk_get, lk_get]
  by_cases e : j = i
  · subst e
    rw [if_pos rfl, List.getElem?_set_self h]
    rfl
  · rw [if_neg e, List.getElem?_set_ne (Ne.symm e)]
/-- a name takes a value -/
theorem Rp.set {c : LC} {ρ : Env} {M : Mem} {σ : L2.St} {H : Hp} {i : Nat} {d : D} {v : V} (R : Rp c ρ M σ H) (r : Rep c.mg M H d v) (hx : ∀ j a cls d ε, c.xi = some (j, a, cls, d, ε) → i ≠ j) : Rp c (ρ.set i (some d)) M (σ.set i (some v)) H := by
  refine ⟨by simpa using R.len, fun j e h => ?_, R.mem, fun j a cls d ε e => by rw [List.getElem?_set_ne (hx j a cls d ε e)]; exact R.xi j a cls d ε e⟩
  by_cases hi : i < ρ.length
  · rw [lk_set hi] at h
    by_cases e' : j = i
    · subst e'
      rw [if_pos rfl] at h
      cases h
      exact ⟨v, List.getElem?_set_self (by rw [← R.len]; exact hi), r⟩
    · rw [if_neg e'] at h
      obtain ⟨w, q, z⟩ := R.env j e h
      exact ⟨w, by rw [List.getElem?_set_ne (Ne.symm e')]; exact q, z⟩
  · rw [List.set_eq_of_length_le (by omega)] at h
    obtain ⟨w, q, z⟩ := R.env j e h
    refine ⟨w, ?_, z⟩
    have hlt : j < σ.length := (List.getElem?_eq_some_iff.mp q).1
    have hl := R.len
    rw [List.getElem?_set_ne (by omega)]
    exact q
/-- a name is forgotten -/
theorem Rp.wipe1 {c : LC} {ρ : Env} {M : Mem} {σ : L2.St} {H : Hp} {i : Nat} {o : Option V} (R : Rp c ρ M σ H) (hx : ∀ j a cls d ε, c.xi = some (j, a, cls, d, ε) → i ≠ j) : Rp c (ρ.set i none) M (σ.set i o) H := by
  refine ⟨by simpa using R.len, fun j e h => ?_, R.mem, fun j a cls d ε e => by rw [List.getElem?_set_ne (hx j a cls d ε e)]; exact R.xi j a cls d ε e⟩
  by_cases hi : i < ρ.length
  · rw [lk_set hi] at h
    by_cases e' : j = i
    · rw [if_pos e'] at h
      cases h
    · rw [if_neg e'] at h
      obtain ⟨w, q, z⟩ := R.env j e h
      exact ⟨w, by rw [List.getElem?_set_ne (Ne.symm e')]; exact q, z⟩
  · rw [List.set_eq_of_length_le (by omega)] at h
    obtain ⟨w, q, z⟩ := R.env j e h
    refine ⟨w, ?_, z⟩
    have hlt : j < σ.length := (List.getElem?_eq_some_iff.mp q).1
    have hl := R.len
    rw [List.getElem?_set_ne (by omega)]
    exact q

/-- what is wanted of a value, of an exception -/
def Goes (c : LC) (M : Mem) (H : Hp) (Q' : K) (Q : VK) : Prop := ∀ d M' v H', Q' d M' → Mono M H M' H' → MRep c.mg M' H' → Rep c.mg M' H' d v → Q v H'
def Throws (c : LC) (W : XK) (M : Mem) (H : Hp) (E' : KX) : Prop := ∀ ε M' cls d H', E' ε M' → Mono M H M' H' → MRep c.mg M' H' → RepX c M' H' ε cls d → W cls d H'
theorem Goes.mono {c : LC} {M M1 : Mem} {H H1 : Hp} {Q' : K} {Q : VK} (g : Goes c M H Q' Q) (m : Mono M H M1 H1) : Goes c M1 H1 Q' Q := fun d M' v H' q m1 => g d M' v H' q (m.trans m1)
theorem Throws.mono {c : LC} {W : XK} {M M1 : Mem} {H H1 : Hp} {E' : KX} (g : Throws c W M H E') (m : Mono M H M1 H1) : Throws c W M1 H1 E' := fun d M' v cls H' q m1 => g d M' v cls H' q (m.trans m1)
theorem Goes.now {c : LC} {M : Mem} {H : Hp} {Q' : K} {Q : VK} (g : Goes c M H Q' Q) (mr : MRep c.mg M H) {d : D} {v : V} (q : Q' d M) (r : Rep c.mg M H d v) : Q v H := g d M v H q (Mono.refl _ _) mr r
theorem Goes.tup {c : LC} {M : Mem} {H : Hp} {Q' : K} {Q : VK} (g : Goes c M H Q' Q) (mr : MRep c.mg M H) {ds : List D} {vs : List V} {p : Addr} (q : Q' (.tup ds) M) (r : RepL c.mg M H ds vs) (hp : H p = none) : Q (.ref p) (upd H p (.tup vs)) :=
  g _ _ _ _ q (Mono.new hp) (mr.new hp) ⟨p, vs, rfl, mr.gone hp, upd_same, r.mono (Mono.new hp)⟩
theorem Goes.lst {c : LC} {M : Mem} {H : Hp} {Q' : K} {Q : VK} (g : Goes c M H Q' Q) (mr : MRep c.mg M H) {ds : List D} {vs : List V} {p : Addr} (q : Q' (.lst ds) M) (r : RepL c.mg M H ds vs) (hp : H p = none) : Q (.ref p) (upd H p (.lst vs)) :=
  g _ _ _ _ q (Mono.new hp) (mr.new hp) ⟨p, vs, rfl, mr.gone hp, .inl upd_same, r.mono (Mono.new hp)⟩
theorem Goes.newL {c : LC} {M : Mem} {H : Hp} {Q' : K} {Q : VK} (g : Goes c M H Q' Q) (mr : MRep c.mg M H) {m : Bool} {ds : List D} {vs : List V} {p : Addr} (q : newL m ds M Q') (r : RepL c.mg M H ds vs) (hp : H p = none) : Q (.ref p) (upd H p (.lst vs)) := by
  cases m with
  | false => exact g.lst mr q r hp
  | true =>
    have q := q p (mr.gone hp).1
    exact g _ _ _ _ q (Mono.put (.inl hp)) (mr.put (.inl hp) ⟨vs, upd_same, r.mono (Mono.put (.inl hp))⟩) rfl
theorem Goes.newK {c : LC} {M : Mem} {H : Hp} {Q' : K} {Q : VK} (g : Goes c M H Q' Q) (mr : MRep c.mg M H) {m : Bool} {ds : List (D × D)} {vs : List (Key × V)} {p : Addr} (q : newD m false ds M Q') (r : RepK c.mg M H ds vs) (hp : H p = none) : Q (.ref p) (upd H p (.dK vs)) := by
  cases m with
  | false => exact g _ _ _ _ q (Mono.new hp) (mr.new hp) ⟨p, rfl, mr.gone hp, vs, .inl upd_same, r.mono (Mono.new hp)⟩
  | true =>
    have q := q p (mr.gone hp).1
    exact g _ _ _ _ q (Mono.put (.inl hp)) (mr.put (.inl hp) ⟨vs, upd_same, r.mono (Mono.put (.inl hp))⟩) rfl
theorem Goes.newT {c : LC} {M : Mem} {H : Hp} {Q' : K} {Q : VK} (g : Goes c M H Q' Q) (mr : MRep c.mg M H) {m : Bool} {ds : List (D × D)} {vs : List (List Key × V)} {p : Addr} (q : newD m true ds M Q') (r : RepT c.mg M H ds vs) (hp : H p = none) : Q (.ref p) (upd H p (.dT vs)) := by
  cases m with
  | false => exact g _ _ _ _ q (Mono.new hp) (mr.new hp) ⟨p, rfl, mr.gone hp, vs, .inl upd_same, r.mono (Mono.new hp)⟩
  | true =>
    have q := q p (mr.gone hp).1
    exact g _ _ _ _ q (Mono.put (.inl hp)) (mr.put (.inl hp) ⟨vs, upd_same, r.mono (Mono.put (.inl hp))⟩) rfl

/-! ### hidden -/
def Gm.hide (g : Gm) (P : Addr) : Gm := ⟨g.mg, fun a => g.hid a ∨ a = P⟩
section
variable {g : Gm} {M M' : Mem} {H H' : Hp} {P : Addr}
theorem rdAt {H : Hp} {a : Addr} {u : HO} (r : Rd H a u) (hp : H a = none) : False := by
  rcases r with e | ⟨ob, e⟩ <;> (rw [hp] at e; cases e)
theorem rdUpd {H : Hp} {a p : Addr} {u o : HO} (r : Rd H a u) (ne : a ≠ p) : Rd (upd H p o) a u := by
  rcases r with e | ⟨ob, e⟩
  · exact .inl (by rw [upd_ne ne]; exact e)
  · exact .inr ⟨ob, by rw [upd_ne ne]; exact e⟩
theorem Keeps.hide {o : HO} (hp : H P = none) : Keeps g (g.hide P) M H M (upd H P o) := ⟨rfl, fun a u _ n r => by
    have ne : a ≠ P := by rintro rfl; exact rdAt r hp
    exact ⟨⟨n.1, fun z => z.elim n.2 ne⟩, rdUpd r ne⟩, fun a vs n e => by
    have ne : a ≠ P := by rintro rfl; rw [hp] at e; cases e
    rw [upd_ne ne]; exact e⟩
theorem Keeps.show : Keeps (g.hide P) g M H M H := ⟨rfl, fun _ _ _ n r => ⟨⟨n.1, fun z => n.2 (.inl z)⟩, r⟩, fun _ _ _ e => e⟩
theorem Keeps.showT {x : MO} : Keeps (g.hide P) g M H (up M P x) H := ⟨rfl, fun a _ _ n r => ⟨⟨by rw [up_ne (fun z => n.2 (.inr z))]; exact n.1, fun z => n.2 (.inl z)⟩, r⟩, fun _ _ _ e => e⟩
theorem Keeps.turn {o : HO} : Keeps (g.hide P) (g.hide P) M H M (upd H P o) := ⟨rfl, fun a u _ n r => ⟨n, rdUpd r fun z => n.2 (.inr z)⟩, fun a vs n e => by rw [upd_ne fun z => n.2 (.inr z)]; exact e⟩
theorem MRep.hide {o : HO} (m : MRep g M H) (hp : H P = none) : MRep (g.hide P) M (upd H P o) := ⟨fun a y e => by
    obtain ⟨u, q⟩ := (m.std a y e).at
    exact (m.std a y e).keeps (Keeps.hide hp) (upd_ne (ne_of_none q hp)), fun a h => by
    rcases h with h | h
    · obtain ⟨n, u, q⟩ := m.hid a h
      exact ⟨n, u, by rw [upd_ne (ne_of_none q hp)]; exact q⟩
    · subst h
      exact ⟨m.nil hp, o, upd_same⟩⟩
theorem MRep.turn {o : HO} (m : MRep (g.hide P) M H) : MRep (g.hide P) M (upd H P o) := ⟨fun a y e => by
    have ne : a ≠ P := by
      rintro rfl
      rw [(m.hid a (.inr rfl)).1] at e; cases e
    exact (m.std a y e).keeps Keeps.turn (upd_ne ne), fun a h => by
    obtain ⟨n, u, q⟩ := m.hid a h
    refine ⟨n, ?_⟩
    by_cases z : a = P
    · subst z; exact ⟨o, upd_same⟩
    · exact ⟨u, by rw [upd_ne z]; exact q⟩⟩
theorem MRep.show (m : MRep (g.hide P) M H) : MRep g M H := ⟨fun a y e => (m.std a y e).keeps Keeps.show rfl, fun a h => m.hid a (.inl h)⟩
theorem MRep.showT {xs : List D} {vs : List V} (m : MRep (g.hide P) M H) (e : H P = some (.lst vs)) (r : RepL (g.hide P) M H xs vs) (hn : ¬ g.hid P) : MRep g (up M P (.lst xs)) H := ⟨fun a y q => by
    by_cases z : a = P
    · subst z
      rw [up_same] at q
      cases q
      exact ⟨vs, e, r.keeps Keeps.showT⟩
    · rw [up_ne z] at q
      exact (m.std a y q).keeps Keeps.showT rfl, fun a h => by
    obtain ⟨n, u, q⟩ := m.hid a (.inl h)
    have ne : a ≠ P := by rintro rfl; exact hn h
    exact ⟨by rw [up_ne ne]; exact n, u, q⟩⟩
/-- tracked from now on -/
theorem Mono.youngT {x : MO} {p : Addr} (m : Mono M H M' H') (hp : H p = none) : Mono M H (up M' p x) H' where
  keep := fun a u n h r => by
    have ne : a ≠ p := by rintro rfl; exact rdAt r hp
    obtain ⟨h1, r1⟩ := m.keep a u n h r
    exact ⟨by rw [up_ne ne]; exact h1, r1⟩
  tup := fun a u t n e => by
    have ne : a ≠ p := by rintro rfl; rw [hp] at e; cases e
    obtain ⟨h1, e1⟩ := m.tup a u t n e
    exact ⟨by rw [up_ne ne]; exact h1, e1⟩
end
def LC.hide (c : LC) (P : Addr) : LC := ⟨c.mg.hide P, c.xi⟩
theorem Rp.keeps {c c' : LC} {ρ : Env} {M M' : Mem} {σ : L2.St} {H H' : Hp} (R : Rp c ρ M σ H) (m : Keeps c.mg c'.mg M H M' H') (mr : MRep c'.mg M' H') (hx : c'.xi = none) : Rp c' ρ M' σ H' :=
  ⟨R.len, fun i d e => let ⟨v, h, r⟩ := R.env i d e; ⟨v, h, r.keeps m⟩, mr, fun i a cls d ε e => by rw [hx] at e; cases e⟩
end Dee

set_option Elab.async false
set_option linter.all false
set_option autoImplicit false
set_option maxRecDepth 100000
/-! Dee: rules by values that the hand layer has not: == and in of data at any depth, lists joined. -/
namespace Dee
open PySem PySem.Spec PyProof.Rows L2

mutual
/-- data that stand in memory, none of which may change meanwhile -/
def RepD (H : Hp) : D → V → Prop
  | .non, v => v = .non
  | .bl b, v => v = .bl b
  | .int i, v => v = .int i
  | .str s, v => v = .str s
  | .tup ds, v => ∃ a vs, v = .ref a ∧ H a = some (.tup vs) ∧ RepDL H ds vs
  | .lst ds, v => ∃ a vs, v = .ref a ∧ Rd H a (.lst vs) ∧ RepDL H ds vs
  | .dct _ _, _ => False
  | .obj _ _, _ => False
  | .ref _, _ => False
  | .clo _ _, _ => False
def RepDL (H : Hp) : List D → List V → Prop
  | [], vs => vs = []
  | d :: ds, vs => ∃ v r, vs = v :: r ∧ RepD H d v ∧ RepDL H ds r
end
section
variable {mg : Gm} {M : Mem} {H : Hp}
mutual
theorem Rep.dat : ∀ {d : D} {v : V}, Rep mg M H d v → d.dep ≤ 60 → RepD H d v
  | .non, _, h, _ => h
  | .bl _, _, h, _ => h
  | .int _, _, h, _ => h
  | .str _, _, h, _ => h
  | .tup ds, _, ⟨a, vs, e, n, h, r⟩, q => ⟨a, vs, e, h, RepL.dat r (by simp only [D.dep] at q; omega)⟩
  | .lst ds, _, ⟨a, vs, e, n, h, r⟩, q => ⟨a, vs, e, h, RepL.dat r (by simp only [D.dep] at q; omega)⟩
  | .dct _ _, _, _, q => absurd q (by simp only [D.dep]; decide)
  | .obj _ _, _, _, q => absurd q (by simp only [D.dep]; decide)
  | .ref _, _, _, q => absurd q (by simp only [D.dep]; decide)
  | .clo _ _, _, _, q => absurd q (by simp only [D.dep]; decide)
theorem RepL.dat : ∀ {ds : List D} {vs : List V}, RepL mg M H ds vs → depL ds ≤ 60 → RepDL H ds vs
  | [], _, h, _ => h
  | d :: ds, _, ⟨v, r, e, h, hr⟩, q => ⟨v, r, e, Rep.dat h (by simp only [depL] at q; omega), RepL.dat hr (by simp only [depL] at q; omega)⟩
end
theorem Rep.ice (m : MRep mg M H) {d : D} {v : V} (r : Rep mg M H d v) (q : (iceL M d).dep ≤ 60) : RepD H (iceL M d) v := by
  cases d with
  | ref a =>
    unfold iceL at q ⊢
    dsimp only at q ⊢
    split
    · rename_i xs e
      rw [e] at q
      dsimp only at q
      obtain ⟨vs, h, r'⟩ := m.std a _ e
      have r2 : v = .ref a := r
      exact ⟨a, vs, r2, .inl h, r'.dat (by simp only [D.dep] at q; omega)⟩
    · rename_i hn
      split at q
      · rename_i xs e
        exact absurd e (hn xs)
      · exact absurd q (by simp only [D.dep]; decide)
  | _ => exact r.dat q
end
theorem Rd.lst_inj {H : Hp} {a : Addr} {vs us : List V} (h : Rd H a (.lst vs)) (h' : Rd H a (.lst us)) : vs = us := by
  rcases h with h | ⟨o, h⟩ <;> rcases h' with h' | ⟨o', h'⟩ <;> (rw [h] at h'; cases h'; try rfl)
theorem Rd.no_tup {H : Hp} {a : Addr} {vs us : List V} (h : H a = some (.tup vs)) (h' : Rd H a (.lst us)) : False := by
  rcases h' with h' | ⟨o', h'⟩ <;> (rw [h] at h'; cases h')
mutual
theorem RepD.inj {H : Hp} : ∀ {d e : D} {v : V}, RepD H d v → RepD H e v → d = e
  | .non, e, v, h, h' => by cases (show v = .non from h); cases e <;> simp [RepD] at h' <;> rfl
  | .bl b, e, v, h, h' => by cases (show v = .bl b from h); cases e <;> simp [RepD] at h' <;> (subst h'; rfl)
  | .int b, e, v, h, h' => by cases (show v = .int b from h); cases e <;> simp [RepD] at h' <;> (subst h'; rfl)
  | .str b, e, v, h, h' => by cases (show v = .str b from h); cases e <;> simp [RepD] at h' <;> (subst h'; rfl)
  | .tup ds, e, v, ⟨a, vs, q, h, r⟩, h' => by
    subst q
    cases e with
    | tup es =>
      obtain ⟨b, us, q, h2, r2⟩ := h'
      cases q
      rw [h] at h2
      cases h2
      rw [RepDL.inj r r2]
    | lst es =>
      obtain ⟨b, us, q, h2, r2⟩ := h'
      cases q
      exact (Rd.no_tup h h2).elim
    | _ => simp [RepD] at h'
  | .lst ds, e, v, ⟨a, vs, q, h, r⟩, h' => by
    subst q
    cases e with
    | lst es =>
      obtain ⟨b, us, q, h2, r2⟩ := h'
      cases q
      have e := Rd.lst_inj h h2
      subst e
      rw [RepDL.inj r r2]
    | tup es =>
      obtain ⟨b, us, q, h2, r2⟩ := h'
      cases q
      exact (Rd.no_tup h2 h).elim
    | _ => simp [RepD] at h'
  | .dct _ _, _, _, h, _ => h.elim
  | .obj _ _, _, _, h, _ => h.elim
  | .ref _, _, _, h, _ => h.elim
  | .clo _ _, _, _, h, _ => h.elim
theorem RepDL.inj {H : Hp} : ∀ {d e : List D} {v : List V}, RepDL H d v → RepDL H e v → d = e
  | [], e, v, h, h' => by
    cases (show v = [] from h)
    cases e with
    | nil => rfl
    | cons _ _ => obtain ⟨_, _, q, _⟩ := h'; cases q
  | d :: ds, e, v, ⟨w, r, q, h1, h2⟩, h' => by
    subst q
    cases e with
    | nil => cases (show _ :: _ = [] from h')
    | cons e es =>
      obtain ⟨w', r', q, h3, h4⟩ := h'
      cases q
      rw [RepD.inj h1 h3, RepDL.inj h2 h4]
end
theorem RepDL.length {H : Hp} : ∀ {ds : List D} {vs : List V}, RepDL H ds vs → ds.length = vs.length
  | [], _, h => by cases h; rfl
  | _ :: _, _, ⟨v, r, e, h, hr⟩ => by cases e; simp [RepDL.length hr]

/-! ### == -/
theorem peqL_all : ∀ (xs ys : List D), peqL xs ys = ((List.range (min xs.length ys.length)).all (fun j => peq (xs.getD j .non) (ys.getD j .non)) && xs.length == ys.length)
  | [], [] => by simp [peqL]
  | [], _ :: _ => by simp [peqL]
  | _ :: _, [] => by simp [peqL]
  | x :: xs, y :: ys => by
    have ih := peqL_all xs ys
    simp only [peqL, ih, List.length_cons, Nat.succ_min_succ, List.range_succ_eq_map, List.all_cons, List.all_map, Function.comp_def, List.getD_cons_zero, List.getD_cons_succ]
    have e : (xs.length + 1 == ys.length + 1) = (xs.length == ys.length) := by
      by_cases h : xs.length = ys.length <;> simp [h]
    rw [e, Bool.and_assoc]
section
variable {X : Cx} {pins : List (Addr × Obj)} {σ : L2.St} {H : Hp} {s : Shared}
open PySem.SeqAt
theorem Rd.listAt (I : Inv X pins σ H s) {a : Addr} {vs : List V} (h : Rd H a (.lst vs)) : vs.length ≤ sizeLine ∧ ∃ (its : List Value) (n : Nat), Vals vs its ∧ s.heap.get? a = some { cls := .type "list", data := .seq its.toArray n } := by
  obtain ⟨z, its, n, r, e⟩ := h.ok I.hok
  exact ⟨z, its, n, r, e⟩
theorem tupAt (I : Inv X pins σ H s) {a : Addr} {vs : List V} (h : H a = some (.tup vs)) : vs.length ≤ sizeLine ∧ ∃ (its : List Value), Vals vs its ∧ IsTup s.heap a its.toArray := by
  obtain ⟨its, r, p, z⟩ := I.tuple (SqT.of h)
  exact ⟨z, its, r, p⟩
/-- item by item -/
theorem eq_items {A : Around} {H : Hp} {ds es : List D} {vs us : List V} {its jts : List Value} (rd : RepDL H ds vs) (re : RepDL H es us) (r1 : Vals vs its) (r2 : Vals us jts)
    (ih : ∀ d ∈ ds, ∀ e ∈ es, ∀ v u x y, RepD H d v → RepD H e u → RelV v x → RelV u y → EqAt A.in1 s x y (peq d e)) :
    ∀ j (h1 : j < its.toArray.size) (h2 : j < jts.toArray.size), EqAt A.in1 s its.toArray[j] jts.toArray[j] (peq (ds.getD j .non) (es.getD j .non)) := by
  induction ds generalizing es vs us its jts with
  | nil =>
    cases (show vs = [] from rd)
    cases r1
    intro j h1
    exact absurd h1 (by simp)
  | cons d ds ihl =>
    obtain ⟨v, r, q, h1, h2⟩ := rd
    subst q
    cases r1 with
    | @cons _ x _ xs rv rt =>
      cases es with
      | nil =>
        cases (show us = [] from re)
        cases r2
        intro j _ h2
        exact absurd h2 (by simp)
      | cons e es =>
        obtain ⟨u, r', q, h3, h4⟩ := re
        subst q
        cases r2 with
        | @cons _ y _ ys ru rt2 =>
          intro j
          cases j with
          | zero =>
            intro _ _
            exact ih d List.mem_cons_self e List.mem_cons_self v u x y h1 h3 rv ru
          | succ j =>
            intro k1 k2
            have := ihl h2 h4 rt rt2 (fun d hd e he => ih d (List.mem_cons_of_mem _ hd) e (List.mem_cons_of_mem _ he)) j (by simpa using k1) (by simpa using k2)
            simpa using this
theorem dep_mem {x : D} {xs : List D} (h : x ∈ xs) : x.dep ≤ depL xs := by
  induction xs with
  | nil => cases h
  | cons y ys ih =>
    simp only [depL]
    rcases List.mem_cons.mp h with rfl | h
    · omega
    · have := ih h; omega
mutual
theorem peq_refl {H : Hp} : ∀ (d : D) {v : V}, RepD H d v → peq d d = true
  | .non, _, _ => rfl
  | .bl b, _, _ => by simp [peq]
  | .int b, _, _ => by simp [peq]
  | .str b, _, _ => by simp [peq]
  | .tup ds, _, ⟨a, vs, e, h, r⟩ => by simpa [peq] using peqL_refl ds r
  | .lst ds, _, ⟨a, vs, e, h, r⟩ => by simpa [peq] using peqL_refl ds r
  | .dct _ _, _, h => h.elim
  | .obj _ _, _, h => h.elim
  | .ref _, _, h => h.elim
  | .clo _ _, _, h => h.elim
theorem peqL_refl {H : Hp} : ∀ (ds : List D) {vs : List V}, RepDL H ds vs → peqL ds ds = true
  | [], _, _ => rfl
  | d :: ds, _, ⟨v, r, e, h, hr⟩ => by simp [peqL, peq_refl d h, peqL_refl ds hr]
end
theorem eqAt_flat {A : Around} (I : Inv X pins σ H s) (d e : D) (v u : V) (x y : Value) (hn : d.dep ≤ 0) (hd : RepD H d v) (he : RepD H e u) (rv : RelV v x) (ru : RelV u y) (hu' : A.units < cLine) : EqAt A s x y (peq d e) := by
  cases d with
  | non =>
    cases (show v = .non from hd)
    cases (show x = Value.none from rv)
    cases e with
    | non => cases (show u = .non from he); cases (show y = Value.none from ru); exact EqAt.same _
    | bl b => cases (show u = .bl b from he); cases (show y = Value.bool b from ru); exact EqAt.none_bool b
    | int b => cases (show u = .int b from he); obtain ⟨t, rfl⟩ := (show ∃ t, y = Value.int b t from ru); exact EqAt.none_int b t
    | str b => cases (show u = .str b from he); obtain ⟨t, rfl⟩ := (show ∃ t, y = Value.str b t from ru); exact EqAt.none_str b t
    | tup es => obtain ⟨a, us, rfl, h, r⟩ := he; cases (show y = Value.ref a from ru); obtain ⟨z, its, r2, p⟩ := tupAt I h; exact EqAt.none_tuple p hu'
    | lst es => obtain ⟨a, us, rfl, h, r⟩ := he; cases (show y = Value.ref a from ru); obtain ⟨z, its, n, r2, p⟩ := Rd.listAt I h; exact EqAt.none_list ⟨_, p, rfl, _, rfl⟩ hu'
    | _ => exact he.elim
  | bl k =>
    cases (show v = .bl k from hd)
    cases (show x = Value.bool k from rv)
    cases e with
    | non => cases (show u = .non from he); cases (show y = Value.none from ru); exact EqAt.bool_none k
    | bl b => cases (show u = .bl b from he); cases (show y = Value.bool b from ru); exact EqAt.bool_bool k b
    | int b => cases (show u = .int b from he); obtain ⟨t, rfl⟩ := (show ∃ t, y = Value.int b t from ru); exact EqAt.bool_int k b t
    | str b => cases (show u = .str b from he); obtain ⟨t, rfl⟩ := (show ∃ t, y = Value.str b t from ru); exact EqAt.bool_str k b t
    | tup es => obtain ⟨a, us, rfl, h, r⟩ := he; cases (show y = Value.ref a from ru); obtain ⟨z, its, r2, p⟩ := tupAt I h; exact EqAt.bool_tuple k p hu'
    | lst es => obtain ⟨a, us, rfl, h, r⟩ := he; cases (show y = Value.ref a from ru); obtain ⟨z, its, n, r2, p⟩ := Rd.listAt I h; exact EqAt.bool_list k ⟨_, p, rfl, _, rfl⟩ hu'
    | _ => exact he.elim
  | int k =>
    cases (show v = .int k from hd)
    obtain ⟨tk, rfl⟩ := (show ∃ t, x = Value.int k t from rv)
    cases e with
    | non => cases (show u = .non from he); cases (show y = Value.none from ru); exact EqAt.int_none k tk
    | bl b => cases (show u = .bl b from he); cases (show y = Value.bool b from ru); exact EqAt.int_bool k tk b
    | int b => cases (show u = .int b from he); obtain ⟨t, rfl⟩ := (show ∃ t, y = Value.int b t from ru); exact EqAt.int_int k tk b t
    | str b => cases (show u = .str b from he); obtain ⟨t, rfl⟩ := (show ∃ t, y = Value.str b t from ru); exact EqAt.int_str k tk b t
    | tup es => obtain ⟨a, us, rfl, h, r⟩ := he; cases (show y = Value.ref a from ru); obtain ⟨z, its, r2, p⟩ := tupAt I h; exact EqAt.int_tuple k tk p hu'
    | lst es => obtain ⟨a, us, rfl, h, r⟩ := he; cases (show y = Value.ref a from ru); obtain ⟨z, its, n, r2, p⟩ := Rd.listAt I h; exact EqAt.int_list k tk ⟨_, p, rfl, _, rfl⟩ hu'
    | _ => exact he.elim
  | str k =>
    cases (show v = .str k from hd)
    obtain ⟨tk, rfl⟩ := (show ∃ t, x = Value.str k t from rv)
    cases e with
    | non => cases (show u = .non from he); cases (show y = Value.none from ru); exact EqAt.str_none k tk
    | bl b => cases (show u = .bl b from he); cases (show y = Value.bool b from ru); exact EqAt.str_bool k tk b
    | int b => cases (show u = .int b from he); obtain ⟨t, rfl⟩ := (show ∃ t, y = Value.int b t from ru); exact EqAt.str_int k tk b t
    | str b => cases (show u = .str b from he); obtain ⟨t, rfl⟩ := (show ∃ t, y = Value.str b t from ru); exact EqAt.str_str k tk b t
    | tup es => obtain ⟨a, us, rfl, h, r⟩ := he; cases (show y = Value.ref a from ru); obtain ⟨z, its, r2, p⟩ := tupAt I h; exact EqAt.str_tuple k tk p hu'
    | lst es => obtain ⟨a, us, rfl, h, r⟩ := he; cases (show y = Value.ref a from ru); obtain ⟨z, its, n, r2, p⟩ := Rd.listAt I h; exact EqAt.str_list k tk ⟨_, p, rfl, _, rfl⟩ hu'
    | _ => exact he.elim
  | tup ds => simp only [D.dep] at hn; omega
  | lst ds => simp only [D.dep] at hn; omega
  | _ => exact hd.elim
theorem eqAt_dat : ∀ (n : Nat) (A : Around) (I : Inv X pins σ H s) (d e : D) (v u : V) (x y : Value), d.dep ≤ n → RepD H d v → RepD H e u → RelV v x → RelV u y → A.units + n < cLine → EqAt A s x y (peq d e) := by
  intro n
  induction n with
  | zero =>
    intro A I d e v u x y hn hd he rv ru hu
    exact eqAt_flat I d e v u x y hn hd he rv ru (by omega)
  | succ n ih =>
    intro A I d e v u x y hn hd he rv ru hu
    have hu' : A.units < cLine := by omega
    have hu1 : A.in1.units + n < cLine := by show A.units + 1 + n < cLine; omega
    have flat : d.dep ≤ 0 → EqAt A s x y (peq d e) := fun h0 => eqAt_flat I d e v u x y h0 hd he rv ru hu'
    cases d with
    | tup ds =>
      obtain ⟨a, vs, rfl, h, r⟩ := hd
      cases (show x = Value.ref a from rv)
      obtain ⟨z, its, r1, p⟩ := tupAt I h
      cases e with
      | non => cases (show u = .non from he); cases (show y = Value.none from ru); exact EqAt.tuple_none p hu'
      | bl b => cases (show u = .bl b from he); cases (show y = Value.bool b from ru); exact EqAt.tuple_bool b p hu'
      | int b => cases (show u = .int b from he); obtain ⟨t, rfl⟩ := (show ∃ t, y = Value.int b t from ru); exact EqAt.tuple_int b t p hu'
      | str b => cases (show u = .str b from he); obtain ⟨t, rfl⟩ := (show ∃ t, y = Value.str b t from ru); exact EqAt.tuple_str b t p hu'
      | lst es => obtain ⟨c, us, rfl, h2, r2⟩ := he; cases (show y = Value.ref c from ru); obtain ⟨z2, jts, m, r3, p2⟩ := Rd.listAt I h2; exact EqAt.tuple_list p ⟨_, p2, rfl, _, rfl⟩ hu'
      | tup es =>
        obtain ⟨c, us, rfl, h2, r2⟩ := he
        cases (show y = Value.ref c from ru)
        obtain ⟨z2, jts, r3, p2⟩ := tupAt I h2
        by_cases hac : a = c
        · subst hac
          rw [h] at h2
          cases h2
          have e2 := RepDL.inj r r2
          subst e2
          have := peq_refl (.tup ds) ⟨a, vs, rfl, h, r⟩
          rw [this]
          exact EqAt.same _
        · refine EqAt.of_refs hac ?_
          have hq := RcAt.tuples (e := fun j => peq (ds.getD j .non) (es.getD j .non)) p p2 hu' (eq_items r r2 r1 r3 fun d hd e he v u x y h1 h2 h3 h4 => ih A.in1 I d e v u x y (by have := dep_mem hd; simp only [D.dep] at hn; omega) h1 h2 h3 h4 hu1)
          have e1 : its.toArray.size = ds.length := by rw [List.size_toArray, ← r1.length, r.length]
          have e2 : jts.toArray.size = es.length := by rw [List.size_toArray, ← r3.length, r2.length]
          rw [e1, e2, ← peqL_all] at hq
          exact hq
      | _ => exact he.elim
    | lst ds =>
      obtain ⟨a, vs, rfl, h, r⟩ := hd
      cases (show x = Value.ref a from rv)
      obtain ⟨z, its, m0, r1, p⟩ := Rd.listAt I h
      cases e with
      | non => cases (show u = .non from he); cases (show y = Value.none from ru); exact EqAt.list_none ⟨_, p, rfl, _, rfl⟩ hu'
      | bl b => cases (show u = .bl b from he); cases (show y = Value.bool b from ru); exact EqAt.list_bool b ⟨_, p, rfl, _, rfl⟩ hu'
      | int b => cases (show u = .int b from he); obtain ⟨t, rfl⟩ := (show ∃ t, y = Value.int b t from ru); exact EqAt.list_int b t ⟨_, p, rfl, _, rfl⟩ hu'
      | str b => cases (show u = .str b from he); obtain ⟨t, rfl⟩ := (show ∃ t, y = Value.str b t from ru); exact EqAt.list_str b t ⟨_, p, rfl, _, rfl⟩ hu'
      | tup es => obtain ⟨c, us, rfl, h2, r2⟩ := he; cases (show y = Value.ref c from ru); obtain ⟨z2, jts, r3, p2⟩ := tupAt I h2; exact EqAt.list_tuple ⟨_, p, rfl, _, rfl⟩ p2 hu'
      | lst es =>
        obtain ⟨c, us, rfl, h2, r2⟩ := he
        cases (show y = Value.ref c from ru)
        obtain ⟨z2, jts, m, r3, p2⟩ := Rd.listAt I h2
        by_cases hac : a = c
        · subst hac
          have e0 := Rd.lst_inj h h2
          subst e0
          have e2 := RepDL.inj r r2
          subst e2
          have := peq_refl (.lst ds) ⟨a, vs, rfl, h, r⟩
          rw [this]
          exact EqAt.same _
        · refine EqAt.of_refs hac ?_
          have e1 : its.toArray.size = ds.length := by rw [List.size_toArray, ← r1.length, r.length]
          have e2 : jts.toArray.size = es.length := by rw [List.size_toArray, ← r3.length, r2.length]
          by_cases hl : ds.length = es.length
          · have hq := RcAt.lists (e := fun j => peq (ds.getD j .non) (es.getD j .non)) ⟨_, p, rfl, _, rfl⟩ ⟨_, p2, rfl, _, rfl⟩ (by rw [e1, e2, hl]) hu' (eq_items r r2 r1 r3 fun d hd e he v u x y h1 h2 h3 h4 => ih A.in1 I d e v u x y (by have := dep_mem hd; simp only [D.dep] at hn; omega) h1 h2 h3 h4 hu1)
            have e3 : peq (.lst ds) (.lst es) = (List.range its.toArray.size).all fun j => peq (ds.getD j .non) (es.getD j .non) := by
              show peqL ds es = _
              rw [peqL_all, e1, hl, Nat.min_self]
              simp
            rw [e3]
            exact hq
          · have e3 : peq (.lst ds) (.lst es) = false := by
              show peqL ds es = _
              rw [peqL_all]
              simp [hl]
            rw [e3]
            exact RcAt.lists_lengths ⟨_, p, rfl, _, rfl⟩ ⟨_, p2, rfl, _, rfl⟩ (by rw [e1, e2]; simp [hl]) hu'
      | _ => exact he.elim
    | non => exact flat (by simp only [D.dep]; omega)
    | bl _ => exact flat (by simp only [D.dep]; omega)
    | int _ => exact flat (by simp only [D.dep]; omega)
    | str _ => exact flat (by simp only [D.dep]; omega)
    | _ => exact hd.elim
theorem rcAt_flat {A : Around} (I : Inv X pins σ H s) (d e : D) (v u : V) (x y : Value) (hn : d.dep ≤ 0) (hd : RepD H d v) (he : RepD H e u) (rv : RelV v x) (ru : RelV u y) (hu' : A.units < cLine) : RcAt A s x y (peq d e) := by
  cases d with
  | non =>
    cases (show v = .non from hd)
    cases (show x = Value.none from rv)
    cases e with
    | non => cases (show u = .non from he); cases (show y = Value.none from ru); exact RcAt.none_none
    | bl b => cases (show u = .bl b from he); cases (show y = Value.bool b from ru); exact RcAt.none_bool b
    | int b => cases (show u = .int b from he); obtain ⟨t, rfl⟩ := (show ∃ t, y = Value.int b t from ru); exact RcAt.none_int b t
    | str b => cases (show u = .str b from he); obtain ⟨t, rfl⟩ := (show ∃ t, y = Value.str b t from ru); exact RcAt.none_str b t
    | tup es => obtain ⟨a, us, rfl, h, r⟩ := he; cases (show y = Value.ref a from ru); obtain ⟨z, its, r2, p⟩ := tupAt I h; exact RcAt.none_tuple p hu'
    | lst es => obtain ⟨a, us, rfl, h, r⟩ := he; cases (show y = Value.ref a from ru); obtain ⟨z, its, n, r2, p⟩ := Rd.listAt I h; exact RcAt.none_list ⟨_, p, rfl, _, rfl⟩ hu'
    | _ => exact he.elim
  | bl k =>
    cases (show v = .bl k from hd)
    cases (show x = Value.bool k from rv)
    cases e with
    | non => cases (show u = .non from he); cases (show y = Value.none from ru); exact RcAt.bool_none k
    | bl b => cases (show u = .bl b from he); cases (show y = Value.bool b from ru); exact RcAt.bool_bool k b
    | int b => cases (show u = .int b from he); obtain ⟨t, rfl⟩ := (show ∃ t, y = Value.int b t from ru); exact RcAt.bool_int k b t
    | str b => cases (show u = .str b from he); obtain ⟨t, rfl⟩ := (show ∃ t, y = Value.str b t from ru); exact RcAt.bool_str k b t
    | tup es => obtain ⟨a, us, rfl, h, r⟩ := he; cases (show y = Value.ref a from ru); obtain ⟨z, its, r2, p⟩ := tupAt I h; exact RcAt.bool_tuple k p hu'
    | lst es => obtain ⟨a, us, rfl, h, r⟩ := he; cases (show y = Value.ref a from ru); obtain ⟨z, its, n, r2, p⟩ := Rd.listAt I h; exact RcAt.bool_list k ⟨_, p, rfl, _, rfl⟩ hu'
    | _ => exact he.elim
  | int k =>
    cases (show v = .int k from hd)
    obtain ⟨tk, rfl⟩ := (show ∃ t, x = Value.int k t from rv)
    cases e with
    | non => cases (show u = .non from he); cases (show y = Value.none from ru); exact RcAt.int_none k tk
    | bl b => cases (show u = .bl b from he); cases (show y = Value.bool b from ru); exact RcAt.int_bool k tk b
    | int b => cases (show u = .int b from he); obtain ⟨t, rfl⟩ := (show ∃ t, y = Value.int b t from ru); exact RcAt.int_int k tk b t
    | str b => cases (show u = .str b from he); obtain ⟨t, rfl⟩ := (show ∃ t, y = Value.str b t from ru); exact RcAt.int_str k tk b t
    | tup es => obtain ⟨a, us, rfl, h, r⟩ := he; cases (show y = Value.ref a from ru); obtain ⟨z, its, r2, p⟩ := tupAt I h; exact RcAt.int_tuple k tk p hu'
    | lst es => obtain ⟨a, us, rfl, h, r⟩ := he; cases (show y = Value.ref a from ru); obtain ⟨z, its, n, r2, p⟩ := Rd.listAt I h; exact RcAt.int_list k tk ⟨_, p, rfl, _, rfl⟩ hu'
    | _ => exact he.elim
  | str k =>
    cases (show v = .str k from hd)
    obtain ⟨tk, rfl⟩ := (show ∃ t, x = Value.str k t from rv)
    cases e with
    | non => cases (show u = .non from he); cases (show y = Value.none from ru); exact RcAt.str_none k tk
    | bl b => cases (show u = .bl b from he); cases (show y = Value.bool b from ru); exact RcAt.str_bool k tk b
    | int b => cases (show u = .int b from he); obtain ⟨t, rfl⟩ := (show ∃ t, y = Value.int b t from ru); exact RcAt.str_int k tk b t
    | str b => cases (show u = .str b from he); obtain ⟨t, rfl⟩ := (show ∃ t, y = Value.str b t from ru); exact RcAt.str_str k tk b t
    | tup es => obtain ⟨a, us, rfl, h, r⟩ := he; cases (show y = Value.ref a from ru); obtain ⟨z, its, r2, p⟩ := tupAt I h; exact RcAt.str_tuple k tk p hu'
    | lst es => obtain ⟨a, us, rfl, h, r⟩ := he; cases (show y = Value.ref a from ru); obtain ⟨z, its, n, r2, p⟩ := Rd.listAt I h; exact RcAt.str_list k tk ⟨_, p, rfl, _, rfl⟩ hu'
    | _ => exact he.elim
  | tup ds => simp only [D.dep] at hn; omega
  | lst ds => simp only [D.dep] at hn; omega
  | _ => exact hd.elim
theorem rcAt_dat (n : Nat) (A : Around) (I : Inv X pins σ H s) (d e : D) (v u : V) (x y : Value) (hn : d.dep ≤ n + 1) (hd : RepD H d v) (he : RepD H e u) (rv : RelV v x) (ru : RelV u y) (hu : A.units + (n + 1) < cLine) : RcAt A s x y (peq d e) := by
    have hu' : A.units < cLine := by omega
    have hu1 : A.in1.units + n < cLine := by show A.units + 1 + n < cLine; omega
    have flat : d.dep ≤ 0 → RcAt A s x y (peq d e) := fun h0 => rcAt_flat I d e v u x y h0 hd he rv ru hu'
    cases d with
    | tup ds =>
      obtain ⟨a, vs, rfl, h, r⟩ := hd
      cases (show x = Value.ref a from rv)
      obtain ⟨z, its, r1, p⟩ := tupAt I h
      cases e with
      | non => cases (show u = .non from he); cases (show y = Value.none from ru); exact RcAt.tuple_none p hu'
      | bl b => cases (show u = .bl b from he); cases (show y = Value.bool b from ru); exact RcAt.tuple_bool b p hu'
      | int b => cases (show u = .int b from he); obtain ⟨t, rfl⟩ := (show ∃ t, y = Value.int b t from ru); exact RcAt.tuple_int b t p hu'
      | str b => cases (show u = .str b from he); obtain ⟨t, rfl⟩ := (show ∃ t, y = Value.str b t from ru); exact RcAt.tuple_str b t p hu'
      | lst es => obtain ⟨c, us, rfl, h2, r2⟩ := he; cases (show y = Value.ref c from ru); obtain ⟨z2, jts, m, r3, p2⟩ := Rd.listAt I h2; exact RcAt.tuple_list p ⟨_, p2, rfl, _, rfl⟩ hu'
      | tup es =>
        obtain ⟨c, us, rfl, h2, r2⟩ := he
        cases (show y = Value.ref c from ru)
        obtain ⟨z2, jts, r3, p2⟩ := tupAt I h2
        · skip
          have hq := RcAt.tuples (e := fun j => peq (ds.getD j .non) (es.getD j .non)) p p2 hu' (eq_items r r2 r1 r3 fun d hd e he v u x y h1 h2 h3 h4 => eqAt_dat n A.in1 I d e v u x y (by have := dep_mem hd; simp only [D.dep] at hn; omega) h1 h2 h3 h4 hu1)
          have e1 : its.toArray.size = ds.length := by rw [List.size_toArray, ← r1.length, r.length]
          have e2 : jts.toArray.size = es.length := by rw [List.size_toArray, ← r3.length, r2.length]
          rw [e1, e2, ← peqL_all] at hq
          exact hq
      | _ => exact he.elim
    | lst ds =>
      obtain ⟨a, vs, rfl, h, r⟩ := hd
      cases (show x = Value.ref a from rv)
      obtain ⟨z, its, m0, r1, p⟩ := Rd.listAt I h
      cases e with
      | non => cases (show u = .non from he); cases (show y = Value.none from ru); exact RcAt.list_none ⟨_, p, rfl, _, rfl⟩ hu'
      | bl b => cases (show u = .bl b from he); cases (show y = Value.bool b from ru); exact RcAt.list_bool b ⟨_, p, rfl, _, rfl⟩ hu'
      | int b => cases (show u = .int b from he); obtain ⟨t, rfl⟩ := (show ∃ t, y = Value.int b t from ru); exact RcAt.list_int b t ⟨_, p, rfl, _, rfl⟩ hu'
      | str b => cases (show u = .str b from he); obtain ⟨t, rfl⟩ := (show ∃ t, y = Value.str b t from ru); exact RcAt.list_str b t ⟨_, p, rfl, _, rfl⟩ hu'
      | tup es => obtain ⟨c, us, rfl, h2, r2⟩ := he; cases (show y = Value.ref c from ru); obtain ⟨z2, jts, r3, p2⟩ := tupAt I h2; exact RcAt.list_tuple ⟨_, p, rfl, _, rfl⟩ p2 hu'
      | lst es =>
        obtain ⟨c, us, rfl, h2, r2⟩ := he
        cases (show y = Value.ref c from ru)
        obtain ⟨z2, jts, m, r3, p2⟩ := Rd.listAt I h2
        · skip
          have e1 : its.toArray.size = ds.length := by rw [List.size_toArray, ← r1.length, r.length]
          have e2 : jts.toArray.size = es.length := by rw [List.size_toArray, ← r3.length, r2.length]
          by_cases hl : ds.length = es.length
          · have hq := RcAt.lists (e := fun j => peq (ds.getD j .non) (es.getD j .non)) ⟨_, p, rfl, _, rfl⟩ ⟨_, p2, rfl, _, rfl⟩ (by rw [e1, e2, hl]) hu' (eq_items r r2 r1 r3 fun d hd e he v u x y h1 h2 h3 h4 => eqAt_dat n A.in1 I d e v u x y (by have := dep_mem hd; simp only [D.dep] at hn; omega) h1 h2 h3 h4 hu1)
            have e3 : peq (.lst ds) (.lst es) = (List.range its.toArray.size).all fun j => peq (ds.getD j .non) (es.getD j .non) := by
              show peqL ds es = _
              rw [peqL_all, e1, hl, Nat.min_self]
              simp
            rw [e3]
            exact hq
          · have e3 : peq (.lst ds) (.lst es) = false := by
              show peqL ds es = _
              rw [peqL_all]
              simp [hl]
            rw [e3]
            exact RcAt.lists_lengths ⟨_, p, rfl, _, rfl⟩ ⟨_, p2, rfl, _, rfl⟩ (by rw [e1, e2]; simp [hl]) hu'
      | _ => exact he.elim
    | non => exact flat (by simp only [D.dep]; omega)
    | bl _ => exact flat (by simp only [D.dep]; omega)
    | int _ => exact flat (by simp only [D.dep]; omega)
    | str _ => exact flat (by simp only [D.dep]; omega)
    | _ => exact hd.elim
theorem rcNeAt_flat {A : Around} (I : Inv X pins σ H s) (d e : D) (v u : V) (x y : Value) (hn : d.dep ≤ 0) (hd : RepD H d v) (he : RepD H e u) (rv : RelV v x) (ru : RelV u y) (hu' : A.units < cLine) : RcNeAt A s x y (!peq d e) := by
  cases d with
  | non =>
    cases (show v = .non from hd)
    cases (show x = Value.none from rv)
    cases e with
    | non => cases (show u = .non from he); cases (show y = Value.none from ru); exact RcNeAt.none_none
    | bl b => cases (show u = .bl b from he); cases (show y = Value.bool b from ru); exact RcNeAt.none_bool b
    | int b => cases (show u = .int b from he); obtain ⟨t, rfl⟩ := (show ∃ t, y = Value.int b t from ru); exact RcNeAt.none_int b t
    | str b => cases (show u = .str b from he); obtain ⟨t, rfl⟩ := (show ∃ t, y = Value.str b t from ru); exact RcNeAt.none_str b t
    | tup es => obtain ⟨a, us, rfl, h, r⟩ := he; cases (show y = Value.ref a from ru); obtain ⟨z, its, r2, p⟩ := tupAt I h; exact RcNeAt.none_tuple p hu'
    | lst es => obtain ⟨a, us, rfl, h, r⟩ := he; cases (show y = Value.ref a from ru); obtain ⟨z, its, n, r2, p⟩ := Rd.listAt I h; exact RcNeAt.none_list ⟨_, p, rfl, _, rfl⟩ hu'
    | _ => exact he.elim
  | bl k =>
    cases (show v = .bl k from hd)
    cases (show x = Value.bool k from rv)
    cases e with
    | non => cases (show u = .non from he); cases (show y = Value.none from ru); exact RcNeAt.bool_none k
    | bl b => cases (show u = .bl b from he); cases (show y = Value.bool b from ru); exact RcNeAt.bool_bool k b
    | int b => cases (show u = .int b from he); obtain ⟨t, rfl⟩ := (show ∃ t, y = Value.int b t from ru); exact RcNeAt.bool_int k b t
    | str b => cases (show u = .str b from he); obtain ⟨t, rfl⟩ := (show ∃ t, y = Value.str b t from ru); exact RcNeAt.bool_str k b t
    | tup es => obtain ⟨a, us, rfl, h, r⟩ := he; cases (show y = Value.ref a from ru); obtain ⟨z, its, r2, p⟩ := tupAt I h; exact RcNeAt.bool_tuple k p hu'
    | lst es => obtain ⟨a, us, rfl, h, r⟩ := he; cases (show y = Value.ref a from ru); obtain ⟨z, its, n, r2, p⟩ := Rd.listAt I h; exact RcNeAt.bool_list k ⟨_, p, rfl, _, rfl⟩ hu'
    | _ => exact he.elim
  | int k =>
    cases (show v = .int k from hd)
    obtain ⟨tk, rfl⟩ := (show ∃ t, x = Value.int k t from rv)
    cases e with
    | non => cases (show u = .non from he); cases (show y = Value.none from ru); exact RcNeAt.int_none k tk
    | bl b => cases (show u = .bl b from he); cases (show y = Value.bool b from ru); exact RcNeAt.int_bool k tk b
    | int b => cases (show u = .int b from he); obtain ⟨t, rfl⟩ := (show ∃ t, y = Value.int b t from ru); exact RcNeAt.int_int k tk b t
    | str b => cases (show u = .str b from he); obtain ⟨t, rfl⟩ := (show ∃ t, y = Value.str b t from ru); exact RcNeAt.int_str k tk b t
    | tup es => obtain ⟨a, us, rfl, h, r⟩ := he; cases (show y = Value.ref a from ru); obtain ⟨z, its, r2, p⟩ := tupAt I h; exact RcNeAt.int_tuple k tk p hu'
    | lst es => obtain ⟨a, us, rfl, h, r⟩ := he; cases (show y = Value.ref a from ru); obtain ⟨z, its, n, r2, p⟩ := Rd.listAt I h; exact RcNeAt.int_list k tk ⟨_, p, rfl, _, rfl⟩ hu'
    | _ => exact he.elim
  | str k =>
    cases (show v = .str k from hd)
    obtain ⟨tk, rfl⟩ := (show ∃ t, x = Value.str k t from rv)
    cases e with
    | non => cases (show u = .non from he); cases (show y = Value.none from ru); exact RcNeAt.str_none k tk
    | bl b => cases (show u = .bl b from he); cases (show y = Value.bool b from ru); exact RcNeAt.str_bool k tk b
    | int b => cases (show u = .int b from he); obtain ⟨t, rfl⟩ := (show ∃ t, y = Value.int b t from ru); exact RcNeAt.str_int k tk b t
    | str b => cases (show u = .str b from he); obtain ⟨t, rfl⟩ := (show ∃ t, y = Value.str b t from ru); exact RcNeAt.str_str k tk b t
    | tup es => obtain ⟨a, us, rfl, h, r⟩ := he; cases (show y = Value.ref a from ru); obtain ⟨z, its, r2, p⟩ := tupAt I h; exact RcNeAt.str_tuple k tk p hu'
    | lst es => obtain ⟨a, us, rfl, h, r⟩ := he; cases (show y = Value.ref a from ru); obtain ⟨z, its, n, r2, p⟩ := Rd.listAt I h; exact RcNeAt.str_list k tk ⟨_, p, rfl, _, rfl⟩ hu'
    | _ => exact he.elim
  | tup ds => simp only [D.dep] at hn; omega
  | lst ds => simp only [D.dep] at hn; omega
  | _ => exact hd.elim
theorem rcNeAt_dat (n : Nat) (A : Around) (I : Inv X pins σ H s) (d e : D) (v u : V) (x y : Value) (hn : d.dep ≤ n + 1) (hd : RepD H d v) (he : RepD H e u) (rv : RelV v x) (ru : RelV u y) (hu : A.units + (n + 1) < cLine) : RcNeAt A s x y (!peq d e) := by
    have hu' : A.units < cLine := by omega
    have hu1 : A.in1.units + n < cLine := by show A.units + 1 + n < cLine; omega
    have flat : d.dep ≤ 0 → RcNeAt A s x y (!peq d e) := fun h0 => rcNeAt_flat I d e v u x y h0 hd he rv ru hu'
    cases d with
    | tup ds =>
      obtain ⟨a, vs, rfl, h, r⟩ := hd
      cases (show x = Value.ref a from rv)
      obtain ⟨z, its, r1, p⟩ := tupAt I h
      cases e with
      | non => cases (show u = .non from he); cases (show y = Value.none from ru); exact RcNeAt.tuple_none p hu'
      | bl b => cases (show u = .bl b from he); cases (show y = Value.bool b from ru); exact RcNeAt.tuple_bool b p hu'
      | int b => cases (show u = .int b from he); obtain ⟨t, rfl⟩ := (show ∃ t, y = Value.int b t from ru); exact RcNeAt.tuple_int b t p hu'
      | str b => cases (show u = .str b from he); obtain ⟨t, rfl⟩ := (show ∃ t, y = Value.str b t from ru); exact RcNeAt.tuple_str b t p hu'
      | lst es => obtain ⟨c, us, rfl, h2, r2⟩ := he; cases (show y = Value.ref c from ru); obtain ⟨z2, jts, m, r3, p2⟩ := Rd.listAt I h2; exact RcNeAt.tuple_list p ⟨_, p2, rfl, _, rfl⟩ hu'
      | tup es =>
        obtain ⟨c, us, rfl, h2, r2⟩ := he
        cases (show y = Value.ref c from ru)
        obtain ⟨z2, jts, r3, p2⟩ := tupAt I h2
        · skip
          have hq := RcNeAt.tuples (e := fun j => peq (ds.getD j .non) (es.getD j .non)) p p2 hu' (eq_items r r2 r1 r3 fun d hd e he v u x y h1 h2 h3 h4 => eqAt_dat n A.in1 I d e v u x y (by have := dep_mem hd; simp only [D.dep] at hn; omega) h1 h2 h3 h4 hu1)
          have e1 : its.toArray.size = ds.length := by rw [List.size_toArray, ← r1.length, r.length]
          have e2 : jts.toArray.size = es.length := by rw [List.size_toArray, ← r3.length, r2.length]
          rw [e1, e2, ← peqL_all] at hq
          exact hq
      | _ => exact he.elim
    | lst ds =>
      obtain ⟨a, vs, rfl, h, r⟩ := hd
      cases (show x = Value.ref a from rv)
      obtain ⟨z, its, m0, r1, p⟩ := Rd.listAt I h
      cases e with
      | non => cases (show u = .non from he); cases (show y = Value.none from ru); exact RcNeAt.list_none ⟨_, p, rfl, _, rfl⟩ hu'
      | bl b => cases (show u = .bl b from he); cases (show y = Value.bool b from ru); exact RcNeAt.list_bool b ⟨_, p, rfl, _, rfl⟩ hu'
      | int b => cases (show u = .int b from he); obtain ⟨t, rfl⟩ := (show ∃ t, y = Value.int b t from ru); exact RcNeAt.list_int b t ⟨_, p, rfl, _, rfl⟩ hu'
      | str b => cases (show u = .str b from he); obtain ⟨t, rfl⟩ := (show ∃ t, y = Value.str b t from ru); exact RcNeAt.list_str b t ⟨_, p, rfl, _, rfl⟩ hu'
      | tup es => obtain ⟨c, us, rfl, h2, r2⟩ := he; cases (show y = Value.ref c from ru); obtain ⟨z2, jts, r3, p2⟩ := tupAt I h2; exact RcNeAt.list_tuple ⟨_, p, rfl, _, rfl⟩ p2 hu'
      | lst es =>
        obtain ⟨c, us, rfl, h2, r2⟩ := he
        cases (show y = Value.ref c from ru)
        obtain ⟨z2, jts, m, r3, p2⟩ := Rd.listAt I h2
        · skip
          have e1 : its.toArray.size = ds.length := by rw [List.size_toArray, ← r1.length, r.length]
          have e2 : jts.toArray.size = es.length := by rw [List.size_toArray, ← r3.length, r2.length]
          by_cases hl : ds.length = es.length
          · have hq := RcNeAt.lists (e := fun j => peq (ds.getD j .non) (es.getD j .non)) ⟨_, p, rfl, _, rfl⟩ ⟨_, p2, rfl, _, rfl⟩ (by rw [e1, e2, hl]) hu' (eq_items r r2 r1 r3 fun d hd e he v u x y h1 h2 h3 h4 => eqAt_dat n A.in1 I d e v u x y (by have := dep_mem hd; simp only [D.dep] at hn; omega) h1 h2 h3 h4 hu1)
            have e3 : peq (.lst ds) (.lst es) = (List.range its.toArray.size).all fun j => peq (ds.getD j .non) (es.getD j .non) := by
              show peqL ds es = _
              rw [peqL_all, e1, hl, Nat.min_self]
              simp
            rw [e3]
            exact hq
          · have e3 : peq (.lst ds) (.lst es) = false := by
              show peqL ds es = _
              rw [peqL_all]
              simp [hl]
            rw [e3]
            exact RcNeAt.lists_lengths ⟨_, p, rfl, _, rfl⟩ ⟨_, p2, rfl, _, rfl⟩ (by rw [e1, e2]; simp [hl]) hu'
      | _ => exact he.elim
    | non => exact flat (by simp only [D.dep]; omega)
    | bl _ => exact flat (by simp only [D.dep]; omega)
    | int _ => exact flat (by simp only [D.dep]; omega)
    | str _ => exact flat (by simp only [D.dep]; omega)
    | _ => exact hd.elim
/-! ### in -/
open Classical in
/-- what == says of an item -/
noncomputable def eU (H : Hp) (d : D) (y : Value) : Bool := if h : ∃ d', ∃ v, RepD H d' v ∧ RelV v y then peq h.choose d else false
theorem eU_of {H : Hp} {d d' : D} {v : V} {y : Value} (h : RepD H d' v) (r : RelV v y) : eU H d y = peq d' d := by
  have hx : ∃ d', ∃ v, RepD H d' v ∧ RelV v y := ⟨d', v, h, r⟩
  unfold eU
  rw [dif_pos hx]
  obtain ⟨v2, h2, r2⟩ := hx.choose_spec
  have := r2.inj r
  subst this
  rw [h2.inj h]
theorem any_eU {H : Hp} {d : D} : ∀ {ds : List D} {vs : List V} {us : List Value}, RepDL H ds vs → Vals vs us → us.any (eU H d) = ds.any fun x => peq x d
  | [], vs, us, h, r => by cases (show vs = [] from h); cases r; rfl
  | x :: ds, vs, us, h, r => by
    obtain ⟨v, vr, e, h1, h2⟩ := h
    subst e
    cases r with
    | cons rv rt => rw [List.any_cons, List.any_cons, eU_of h1 rv, any_eU h2 rt]
theorem mem_eU (I : Inv X pins σ H s) {A : Around} {d : D} {v : V} {x : Value} (hd : RepD H d v) (rx : RelV v x) (hu : A.units + 61 < cLine) : ∀ {ds : List D} {vs : List V} {us : List Value}, RepDL H ds vs → depL ds ≤ 60 → Vals vs us → ∀ u ∈ us, EqAt A.in1 s u x (eU H d u)
  | [], vs, us, h, _, r => by cases (show vs = [] from h); cases r; intro u hu; cases hu
  | y :: ds, vs, us, h, hn, r => by
    obtain ⟨w, vr, e, h1, h2⟩ := h
    subst e
    simp only [depL] at hn
    cases r with
    | cons rv rt =>
      intro u hu'
      rcases List.mem_cons.mp hu' with rfl | hu'
      · rw [eU_of h1 rv]
        exact eqAt_dat 60 A.in1 I y d w v u x (by omega) h1 hd rv rx (by show A.units + 1 + 60 < cLine; omega)
      · exact mem_eU I hd rx hu h2 (by omega) rt u hu'
/-! ### < -/
theorem pltL_lex : ∀ {xs ys : List D} {r : Bool}, pltL xs ys = some r → ∀ k : Nat, ∀ e f : Nat → Bool, (∀ j, j < xs.length → j < ys.length → e (k + j) = peq (xs.getD j .non) (ys.getD j .non)) →
    (∀ j, j < xs.length → j < ys.length → e (k + j) = false → plt (xs.getD j .non) (ys.getD j .non) = some (f (k + j))) → Ob.lexAt e f (decide (xs.length < ys.length)) k (min xs.length ys.length) = r
  | [], [], r, h, k, e, f, _, _ => by simp [pltL] at h; subst h; simp [Ob.lexAt]
  | [], _ :: _, r, h, k, e, f, _, _ => by simp [pltL] at h; subst h; simp [Ob.lexAt]
  | _ :: _, [], r, h, k, e, f, _, _ => by simp [pltL] at h; subst h; simp [Ob.lexAt]
  | x :: xs, y :: ys, r, h, k, e, f, he, hf => by
    unfold pltL at h
    dsimp only at h
    cases hr : pltL xs ys with
    | none => rw [hr] at h; cases h
    | some r2 =>
      rw [hr] at h
      dsimp only at h
      have h0 := he 0 (by simp) (by simp)
      simp only [List.getD_cons_zero, Nat.add_zero] at h0
      simp only [List.length_cons, Nat.succ_min_succ]
      rw [show Nat.succ (min xs.length ys.length) = min xs.length ys.length + 1 from rfl, Ob.lexAt_succ]
      by_cases hp : peq x y = true
      · rw [h0, if_pos hp]
        rw [if_pos hp] at h
        cases h
        have ih := pltL_lex hr (k + 1) e f (fun j h1 h2 => by
            have := he (j + 1) (by simpa using h1) (by simpa using h2)
            simp only [List.getD_cons_succ] at this
            rw [← this]; congr 1; omega) (fun j h1 h2 h3 => by
            have := hf (j + 1) (by simpa using h1) (by simpa using h2) (by rw [← h3]; congr 1; omega)
            simp only [List.getD_cons_succ] at this
            rw [this]; congr 2; omega)
        have ed : decide (xs.length + 1 < ys.length + 1) = decide (xs.length < ys.length) := by
          by_cases q : xs.length < ys.length <;> simp [q]
        rw [ed]
        exact ih
      · have hp' : peq x y = false := by simpa using hp
        rw [h0, if_neg hp]
        rw [if_neg hp] at h
        have := hf 0 (by simp) (by simp) (by rw [Nat.add_zero, h0, hp'])
        simp only [List.getD_cons_zero, Nat.add_zero] at this
        rw [h] at this
        exact (Option.some.inj this).symm
theorem pltL_some : ∀ {xs ys : List D} {r : Bool}, pltL xs ys = some r → ∀ j, j < xs.length → j < ys.length → peq (xs.getD j .non) (ys.getD j .non) = false → ∃ q, plt (xs.getD j .non) (ys.getD j .non) = some q
  | [], _, _, _, j, h1, _, _ => by simp at h1
  | _ :: _, [], _, _, j, _, h2, _ => by simp at h2
  | x :: xs, y :: ys, r, h, j, h1, h2, h3 => by
    unfold pltL at h
    dsimp only at h
    cases hr : pltL xs ys with
    | none => rw [hr] at h; cases h
    | some r2 =>
      rw [hr] at h
      dsimp only at h
      cases j with
      | zero =>
        simp only [List.getD_cons_zero] at h3 ⊢
        rw [h3, if_neg Bool.false_ne_true] at h
        exact ⟨r, h⟩
      | succ j =>
        simp only [List.getD_cons_succ] at h3 ⊢
        exact pltL_some hr j (by simpa using h1) (by simpa using h2) h3
theorem lt_items {A : Around} {H : Hp} {ds es : List D} {vs us : List V} {its jts : List Value} (rd : RepDL H ds vs) (re : RepDL H es us) (r1 : Vals vs its) (r2 : Vals us jts)
    (ih : ∀ d ∈ ds, ∀ e ∈ es, ∀ v u x y q, RepD H d v → RepD H e u → RelV v x → RelV u y → plt d e = some q → Ob.RcOp .Lt A.in1 s x y q) :
    ∀ j (h1 : j < its.toArray.size) (h2 : j < jts.toArray.size) q, plt (ds.getD j .non) (es.getD j .non) = some q → Ob.RcOp .Lt A.in1 s its.toArray[j] jts.toArray[j] q := by
  induction ds generalizing es vs us its jts with
  | nil =>
    cases (show vs = [] from rd)
    cases r1
    intro j h1
    exact absurd h1 (by simp)
  | cons d ds ihl =>
    obtain ⟨v, r, q, h1, h2⟩ := rd
    subst q
    cases r1 with
    | @cons _ x _ xs rv rt =>
      cases es with
      | nil =>
        cases (show us = [] from re)
        cases r2
        intro j _ h2
        exact absurd h2 (by simp)
      | cons e es =>
        obtain ⟨u, r', q, h3, h4⟩ := re
        subst q
        cases r2 with
        | @cons _ y _ ys ru rt2 =>
          intro j
          cases j with
          | zero =>
            intro _ _ q hq
            exact ih d List.mem_cons_self e List.mem_cons_self v u x y q h1 h3 rv ru (by simpa using hq)
          | succ j =>
            intro k1 k2 q hq
            have := ihl h2 h4 rt rt2 (fun d hd e he => ih d (List.mem_cons_of_mem _ hd) e (List.mem_cons_of_mem _ he)) j (by simpa using k1) (by simpa using k2) q (by simpa using hq)
            simpa using this
theorem ltAt_dat : ∀ (n : Nat) (A : Around) (I : Inv X pins σ H s) (d e : D) (v u : V) (x y : Value) (q : Bool), d.dep ≤ n → RepD H d v → RepD H e u → RelV v x → RelV u y → A.units + n < cLine → plt d e = some q → Ob.RcOp .Lt A s x y q := by
  intro n
  have flat : ∀ (A : Around) (I : Inv X pins σ H s) (d e : D) (v u : V) (x y : Value) (q : Bool), (∀ xs, d ≠ .tup xs) → RepD H d v → RepD H e u → RelV v x → RelV u y → plt d e = some q → Ob.RcOp .Lt A s x y q := by
    intro A I d e v u x y q hn hd he rv ru hq
    cases d with
    | int i =>
      cases e with
      | int j =>
        cases (show v = .int i from hd)
        cases (show u = .int j from he)
        obtain ⟨t, rfl⟩ := (show ∃ t, x = Value.int i t from rv)
        obtain ⟨t', rfl⟩ := (show ∃ t, y = Value.int j t from ru)
        cases hq
        exact Ob.RcOp.lt_int i j t t'
      | _ => cases hq
    | str i =>
      cases e with
      | str j =>
        cases (show v = .str i from hd)
        cases (show u = .str j from he)
        obtain ⟨t, rfl⟩ := (show ∃ t, x = Value.str i t from rv)
        obtain ⟨t', rfl⟩ := (show ∃ t, y = Value.str j t from ru)
        cases hq
        exact fun _ _ _ _ h => PyProof.Rows.lt_str h
      | _ => cases hq
    | tup xs => exact absurd rfl (hn xs)
    | _ => cases hq
  induction n with
  | zero =>
    intro A I d e v u x y q hn hd he rv ru hu hq
    exact flat A I d e v u x y q (fun xs z => by subst z; simp only [D.dep] at hn; omega) hd he rv ru hq
  | succ n ih =>
    intro A I d e v u x y q hn hd he rv ru hu hq
    by_cases ht : ∃ xs, d = .tup xs
    · obtain ⟨ds, rfl⟩ := ht
      cases e with
      | tup es =>
        obtain ⟨a, vs, rfl, h, r⟩ := hd
        obtain ⟨c, us, rfl, h2, r2⟩ := he
        cases (show x = Value.ref a from rv)
        cases (show y = Value.ref c from ru)
        obtain ⟨z, its, r1, p⟩ := tupAt I h
        obtain ⟨z2, jts, r3, p2⟩ := tupAt I h2
        have hu1 : A.in1.units + n < cLine := by show A.units + 1 + n < cLine; omega
        have hn' : depL ds ≤ n := by simp only [D.dep] at hn; omega
        have hq' : pltL ds es = some q := hq
        have e1 : its.toArray.size = ds.length := by rw [List.size_toArray, ← r1.length, r.length]
        have e2 : jts.toArray.size = es.length := by rw [List.size_toArray, ← r3.length, r2.length]
        have R := Ob.RcOp.tuples_lt (e := fun j => peq (ds.getD j .non) (es.getD j .non)) (r := fun j => (plt (ds.getD j .non) (es.getD j .non)).getD false) p p2 (by omega)
          (eq_items r r2 r1 r3 fun d hd e he v u x y h1 h2 h3 h4 => eqAt_dat n A.in1 I d e v u x y (by have := dep_mem hd; omega) h1 h2 h3 h4 hu1)
          (fun j j1 j2 hf => by
            obtain ⟨k, hk⟩ := pltL_some hq' j (by rw [← e1]; exact j1) (by rw [← e2]; exact j2) hf
            rw [hk]
            exact lt_items r r2 r1 r3 (fun d hd e he v u x y q h1 h2 h3 h4 h5 => ih A.in1 I d e v u x y q (by have := dep_mem hd; omega) h1 h2 h3 h4 hu1 h5) j j1 j2 k hk)
        rw [e1, e2, pltL_lex hq' 0 _ _ (fun j _ _ => by rw [Nat.zero_add]) (fun j h1 h2 h3 => by
          rw [Nat.zero_add] at h3 ⊢
          obtain ⟨k, hk⟩ := pltL_some hq' j h1 h2 h3
          rw [hk]; rfl)] at R
        exact R
      | _ => cases hq
    · exact flat A I d e v u x y q (fun xs z => ht ⟨xs, z⟩) hd he rv ru hq
end
end Dee

namespace Dee
open PySem PySem.Spec PyProof.Rows L2
section
variable {X : Cx}
/-! ### lists joined, repeated -/
def rCatL : R2 := fun x y H Q => ∃ l b xs zs, x = .ref l ∧ y = .ref b ∧ Rd H l (.lst xs) ∧ Rd H b (.lst zs) ∧ xs.length + zs.length ≤ sizeLine ∧ ∀ p, H p = none → Q (.ref p) (upd H p (.lst (xs ++ zs)))
theorem op_catL : OpR X (binaryOp .Add) rCatL := by
  intro pins s σ H x y v u Q I rx ry h
  obtain ⟨l, b, xs, zs, rfl, rfl, hH, hB, hz, q⟩ := h
  cases rx
  cases ry
  obtain ⟨z, its, n, r, e⟩ := Rd.listAt I hH
  obtain ⟨z2, its2, n2, r2, e2⟩ := Rd.listAt I hB
  have hl := r.length
  have hl2 := r2.length
  refine PySem.P.add_list e e2 ?_ (by rw [List.size_toArray, List.size_toArray]; omega)
  have ea : its.toArray ++ its2.toArray = (its ++ its2).toArray := by simp
  rw [ea]
  exact ⟨.ref _, _, I.lnew (t' := s.toks) (r.append r2) (by rw [List.length_append]; omega), rfl, q _ I.fresh⟩
def rRepL : R2 := fun x y H Q => ∃ l k xs, x = .ref l ∧ y = .int k ∧ Rd H l (.lst xs) ∧ -(2 ^ 63) ≤ k ∧ k < 2 ^ 63 ∧ xs.length * k.toNat ≤ sizeLine ∧
  ∀ p, H p = none → Q (.ref p) (upd H p (.lst (List.replicate k.toNat xs).flatten))
theorem op_repL : OpR X (binaryOp .Mult) rRepL := by
  intro pins s σ H x y v u Q I rx ry h
  obtain ⟨l, k, xs, rfl, rfl, hH, h1, h2, hz, q⟩ := h
  cases rx
  obtain ⟨t, rfl⟩ := ry
  obtain ⟨z, its, n, r, e⟩ := Rd.listAt I hH
  have hl := r.length
  have hlen : its.toArray.size * k.toNat ≤ sizeLine := by rw [List.size_toArray, ← hl]; exact hz
  have hcap : ¬ its.toArray.size * k.toNat > (2 ^ 63 - 1) / 8 := by
    have : (sizeLine : Nat) ≤ (2 ^ 63 - 1) / 8 := by decide
    omega
  have hfit : ¬ (!Builtin.List.listFitsIndex k) = true := by
    rw [fitsIndex_both h1 h2]
    exact Bool.false_ne_true
  have hlong : ¬ Builtin.List.listTooLong (its.toArray.size * k.toNat) = true := by
    rw [notLongL hlen]
    exact Bool.false_ne_true
  have hnew : List.foldl (fun x1 x2 => x1 ++ x2) #[] (List.replicate (if its.toArray.isEmpty = true then 0 else k.toNat) its.toArray) = (List.replicate k.toNat its).flatten.toArray := by
    have f0 : ∀ m : Nat, List.foldl (fun x1 x2 => x1 ++ x2) #[] (List.replicate m its.toArray) = (List.replicate m its).flatten.toArray := fun m => by
      have := foldl_rep its m []
      rw [List.nil_append] at this
      exact this
    rw [f0]
    cases its with
    | nil => simp
    | cons a r' => rw [if_neg (by simp)]
  refine wpAny_binaryOp_repeat_ref (T := "list") (U := "int") (by decide) ⟨_, e, rfl⟩ (fun s' => typeIs_int s' k t) noFill_list_mul F.fills_int_mul F.slot_int_rmul repeat_list F.slot_int_index.lookup
    (call_meets F.slot_int_rmul (typeIs_int s k t) F.entry_int_rmul (F.args_int_rmul_2 _ _) (int___rmul___int_list k t l its.toArray n)
      ⟨e, rfl, ⟨_, e, rfl⟩, call_meets F.slot_list_mul ⟨_, e, rfl⟩ F.entry_list_mul (F.args_list_mul_2 _ _) (AutoListH.list___mul___list_int_3 l its.toArray n k t hfit hcap hlong) ⟨e, ?_⟩⟩)
  rw [hnew]
  exact ⟨.ref _, _, I.lnew (t' := s.toks) (r.rep k.toNat) (by rw [PyProof.Rows.lm_len_rep_flat, Nat.mul_comm]; exact hz), rfl, q _ I.fresh⟩
open AutoSeq1 in
theorem list_extend_tup (l : Addr) (items : Array Value) (n : Nat) (b : Addr) (items2 : Array Value) (n2 : Nat) (dd : Option Addr) (sl : Array (Option Value)) (hs0 : ¬(!items.isEmpty && Builtin.List.listTooLong (items.size + items2.size)) = true) (hs1 : items.size ≤ sizeLine) (hs2 : items.size + items2.size ≤ sizeLine + 1) :
    Meets (Builtin.«list.extend» ⟨[.ref l, .ref b], []⟩) (fun _ R s => s.heap.get? l = some { cls := .type "list", dict := none, data := .seq items n, slots := #[] } ∧ s.heap.get? b = some { cls := .type "tuple", dict := dd, data := .seq items2 n2, slots := sl } ∧ R (.ok (.ret Value.none)) { s with heap := s.heap.update l (Obj.mapSeq fun x => x ++ items2), toks := s.toks }) :=
  .of_wp fun prog w A R s h => by
    obtain ⟨hp, g, d, tk, os⟩ := s; obtain ⟨hl, hb, h⟩ := h; have f1 := idx_int; have f2 := AutoSeq1.sub_tuple_tuple; have f3 := AutoSeq1.sub_list_list; have f4 := AutoSeq1.sub_tuple_list; have f5 := AutoSeq1.sub_list_tuple;
    have hz' : (items ++ items2).size ≤ sizeLine + 1 := by rw [Array.size_append]; exact hs2
    wp_walk using (wpAny_updateSeq hl rfl (hz := hs1) (_hz' := hz')), wpAny_loadPart' hl, wpAny_loadPart' hb; exact ⟨_, rfl, h⟩
/-- xs.extend(ys), ys a list or a tuple -/
def rExtL (K : PySem.W.Frag) : V → List V → Hp → VK → Prop := fun x vs H Q => ∃ l b xs zs, x = .ref l ∧ vs = [.ref b] ∧ H l = some (.lst xs) ∧ (Rd H b (.lst zs) ∨ H b = some (.tup zs)) ∧ xs.length + zs.length ≤ sizeLine ∧ Q .non (upd H l (.lst (xs ++ zs)))
theorem mt_extL : MtR X "list.extend" (rExtL X.K) := by
  intro pins s σ H x vs v us Q I rx rv h
  obtain ⟨l, b, xs, zs, rfl, rfl, hH, hB, hz, q⟩ := h
  cases rx
  obtain ⟨u, rfl, ru⟩ := rv.one
  cases ru
  obtain ⟨z, its, n, r, hl, e⟩ := I.lstM hH
  rcases hB with hB | hB
  · obtain ⟨z2, its2, n2, r2, e2⟩ := Rd.listAt I hB
    have hl2 := r2.length
    have hsz : its.toArray.size + its2.toArray.size ≤ sizeLine := by rw [List.size_toArray, List.size_toArray]; omega
    have hlong : ¬ (!its.toArray.isEmpty && Builtin.List.listTooLong (its.toArray.size + its2.toArray.size)) = true := by
      rw [notLongL hsz, Bool.and_false]
      exact Bool.false_ne_true
    refine call_meets F.slot_list_extend ⟨_, e, rfl⟩ F.entry_list_extend (F.args_list_extend_2 _ _)
      (AutoSeq1.list_extend_list_list_0 l its.toArray n b its2.toArray n2 hlong (by rw [List.size_toArray]; omega) (by omega)) ⟨e, e2, ?_⟩
    refine ⟨.non, _, I.lset (its' := its ++ its2) hH e (by simp) (r.append r2) ?_, rfl, q⟩
    rw [List.length_append]
    omega
  · obtain ⟨z2, its2, r2, ⟨⟨cls, dd, data, sl⟩, e2, hc, n2, hd⟩⟩ := tupAt I hB
    simp only at hc hd
    subst hc hd
    have hl2 := r2.length
    have hsz : its.toArray.size + its2.toArray.size ≤ sizeLine := by rw [List.size_toArray, List.size_toArray]; omega
    have hlong : ¬ (!its.toArray.isEmpty && Builtin.List.listTooLong (its.toArray.size + its2.toArray.size)) = true := by
      rw [notLongL hsz, Bool.and_false]
      exact Bool.false_ne_true
    refine call_meets F.slot_list_extend ⟨_, e, rfl⟩ F.entry_list_extend (F.args_list_extend_2 _ _)
      (list_extend_tup l its.toArray n b its2.toArray n2 dd sl hlong (by rw [List.size_toArray]; omega) (by omega)) ⟨e, e2, ?_⟩
    refine ⟨.non, _, I.lset (its' := its ++ its2) hH e (by simp) (r.append r2) ?_, rfl, q⟩
    rw [List.length_append]
    omega
end
end Dee

set_option Elab.async false
set_option linter.all false
set_option autoImplicit false
set_option maxRecDepth 100000
set_option maxHeartbeats 1000000
/-! Dee: the operations by values are the model's. -/
namespace Dee
open PySem PySem.Spec PyProof.Rows L2
theorem ob_some {α : Type} {o : Option α} {f : α → Prop} (h : ob o f) : ∃ a, o = some a ∧ f a := by
  cases o with
  | none => exact h.elim
  | some a => exact ⟨a, rfl, h⟩
theorem onI_int {d : D} {f : Int → Prop} (h : onI d f) : ∃ i, d = .int i ∧ f i := by cases d <;> first | exact ⟨_, rfl, h⟩ | exact h.elim
theorem onS_str {d : D} {f : Str → Prop} (h : onS d f) : ∃ i, d = .str i ∧ f i := by cases d <;> first | exact ⟨_, rfl, h⟩ | exact h.elim
theorem onR_ref {d : D} {f : Nat → Prop} (h : onR d f) : ∃ i, d = .ref i ∧ f i := by cases d <;> first | exact ⟨_, rfl, h⟩ | exact h.elim
theorem on1_one {ds : List D} {f : D → Prop} (h : on1 ds f) : ∃ d, ds = [d] ∧ f d := by
  match ds, h with
  | [d], h => exact ⟨d, rfl, h⟩
  | [], h => exact h.elim
  | _ :: _ :: _, h => exact h.elim
theorem on2_two {ds : List D} {f : D → D → Prop} (h : on2 ds f) : ∃ d e, ds = [d, e] ∧ f d e := by
  match ds, h with
  | [d, e], h => exact ⟨d, e, rfl, h⟩
  | [], h => exact h.elim
  | [_], h => exact h.elim
  | _ :: _ :: _ :: _, h => exact h.elim
theorem asB_bl {Q : Bool → Mem → Prop} {d : D} {M : Mem} (h : asB Q d M) : ∃ b, d = .bl b ∧ Q b M := by cases d <;> first | exact ⟨_, rfl, h⟩ | exact h.elim
theorem line_eq : line = sizeLine := by rw [sizeLine_eq]; rfl
theorem repL1 {mg : Gm} {M : Mem} {H : Hp} {d : D} {vs : List V} (h : RepL mg M H [d] vs) : ∃ v, vs = [v] ∧ Rep mg M H d v := by
  obtain ⟨v, r, e, h, hr⟩ := h
  cases (show r = [] from hr)
  exact ⟨v, e, h⟩
theorem repL2 {mg : Gm} {M : Mem} {H : Hp} {d e : D} {vs : List V} (h : RepL mg M H [d, e] vs) : ∃ v u, vs = [v, u] ∧ Rep mg M H d v ∧ Rep mg M H e u := by
  obtain ⟨v, r, q, h, hr⟩ := h
  obtain ⟨u, rfl, h2⟩ := repL1 hr
  exact ⟨v, u, q, h, h2⟩

/-! ### dicts -/
section
variable {mg : Gm} {M : Mem} {H : Hp}
theorem repK_key {k : D} {v : V} (hk : isKey false k = true) (r : Rep mg M H k v) : ∃ j : Key, v = kV j ∧ k = keyD j := by
  cases k with
  | int i => cases (show v = _ from r); exact ⟨.inl i, rfl, rfl⟩
  | str i => cases (show v = _ from r); exact ⟨.inr i, rfl, rfl⟩
  | _ => simp [isKey] at hk
theorem keyD_inj : ∀ {a b : Key}, keyD a = keyD b → a = b
  | .inl _, .inl _, h => by cases h; rfl
  | .inr _, .inr _, h => by cases h; rfl
  | .inl _, .inr _, h => by cases h
  | .inr _, .inl _, h => by cases h
theorem keyDs_inj : ∀ {a b : List Key}, a.map keyD = b.map keyD → a = b
  | [], [], _ => rfl
  | x :: a, y :: b, h => by
    simp only [List.map_cons, List.cons.injEq] at h
    rw [keyD_inj h.1, keyDs_inj h.2]
  | [], _ :: _, h => by cases h
  | _ :: _, [], h => by cases h
theorem look_cons {k' d k : D} {kvs : List (D × D)} : look ((k', d) :: kvs) k = if k' = k then some d else look kvs k := by
  by_cases h : k' = k <;> simp [look, List.find?_cons, h]
theorem valV_cons {κ : Type} [DecidableEq κ] {j' j : κ} {v : V} {ws : List (κ × V)} : valV ((j', v) :: ws) j = if j' = j then some v else valV ws j := by
  by_cases h : j' = j <;> simp [valV, List.find?_cons, h]
theorem repK_look {j : Key} : ∀ {kvs : List (D × D)} {ws : List (Key × V)}, RepK mg M H kvs ws →
    (∀ x, look kvs (keyD j) = some x → ∃ v, valV ws j = some v ∧ Rep mg M H x v) ∧ (look kvs (keyD j) = none → valV ws j = none)
  | [], ws, h => by
    cases (show ws = [] from h)
    exact ⟨fun x e => by simp [look] at e, fun _ => rfl⟩
  | (k', d) :: kvs, ws, h => by
    obtain ⟨j', v, r, e, hk, hd, hr⟩ := h
    subst e hk
    have ih := repK_look (j := j) hr
    rw [look_cons, valV_cons]
    by_cases h2 : j' = j
    · subst h2
      rw [if_pos rfl, if_pos rfl]
      exact ⟨fun x q => by cases q; exact ⟨v, rfl, hd⟩, fun q => by cases q⟩
    · rw [if_neg h2, if_neg (fun z => h2 (keyD_inj z))]
      exact ih
theorem repT_keys : ∀ {xs : List D} {vs : List V}, xs.all flatK = true → RepL mg M H xs vs → ∃ j : List Key, vs = j.map kV ∧ xs = j.map keyD
  | [], vs, _, h => by cases (show vs = [] from h); exact ⟨[], rfl, rfl⟩
  | x :: xs, vs, hk, h => by
    obtain ⟨v, r, e, hx, hr⟩ := h
    subst e
    simp only [List.all_cons, Bool.and_eq_true] at hk
    obtain ⟨j, e1, e2⟩ := repT_keys hk.2 hr
    cases x with
    | int i => cases (show v = _ from hx); exact ⟨.inl i :: j, by simp [e1, kV], by simp [e2, keyD]⟩
    | str i => cases (show v = _ from hx); exact ⟨.inr i :: j, by simp [e1, kV], by simp [e2, keyD]⟩
    | _ => simp [flatK] at hk
theorem repT_key {k : D} {v : V} (hk : isKey true k = true) (r : Rep mg M H k v) : ∃ (j : List Key) (b : Addr), v = .ref b ∧ H b = some (.tup (j.map kV)) ∧ k = .tup (j.map keyD) := by
  cases k with
  | tup xs =>
    obtain ⟨a, vs, e, n, h, r⟩ := r
    obtain ⟨j, e1, e2⟩ := repT_keys (by simpa only [isKey, Bool.true_and] using hk) r
    exact ⟨j, a, e, by rw [← e1]; exact h, by rw [e2]⟩
  | _ => simp [isKey] at hk
theorem repT_look {j : List Key} : ∀ {kvs : List (D × D)} {ws : List (List Key × V)}, RepT mg M H kvs ws →
    (∀ x, look kvs (.tup (j.map keyD)) = some x → ∃ v, valV ws j = some v ∧ Rep mg M H x v) ∧ (look kvs (.tup (j.map keyD)) = none → valV ws j = none)
  | [], ws, h => by
    cases (show ws = [] from h)
    exact ⟨fun x e => by simp [look] at e, fun _ => rfl⟩
  | (k', d) :: kvs, ws, h => by
    obtain ⟨j', v, r, e, hk, hd, hr⟩ := h
    subst e hk
    have ih := repT_look (j := j) hr
    rw [look_cons, valV_cons]
    by_cases h2 : j' = j
    · subst h2
      rw [if_pos rfl, if_pos rfl]
      exact ⟨fun x q => by cases q; exact ⟨v, rfl, hd⟩, fun q => by cases q⟩
    · rw [if_neg h2, if_neg (fun z => h2 (keyDs_inj (by injection z)))]
      exact ih
/-- what a dict holds at a key -/
theorem dget_of (m : MRep mg M H) {o k : D} {x y : V} {p : Bool × List (D × D)} (ro : Rep mg M H o x) (rk : Rep mg M H k y) (e : dctM M o = some p) (hk : isKey p.1 k = true) :
    ∃ a r, x = .ref a ∧ DGet H a y r ∧ (∀ z, look p.2 k = some z → ∃ v, r = some v ∧ Rep mg M H z v) ∧ (look p.2 k = none → r = none) := by
  obtain ⟨t, kvs⟩ := p
  obtain ⟨a, ex, h⟩ := dct_of m ro e
  rcases h with ⟨et, ws, h, hr⟩ | ⟨et, ws, h, hr⟩
  · have et' : t = false := et
    subst et'
    obtain ⟨j, ey, hj⟩ := repK_key hk rk
    subst hj
    obtain ⟨l1, l2⟩ := repK_look (j := j) hr
    exact ⟨a, _, ex, .inl ⟨ws, j, h, ey, rfl⟩, l1, l2⟩
  · have et' : t = true := et
    subst et'
    obtain ⟨j, b, ey, hb, ek⟩ := repT_key hk rk
    subst ek
    obtain ⟨l1, l2⟩ := repT_look (j := j) hr
    exact ⟨a, _, ex, .inr ⟨ws, j, b, h, ey, hb, rfl⟩, l1, l2⟩
end

section
variable {X : Cx} {c : LC}
/-! ### arithmetic -/
def opOf : Bop → Operator | .add => .Add | .sub => .Sub | .mul => .Mult | .fdiv => .FloorDiv | .mod => .Mod | .pow => .Pow
def rBin (c : LC) (o : Bop) : R2 := fun x y H Q => ∃ d e M Q', MRep c.mg M H ∧ Rep c.mg M H d x ∧ Rep c.mg M H e y ∧ binop o d e M Q' ∧ Goes c M H Q' Q
theorem add_cases {a b : D} {M : Mem} {Q : K} (h : binop .add a b M Q) : (∃ i j, a = .int i ∧ b = .int j ∧ Q (.int (i + j)) M) ∨ (∃ s t, a = .str s ∧ b = .str t ∧ s.length + t.length ≤ line ∧ Q (.str (s ++ t)) M) ∨
    (∃ xs ys, a = .tup xs ∧ b = .tup ys ∧ xs.length + ys.length ≤ line ∧ Q (.tup (xs ++ ys)) M) ∨ catop a b M Q := by
  cases a <;> cases b <;> first
    | exact .inl ⟨_, _, rfl, rfl, h⟩
    | exact .inr (.inl ⟨_, _, rfl, rfl, h⟩)
    | exact .inr (.inr (.inl ⟨_, _, rfl, rfl, h⟩))
    | exact .inr (.inr (.inr h))
theorem mul_cases {a b : D} {M : Mem} {Q : K} (h : binop .mul a b M Q) : (∃ i j, a = .int i ∧ b = .int j ∧ (i.natAbs < 2 ^ 100000 ∧ j.natAbs < 2 ^ 100000) ∧ Q (.int (i * j)) M) ∨
    (∃ xs j, a = .lst xs ∧ b = .int j ∧ (0 ≤ j ∧ j ≤ line ∧ xs.length * j.toNat ≤ line) ∧ Q (.lst (List.replicate j.toNat xs).flatten) M) := by
  cases a with
  | lst xs => obtain ⟨j, rfl, h⟩ := onI_int h; exact .inr ⟨_, _, rfl, rfl, h⟩
  | int i =>
    obtain ⟨j, rfl, h⟩ := onI_int h
    exact .inl ⟨_, _, rfl, rfl, h⟩
  | _ => exact h.elim
theorem op_bin (o : Bop) : OpR X (binaryOp (opOf o)) (rBin c o) := by
  intro pins s σ H x y v u Q I rx ry h
  obtain ⟨d, e, M, Q', m, rd, re, w, g⟩ := h
  cases o with
  | add =>
    rcases add_cases w with ⟨i, j, rfl, rfl, q⟩ | ⟨i, j, rfl, rfl, hl, q⟩ | ⟨xs, ys, rfl, rfl, hl, q⟩ | ⟨⟨t1, t2⟩, w⟩
    · exact op_add pins s σ H x y v u Q I rx ry ⟨i, j, rd, re, g.now m q rfl⟩
    · exact op_add_str pins s σ H x y v u Q I rx ry ⟨i, j, rd, re, by rw [← line_eq]; exact hl, g.now m q rfl⟩
    · obtain ⟨a, vs, ea, na, ha, ra⟩ := id rd
      obtain ⟨b, us, eb, nb, hb, rb⟩ := id re
      have l1 := ra.length
      have l2 := rb.length
      refine op_catA pins s σ H x y v u Q I rx ry ⟨a, b, vs, us, ea, eb, SqT.of ha, SqT.of hb, by rw [← line_eq, ← l1, ← l2]; exact hl, fun ez => ?_, fun n1 ez => ?_, fun n1 n2 p hp => ?_⟩
      · subst ez
        have : xs = [] := List.eq_nil_of_length_eq_zero (by simpa using l1)
        subst this
        exact g.now m q (by rw [List.nil_append, ← eb]; exact re)
      · subst ez
        have : ys = [] := List.eq_nil_of_length_eq_zero (by simpa using l2)
        subst this
        exact g.now m q (by rw [List.append_nil, ← ea]; exact rd)
      · exact g.tup m q (ra.append rb) hp
    · obtain ⟨xs, ex, w⟩ := ob_some w
      obtain ⟨ys, ey, hl, q⟩ := ob_some w
      obtain ⟨a, vs, ea, ra, ha⟩ := seq_of m rd ex
      obtain ⟨b, us, eb, rb, hb⟩ := seq_of m re ey
      have ha : Rd H a (.lst vs) := by rcases ha with ⟨z, _⟩ | ⟨_, z⟩; rw [t1] at z; cases z; exact z
      have hb : Rd H b (.lst us) := by rcases hb with ⟨z, _⟩ | ⟨_, z⟩; rw [t2] at z; cases z; exact z
      exact op_catL pins s σ H x y v u Q I rx ry ⟨a, b, vs, us, ea, eb, ha, hb, by rw [← line_eq, ← ra.length, ← rb.length]; exact hl, fun p hp => g.lst m q (ra.append rb) hp⟩
  | sub =>
    obtain ⟨i, rfl, w⟩ := onI_int w
    obtain ⟨j, rfl, q⟩ := onI_int w
    exact op_sub pins s σ H x y v u Q I rx ry ⟨i, j, rd, re, g.now m q rfl⟩
  | mul =>
    rcases mul_cases w with ⟨i, j, rfl, rfl, hl, q⟩ | ⟨xs, j, rfl, rfl, hl, q⟩
    · exact op_mulW pins s σ H x y v u Q I rx ry ⟨i, j, rd, re, wide_mul hl.1 hl.2 (by omega) (by omega) (by omega), g.now m q rfl⟩
    · obtain ⟨a, vs, ea, na, ha, ra⟩ := rd
      obtain ⟨h0, h1, hl2⟩ := hl
      rw [line_eq, ra.length] at hl2
      have hz : (line : Int) < 2 ^ 63 := by unfold line; omega
      exact op_repL pins s σ H x y v u Q I rx ry ⟨a, j, vs, ea, re, ha, by omega, by omega, hl2, fun p hp => g.lst m q (ra.flat _) hp⟩
  | fdiv =>
    obtain ⟨i, rfl, w⟩ := onI_int w
    obtain ⟨j, rfl, hl, q⟩ := onI_int w
    exact op_fdiv pins s σ H x y v u Q I rx ry ⟨i, j, rd, re, hl, g.now m q rfl⟩
  | mod =>
    obtain ⟨i, rfl, w⟩ := onI_int w
    obtain ⟨j, rfl, hl, q⟩ := onI_int w
    exact op_mod pins s σ H x y v u Q I rx ry ⟨i, j, rd, re, hl, g.now m q rfl⟩
  | pow =>
    obtain ⟨i, rfl, w⟩ := onI_int w
    obtain ⟨j, rfl, hl, q⟩ := onI_int w
    exact op_pow pins s σ H x y v u Q I rx ry ⟨i, j, rd, re, ⟨hl.1, by omega, hl.2.2⟩, g.now m q rfl⟩

/-! ### comparisons -/
def copOf : Cop → CmpOp | .eq => .Eq | .ne => .NotEq | .lt => .Lt | .le => .LtE | .gt => .Gt | .ge => .GtE | .isin => .In | .notin => .NotIn
def rCmp (c : LC) (o : Cop) : R2 := fun x y H Q => ∃ d e M Q', MRep c.mg M H ∧ Rep c.mg M H d x ∧ Rep c.mg M H e y ∧ cmpop o d e M (fun r => Q' (.bl r) M) ∧ Goes c M H Q' Q
theorem onC_one {d : D} {f : Nat → Prop} (h : onC d f) : ∃ k : Nat, d = .str ⟨#[k]⟩ ∧ f k := by
  cases d with
  | str t =>
    obtain ⟨⟨l⟩⟩ := t
    match l, h with
    | [k], h => exact ⟨k, rfl, h⟩
  | _ => exact h.elim
theorem in_cases {a b : D} {M : Mem} {Q : Bool → Prop} (h : inop a b M Q) : (∃ s, b = .str s ∧ onC a fun c => Q (decide (c ∈ s.cps.toList))) ∨
    (∃ p, dctM M b = some p ∧ isKey p.1 a = true ∧ Q (look p.2 a).isSome) ∨ (∃ xs, seqM M b = some xs ∧ (a.dep ≤ 60 ∧ depL xs ≤ 60) ∧ Q (xs.any fun x => peq x a)) := by
  cases b with
  | str s => exact .inl ⟨s, rfl, h⟩
  | _ =>
    unfold inop at h
    dsimp only at h
    split at h
    · rename_i p e
      exact .inr (.inl ⟨p, e, h⟩)
    · obtain ⟨xs, e, q⟩ := ob_some h
      exact .inr (.inr ⟨xs, e, q⟩)
theorem op_cmp (o : Cop) (hu : X.A.units + 64 < cLine) : OpR X (compareOp (copOf o)) (rCmp c o) := by
  intro pins s σ H x y v u Q I rx ry h
  obtain ⟨d, e, M, Q', m, rd, re, w, g⟩ := h
  have fin : ∀ {k : Bool}, Q' (.bl k) M → EP X pins σ Q (.bool k) s := fun {k} q => ⟨.bl k, H, I, rfl, g.now m q rfl⟩
  cases o with
  | eq =>
    obtain ⟨⟨h1, h2⟩, q⟩ := w
    exact rcAt_dat 60 X.A I _ _ x y v u (by omega) (rd.ice m h1) (re.ice m h2) rx ry (by omega) X.prog X.w X.xe _ (fin q)
  | ne =>
    obtain ⟨⟨h1, h2⟩, q⟩ := w
    exact rcNeAt_dat 60 X.A I _ _ x y v u (by omega) (rd.ice m h1) (re.ice m h2) rx ry (by omega) X.prog X.w X.xe _ (fin q)
  | lt =>
    obtain ⟨⟨h1, h2⟩, w⟩ := w
    obtain ⟨r, hr, q⟩ := ob_some w
    exact ltAt_dat 60 X.A I _ _ x y v u r h1 (rd.dat h1) (re.dat h2) rx ry (by omega) hr X.prog X.w X.xe _ (fin q)
  | le =>
    obtain ⟨i, rfl, w⟩ := onI_int w
    obtain ⟨j, rfl, q⟩ := onI_int w
    exact op_le pins s σ H x y v u Q I rx ry ⟨i, j, rd, re, g.now m q rfl⟩
  | gt =>
    obtain ⟨i, rfl, w⟩ := onI_int w
    obtain ⟨j, rfl, q⟩ := onI_int w
    exact op_gt pins s σ H x y v u Q I rx ry ⟨i, j, rd, re, g.now m q rfl⟩
  | ge =>
    obtain ⟨i, rfl, w⟩ := onI_int w
    obtain ⟨j, rfl, q⟩ := onI_int w
    exact op_ge pins s σ H x y v u Q I rx ry ⟨i, j, rd, re, g.now m q rfl⟩
  | isin =>
    rcases in_cases (show inop d e M (fun r => Q' (.bl r) M) from w) with ⟨z, rfl, w⟩ | ⟨p, e1, hk, q⟩ | ⟨xs, e1, ⟨h1, h2⟩, q⟩
    · obtain ⟨k, rfl, q⟩ := onC_one w
      exact op_in_sign pins s σ H x y v u Q I rx ry ⟨k, z, rd, re, g.now m q rfl⟩
    · obtain ⟨a, r, rfl, dg, l1, l2⟩ := dget_of m re rd e1 hk
      cases (show u = Value.ref a from ry)
      refine d_in (by omega) I dg rx fun s' J => ⟨.bl r.isSome, H, J, rfl, ?_⟩
      cases hl : look p.2 d with
      | none => rw [l2 hl]; rw [hl] at q; exact g.now m q rfl
      | some z => obtain ⟨w, e, _⟩ := l1 z hl; rw [e]; rw [hl] at q; exact g.now m q rfl
    · obtain ⟨a, vs, rfl, rs, hs⟩ := seq_of m re e1
      cases (show u = Value.ref a from ry)
      rcases hs with ⟨_, hs⟩ | ⟨_, hs⟩
      · obtain ⟨_, its, r1, p⟩ := tupAt I hs
        refine SeqAt.in_tupleAt (eU H d) p (fun w hw => mem_eU I (rd.dat h1) rx (by omega) (rs.dat h2) h2 r1 w (by simpa using hw)) ?_
        rw [show its.toArray.any (eU H d) = its.any (eU H d) by simp, any_eU (rs.dat h2) r1]
        exact fin q
      · obtain ⟨_, its, n, r1, p⟩ := Rd.listAt I hs
        refine SeqAt.in_listAt (eU H d) ⟨_, p, rfl, _, rfl⟩ (fun w hw => mem_eU I (rd.dat h1) rx (by omega) (rs.dat h2) h2 r1 w (by simpa using hw)) ?_
        rw [show its.toArray.any (eU H d) = its.any (eU H d) by simp, any_eU (rs.dat h2) r1]
        exact fin q
  | notin =>
    rcases in_cases (show inop d e M (fun r => Q' (.bl (!r)) M) from w) with ⟨z, rfl, w⟩ | ⟨p, e1, hk, q⟩ | ⟨xs, e1, ⟨h1, h2⟩, q⟩
    · obtain ⟨k, rfl, q⟩ := onC_one w
      exact op_notIn_sign pins s σ H x y v u Q I rx ry ⟨k, z, rd, re, g.now m q rfl⟩
    · obtain ⟨a, r, rfl, dg, l1, l2⟩ := dget_of m re rd e1 hk
      cases (show u = Value.ref a from ry)
      refine d_notIn (by omega) I dg rx fun s' J => ⟨.bl (!r.isSome), H, J, rfl, ?_⟩
      cases hl : look p.2 d with
      | none => rw [l2 hl]; rw [hl] at q; exact g.now m q rfl
      | some z => obtain ⟨w, e, _⟩ := l1 z hl; rw [e]; rw [hl] at q; exact g.now m q rfl
    · obtain ⟨a, vs, rfl, rs, hs⟩ := seq_of m re e1
      cases (show u = Value.ref a from ry)
      rcases hs with ⟨_, hs⟩ | ⟨_, hs⟩
      · obtain ⟨_, its, r1, p⟩ := tupAt I hs
        refine SeqAt.notIn_tupleAt (eU H d) p (fun w hw => mem_eU I (rd.dat h1) rx (by omega) (rs.dat h2) h2 r1 w (by simpa using hw)) ?_
        rw [show its.toArray.any (eU H d) = its.any (eU H d) by simp, any_eU (rs.dat h2) r1]
        exact fin q
      · obtain ⟨_, its, n, r1, p⟩ := Rd.listAt I hs
        refine SeqAt.notIn_listAt (eU H d) ⟨_, p, rfl, _, rfl⟩ (fun w hw => mem_eU I (rd.dat h1) rx (by omega) (rs.dat h2) h2 r1 w (by simpa using hw)) ?_
        rw [show its.toArray.any (eU H d) = its.any (eU H d) by simp, any_eU (rs.dat h2) r1]
        exact fin q

/-! ### o[i], o[lo:hi], o[i] = v -/
theorem ixN_eq {n : Nat} {i : Int} : Dee.ixN n i = L2.ixN n i := rfl
def rIxD (c : LC) : R2 := fun x y H Q => ∃ d e M Q', MRep c.mg M H ∧ Rep c.mg M H d x ∧ Rep c.mg M H e y ∧ subop d e M (fun r => Q' r M) ∧ Goes c M H Q' Q
theorem sub_cases {o i : D} {M : Mem} {Q : D → Prop} (h : subop o i M Q) : (∃ p, dctM M o = some p ∧ isKey p.1 i = true ∧ ob (look p.2 i) Q) ∨
    (∃ s k j c, o = .str s ∧ i = .int k ∧ Dee.ixN s.cps.toList.length k = some j ∧ s.cps.toList[j]? = some c ∧ s.length ≤ line ∧ Q (.str ⟨#[c]⟩)) ∨
    (∃ k xs j v, i = .int k ∧ seqM M o = some xs ∧ Dee.ixN xs.length k = some j ∧ xs[j]? = some v ∧ Q v) := by
  unfold subop at h
  split at h
  · rename_i p e
    exact .inl ⟨p, e, h⟩
  · rename_i e0
    cases o with
    | str s =>
      obtain ⟨k, rfl, h⟩ := onI_int h
      obtain ⟨j, e1, h⟩ := ob_some h
      obtain ⟨c, e2, h1, h2⟩ := ob_some h
      exact .inr (.inl ⟨s, k, j, c, rfl, rfl, e1, e2, h1, h2⟩)
    | _ =>
      have w1 : onI i (fun k => ob (seqM M _) fun xs => ob (Dee.ixN xs.length k) fun j => ob xs[j]? Q) := h
      obtain ⟨k, ek, w2⟩ := onI_int w1
      obtain ⟨xs, e0, w3⟩ := ob_some w2
      obtain ⟨j, e1, w4⟩ := ob_some w3
      obtain ⟨v, e2, w5⟩ := ob_some w4
      exact .inr (.inr ⟨k, xs, j, v, ek, e0, e1, e2, w5⟩)
theorem ix_all (hu : X.A.units + 64 < cLine) : IxR X (rIxD c) := by
  intro value slice pins s σ H x y v u Q I rx ry h hs
  obtain ⟨d, e, M, Q', m, rd, re, w, g⟩ := h
  rcases sub_cases w with ⟨p, e1, hk, w⟩ | ⟨z, k, j, ch, rfl, rfl, h1, h2, h3, q⟩ | ⟨k, xs, j, z, rfl, e1, h1, h2, q⟩
  · obtain ⟨z, hl, q⟩ := ob_some w
    obtain ⟨a, r, rfl, dg, l1, l2⟩ := dget_of m rd re e1 hk
    obtain ⟨w, rfl, rz⟩ := l1 z hl
    cases (show v = Value.ref a from rx)
    exact tail_any (dict_typeIs I dg) PySem.F.slot_dict_getitem.lookup (d_getItem (by omega) I dg ry fun w' s' J rw' => ⟨w, H, J, rw', g.now m q rz⟩) hs
  · exact ix_str value slice pins s σ H x y v u Q I rx ry ⟨z, k, ch, rd, re, by rw [← line_eq]; exact h3, by unfold atI; rw [← ixN_eq, h1]; exact h2, g.now m q rfl⟩ hs
  · obtain ⟨a, vs, rfl, rs, hsq⟩ := seq_of m rd e1
    obtain ⟨w, hw, rz⟩ := rs.get h2
    have ha : atI vs k = some w := by unfold atI; rw [← ixN_eq, ← rs.length, h1]; exact hw
    rcases hsq with ⟨_, hsq⟩ | ⟨_, hsq⟩
    · exact ix_tup value slice pins s σ H _ y v u Q I rx ry ⟨a, vs, k, w, rfl, re, SqT.of hsq, ha, g.now m q rz⟩ hs
    · exact ix_list value slice pins s σ H _ y v u Q I rx ry ⟨a, vs, k, w, rfl, re, .inl hsq, ha, g.now m q rz⟩ hs
theorem sIx_eq : @Dee.sIx = @HT.sIx := by
  funext n d o
  cases o <;> rfl
theorem cutL_V (vs : List V) (lo hi : Option Int) : cutL vs lo hi = cutV vs lo hi := by unfold cutL cutV; rw [sIx_eq]
theorem RepL.cut {mg : Gm} {M : Mem} {H : Hp} {ds : List D} {vs : List V} (h : RepL mg M H ds vs) (lo hi : Option Int) : RepL mg M H (cutL ds lo hi) (cutV vs lo hi) := by
  rw [← cutL_V]
  unfold cutL
  rw [h.length]
  exact (h.drop _).take _
def rSlD (c : LC) : V → Option Int → Option Int → Hp → VK → Prop := fun x lo hi H Q => ∃ d M Q', MRep c.mg M H ∧ Rep c.mg M H d x ∧
  (match d with | .str s => s.length ≤ line ∧ Q' (.str ⟨(cutL s.cps.toList lo hi).toArray⟩) M | .tup xs => Q' (.tup (cutL xs lo hi)) M | d => ob (seqM M d) fun xs => Q' (.lst (cutL xs lo hi)) M) ∧ Goes c M H Q' Q
theorem sl_all : SlR X (rSlD c) := by
  intro pins s σ H x v vl vu lo hi sl Q I rx hs pl pu h
  obtain ⟨d, M, Q', m, rd, w, g⟩ := h
  have lst : ∀ {d : D}, isTup d = false → Rep c.mg M H d x → (ob (seqM M d) fun xs => Q' (.lst (cutL xs lo hi)) M) →
      ∃ T id, typeLookup (.type T) "__getitem__" = pure (some (.builtin id)) ∧ s.TypeIs v T ∧ wpAny (model X.prog X.w) X.A (getItem v (.ref sl)) (EP X pins σ Q) X.xe s := fun {d} ht rd w => by
    obtain ⟨xs, e, q⟩ := ob_some w
    obtain ⟨a, vs, rfl, rs, hsq⟩ := seq_of m rd e
    rcases hsq with ⟨z, _⟩ | ⟨_, hsq⟩
    · rw [ht] at z; cases z
    · exact sl_list pins s σ H _ v vl vu lo hi sl Q I rx hs pl pu ⟨a, vs, rfl, .inl hsq, fun p hp => g.lst m q (rs.cut lo hi) hp⟩
  cases d with
  | str z =>
    obtain ⟨hz, q⟩ := w
    refine sl_str pins s σ H _ v vl vu lo hi sl Q I rx hs pl pu ⟨z, rd, by rw [← line_eq]; exact hz, ?_⟩
    have e : cutS z lo hi = ⟨(cutL z.cps.toList lo hi).toArray⟩ := by
      unfold cutS cutL
      rw [sIx_eq]
      simp [Str.length]
    rw [e]
    exact g.now m q rfl
  | tup xs =>
    obtain ⟨a, vs, ea, na, ha, ra⟩ := id rd
    refine sl_tupA pins s σ H _ v vl vu lo hi sl Q I rx hs pl pu ⟨a, vs, ea, SqT.of ha, fun hw => ?_, fun _ p hp => g.tup m w (ra.cut lo hi) hp⟩
    have e : cutL xs lo hi = xs := by
      unfold cutL
      rw [sIx_eq, ra.length, hw.1, hw.2, Nat.sub_zero, List.drop_zero, ← ra.length]
      exact List.take_length
    have w2 : Q' (.tup (cutL xs lo hi)) M := w
    rw [e] at w2
    exact g.now m w2 (ea ▸ rd)
  | lst xs => exact lst rfl rd w
  | ref a => exact lst rfl rd w
  | _ => exact w.elim

/-! ### o[i] = v -/
def rSetD (c : LC) : TSet := fun o i v H Q => ∃ d e f M Q', MRep c.mg M H ∧ Rep c.mg M H d o ∧ Rep c.mg M H e i ∧ Rep c.mg M H f v ∧ setop d e f M Q' ∧ (∀ M' H', Q' M' → Mono M H M' H' → MRep c.mg M' H' → Q H')
theorem putK_eq {κ : Type} [DecidableEq κ] (ws : List (κ × V)) (j : κ) (v : V) : putK ws j v = if (valV ws j).isSome then ws.map (fun p => if p.1 = j then (p.1, v) else p) else ws ++ [(j, v)] := by
  have e : (ws.any fun kv => decide (kv.1 = j)) = (valV ws j).isSome := by
    unfold valV
    rw [Option.isSome_map, Bool.eq_iff_iff, List.find?_isSome, List.any_eq_true]
  unfold putK
  rw [e]
theorem repK_put {mg : Gm} {M : Mem} {H : Hp} {j : Key} {d : D} {v : V} (hd : Rep mg M H d v) : ∀ {kvs : List (D × D)} {ws : List (Key × V)}, RepK mg M H kvs ws → RepK mg M H (put kvs (keyD j) d) (putK ws j v) := by
  have mapd : ∀ {kvs : List (D × D)} {ws : List (Key × V)}, RepK mg M H kvs ws → RepK mg M H (kvs.map fun p => if p.1 = keyD j then (p.1, d) else p) (ws.map fun p => if p.1 = j then (p.1, v) else p) := by
    intro kvs
    induction kvs with
    | nil => intro ws h; cases (show ws = [] from h); rfl
    | cons p kvs ih =>
      intro ws h
      obtain ⟨k', x⟩ := p
      obtain ⟨j', w, r, e, hk, hx, hr⟩ := h
      subst e hk
      rw [List.map_cons, List.map_cons]
      by_cases h2 : j' = j
      · subst h2
        simp only [if_true]
        exact ⟨_, _, _, rfl, rfl, hd, ih hr⟩
      · have h3 : ¬ keyD j' = keyD j := fun z => h2 (keyD_inj z)
        simp only [h2, h3, if_false]
        exact ⟨_, _, _, rfl, rfl, hx, ih hr⟩
  have app : ∀ {kvs : List (D × D)} {ws : List (Key × V)}, RepK mg M H kvs ws → RepK mg M H (kvs ++ [(keyD j, d)]) (ws ++ [(j, v)]) := by
    intro kvs
    induction kvs with
    | nil => intro ws h; cases (show ws = [] from h); exact ⟨_, _, _, rfl, rfl, hd, rfl⟩
    | cons p kvs ih =>
      intro ws h
      obtain ⟨k', x⟩ := p
      obtain ⟨j', w, r, e, hk, hx, hr⟩ := h
      subst e
      exact ⟨_, _, _, rfl, hk, hx, ih hr⟩
  intro kvs ws h
  obtain ⟨l1, l2⟩ := repK_look (j := j) h
  unfold put
  rw [putK_eq]
  cases hl : look kvs (keyD j) with
  | none =>
    rw [l2 hl]
    exact app h
  | some x =>
    obtain ⟨w, e, _⟩ := l1 x hl
    rw [e]
    exact mapd h
theorem repT_put {mg : Gm} {M : Mem} {H : Hp} {j : List Key} {d : D} {v : V} (hd : Rep mg M H d v) : ∀ {kvs : List (D × D)} {ws : List (List Key × V)}, RepT mg M H kvs ws → RepT mg M H (put kvs (.tup (j.map keyD)) d) (putK ws j v) := by
  have mapd : ∀ {kvs : List (D × D)} {ws : List (List Key × V)}, RepT mg M H kvs ws → RepT mg M H (kvs.map fun p => if p.1 = .tup (j.map keyD) then (p.1, d) else p) (ws.map fun p => if p.1 = j then (p.1, v) else p) := by
    intro kvs
    induction kvs with
    | nil => intro ws h; cases (show ws = [] from h); rfl
    | cons p kvs ih =>
      intro ws h
      obtain ⟨k', x⟩ := p
      obtain ⟨j', w, r, e, hk, hx, hr⟩ := h
      subst e hk
      rw [List.map_cons, List.map_cons]
      by_cases h2 : j' = j
      · subst h2
        simp only [if_true]
        exact ⟨_, _, _, rfl, rfl, hd, ih hr⟩
      · have h3 : ¬ D.tup (j'.map keyD) = D.tup (j.map keyD) := fun z => h2 (keyDs_inj (by injection z))
        simp only [h2, h3, if_false]
        exact ⟨_, _, _, rfl, rfl, hx, ih hr⟩
  have app : ∀ {kvs : List (D × D)} {ws : List (List Key × V)}, RepT mg M H kvs ws → RepT mg M H (kvs ++ [(.tup (j.map keyD), d)]) (ws ++ [(j, v)]) := by
    intro kvs
    induction kvs with
    | nil => intro ws h; cases (show ws = [] from h); exact ⟨_, _, _, rfl, rfl, hd, rfl⟩
    | cons p kvs ih =>
      intro ws h
      obtain ⟨k', x⟩ := p
      obtain ⟨j', w, r, e, hk, hx, hr⟩ := h
      subst e
      exact ⟨_, _, _, rfl, hk, hx, ih hr⟩
  intro kvs ws h
  obtain ⟨l1, l2⟩ := repT_look (j := j) h
  unfold put
  rw [putK_eq]
  cases hl : look kvs (.tup (j.map keyD)) with
  | none =>
    rw [l2 hl]
    exact app h
  | some x =>
    obtain ⟨w, e, _⟩ := l1 x hl
    rw [e]
    exact mapd h
theorem RepK.length {mg : Gm} {M : Mem} {H : Hp} : ∀ {kvs : List (D × D)} {ws : List (Key × V)}, RepK mg M H kvs ws → kvs.length = ws.length
  | [], _, h => by cases h; rfl
  | (_, _) :: _, _, ⟨_, _, _, e, _, _, hr⟩ => by cases e; simp [RepK.length hr]
theorem RepT.length {mg : Gm} {M : Mem} {H : Hp} : ∀ {kvs : List (D × D)} {ws : List (List Key × V)}, RepT mg M H kvs ws → kvs.length = ws.length
  | [], _, h => by cases h; rfl
  | (_, _) :: _, _, ⟨_, _, _, e, _, _, hr⟩ => by cases e; simp [RepT.length hr]
theorem set_all (hu : X.A.units + 64 < cLine) : PSet X (rSetD c) := by
  intro pins s σ H o i v ov iv u Q I ro ri rv h
  obtain ⟨d, e, f, M, Q', m, rd, re, rf, w, g⟩ := h
  obtain ⟨a, ea, w1⟩ := onR_ref w
  clear w
  subst ea
  have eo : o = .ref a := rd
  subst eo
  cases ho : M a with
  | none => rw [ho] at w1; exact w1.elim
  | some x =>
    rw [ho] at w1
    have hm : H a = none ∨ ∃ y, M a = some y := .inr ⟨x, ho⟩
    have st := m.std a x ho
    cases x with
    | lst xs =>
      obtain ⟨k, ek, w2⟩ := onI_int w1
      subst ek
      obtain ⟨j, hj, q⟩ := ob_some w2
      obtain ⟨vs, hv, rs⟩ := st
      refine set_list pins s σ H _ i v ov iv u Q I ro ri rv ⟨a, vs, k, j, rfl, re, hv, by rw [← ixN_eq, ← rs.length]; exact hj, ?_⟩
      exact g _ _ q (Mono.put hm) (m.put hm ⟨vs.set j v, upd_same, (rs.mono (Mono.put hm)).set (rf.mono (Mono.put hm)) j⟩)
    | dct t kvs =>
      obtain ⟨hk, hl, q⟩ := w1
      cases (show ov = Value.ref a from ro)
      cases t with
      | false =>
        obtain ⟨ws, hw, rs⟩ := st
        obtain ⟨j, ei, ee⟩ := repK_key hk re
        subst ee
        refine d_setItem (H' := upd H a (.dK (putK ws j v))) (by omega) I (.inl ⟨ws, j, hw, ei, by rw [← line_eq, ← rs.length]; exact hl, rfl⟩) ri rv fun s' J => ⟨_, J, ?_⟩
        exact g _ _ q (Mono.put hm) (m.put hm ⟨_, upd_same, repK_put (rf.mono (Mono.put hm)) (rs.mono (Mono.put hm))⟩)
      | true =>
        obtain ⟨ws, hw, rs⟩ := st
        obtain ⟨j, b, ei, hb, ee⟩ := repT_key hk re
        subst ee
        refine d_setItem (H' := upd H a (.dT (putK ws j v))) (by omega) I (.inr ⟨ws, j, b, hw, ei, hb, by rw [← line_eq, ← rs.length]; exact hl, rfl⟩) ri rv fun s' J => ⟨_, J, ?_⟩
        exact g _ _ q (Mono.put hm) (m.put hm ⟨_, upd_same, repT_put (rf.mono (Mono.put hm)) (rs.mono (Mono.put hm))⟩)
    | ins C fs => exact w1.elim

end
end Dee

set_option Elab.async false
set_option linter.all false
set_option autoImplicit false
set_option maxRecDepth 100000
set_option maxHeartbeats 400000
/-! Dee: built-in functions, methods, isinstance. -/
namespace Dee
open PySem PySem.Spec PyProof.Rows L2
section
variable {X : Cx} {c : LC}
/-! ### built-in functions -/
def biOf : Bi → Value
  | .len => .builtin "len" | .abs => .builtin "abs" | .int => .type "int" | .str => .type "str" | .list => .type "list" | .tuple => .type "tuple" | .dict => .type "dict"
  | .all => .builtin "all" | .any => .builtin "any" | .sum => .builtin "sum" | .max2 => .builtin "max" | .min2 => .builtin "min" | .max1 => .builtin "max" | .min1 => .builtin "min"
  | .sorted => .builtin "sorted" | .lenset => .none | .sortset => .none
def rBi (c : LC) (b : Bi) (k : Bool) : List V → Hp → VK → Prop := fun xs H Q => ∃ ds M Q', MRep c.mg M H ∧ RepL c.mg M H ds xs ∧ biop b k ds M Q' ∧ Goes c M H Q' Q
theorem ints_V {mg : Gm} {M : Mem} {H : Hp} : ∀ {xs : List D} {vs : List V} {ns : List Int}, RepL mg M H xs vs → dInts xs = some ns → vs = ns.map V.int
  | [], _, _, h, e => by cases (show _ = [] from h); cases e; rfl
  | x :: xs, _, _, ⟨v, r, e1, hx, hr⟩, e => by
    subst e1
    cases x with
    | int i =>
      cases (show v = .int i from hx)
      simp only [dInts, Option.map_eq_some_iff] at e
      obtain ⟨ms, e2, rfl⟩ := e
      rw [ints_V hr e2]; rfl
    | _ => cases e
theorem bools_V {mg : Gm} {M : Mem} {H : Hp} : ∀ {xs : List D} {vs : List V} {ns : List Bool}, RepL mg M H xs vs → dBools xs = some ns → vs = ns.map V.bl
  | [], _, _, h, e => by cases (show _ = [] from h); cases e; rfl
  | x :: xs, _, _, ⟨v, r, e1, hx, hr⟩, e => by
    subst e1
    cases x with
    | bl i =>
      cases (show v = .bl i from hx)
      simp only [dBools, Option.map_eq_some_iff] at e
      obtain ⟨ms, e2, rfl⟩ := e
      rw [bools_V hr e2]; rfl
    | _ => cases e
theorem texts_V {mg : Gm} {M : Mem} {H : Hp} : ∀ {xs : List D} {vs : List V} {ns : List Str}, RepL mg M H xs vs → dTexts xs = some ns → vs = ns.map V.str
  | [], _, _, h, e => by cases (show _ = [] from h); cases e; rfl
  | x :: xs, _, _, ⟨v, r, e1, hx, hr⟩, e => by
    subst e1
    cases x with
    | str i =>
      cases (show v = .str i from hx)
      simp only [dTexts, Option.map_eq_some_iff] at e
      obtain ⟨ms, e2, rfl⟩ := e
      rw [texts_V hr e2]; rfl
    | _ => cases e
theorem lst_of {mg : Gm} {M : Mem} {H : Hp} (m : MRep mg M H) {d : D} {v : V} {xs : List D} (r : Rep mg M H d v) (t : isTup d = false) (e : seqM M d = some xs) : ∃ a vs, v = .ref a ∧ RepL mg M H xs vs ∧ Rd H a (.lst vs) := by
  obtain ⟨a, vs, ev, rs, h⟩ := seq_of m r e
  rcases h with ⟨z, _⟩ | ⟨_, h⟩
  · rw [t] at z; cases z
  · exact ⟨a, vs, ev, rs, h⟩
theorem dct_rd {mg : Gm} {M : Mem} {H : Hp} (m : MRep mg M H) {d : D} {v : V} {p : Bool × List (D × D)} (r : Rep mg M H d v) (e : dctM M d = some p) :
    ∃ a, v = .ref a ∧ ((p.1 = false ∧ ∃ ws, Rd H a (.dK ws) ∧ RepK mg M H p.2 ws) ∨ (p.1 = true ∧ ∃ ws, Rd H a (.dT ws) ∧ RepT mg M H p.2 ws)) := by
  obtain ⟨t, kvs⟩ := p
  exact dct_of m r e
theorem repK_keys {mg : Gm} {M : Mem} {H : Hp} : ∀ {kvs : List (D × D)} {ws : List (Key × V)}, RepK mg M H kvs ws → RepL mg M H (kvs.map (·.1)) (ws.map fun kv => kV kv.1)
  | [], _, h => by cases (show _ = [] from h); rfl
  | (k, d) :: kvs, _, ⟨j, v, r, e, hk, hd, hr⟩ => by
    subst e hk
    refine ⟨_, _, rfl, ?_, repK_keys hr⟩
    cases j <;> rfl
theorem pairs_V {mg : Gm} {M : Mem} {H : Hp} {K : PySem.W.Frag} : ∀ {xs : List D} {vs : List V} {ps : List (D × D)}, RepL mg M H xs vs → dPairs xs = some ps → (∀ p ∈ ps, isKey false p.1 = true) →
    ∃ (as : List Addr) (kvs : List (Key × V)), vs = as.map V.ref ∧ Paired (fun p kv => SqT K H p [kV kv.1, kv.2]) as kvs ∧ RepK mg M H ps kvs
  | [], _, _, h, e, _ => by cases (show _ = [] from h); cases e; exact ⟨[], [], rfl, .nil, rfl⟩
  | x :: xs, _, ps, ⟨v, r, e1, hx, hr⟩, e, hk => by
    subst e1
    obtain ⟨a, b, ex⟩ : ∃ a b, x = .tup [a, b] := by
      cases x with
      | tup ys =>
        cases ys with
        | nil => cases e
        | cons a ys =>
          cases ys with
          | nil => cases e
          | cons b ys =>
            cases ys with
            | nil => exact ⟨a, b, rfl⟩
            | cons _ _ => cases e
      | _ => cases e
    subst ex
    simp only [dPairs, Option.map_eq_some_iff] at e
    obtain ⟨qs, e2, e3⟩ := e
    subst e3
    obtain ⟨as, kvs, e3, pr, rk⟩ := pairs_V (K := K) hr e2 fun p hp => hk p (List.mem_cons_of_mem _ hp)
    obtain ⟨ad, us, ev, na, ha, ru⟩ := hx
    obtain ⟨ka, vb, eu, ra, rb⟩ := repL2 ru
    subst eu
    obtain ⟨j, ej, ek⟩ := repK_key (hk (a, b) List.mem_cons_self) ra
    exact ⟨ad :: as, (j, vb) :: kvs, by rw [ev, e3]; rfl, .cons (SqT.of (by rw [← ej]; exact ha)) pr, ⟨_, _, _, rfl, ek, rb, rk⟩⟩
theorem putAll_K {mg : Gm} {M : Mem} {H : Hp} : ∀ {ps : List (D × D)} {ws : List (Key × V)} {kvs : List (D × D)} {us : List (Key × V)}, RepK mg M H ps ws → RepK mg M H kvs us → RepK mg M H (putAll kvs ps) (mergeK us ws)
  | [], _, _, _, h, h2 => by cases (show _ = [] from h); exact h2
  | (k, d) :: ps, _, kvs, us, ⟨j, v, r, e, hk, hd, hr⟩, h2 => by
    subst e hk
    show RepK mg M H (putAll (put kvs (keyD j) d) ps) (mergeK (putK us j v) r)
    exact putAll_K hr (repK_put hd h2)
def biSup : Bi → Bool | .sorted => false | .lenset => false | .sortset => false | _ => true
theorem bi_ok (b : Bi) (k : Bool) (hc : X.calm = true) (hb : biSup b = true) : CallR X (biOf b) (rBi c b k) := by
  intro pins s σ H xs us Q I r h
  obtain ⟨ds, M, Q', m, rs, w, g⟩ := h
  cases b with
  | len =>
    obtain ⟨d, rfl, w⟩ := on1_one w
    obtain ⟨v, rfl, rd⟩ := repL1 rs
    have gen : (match dctM M d with | some p => p.1 = false ∧ Q' (.int p.2.length) M | none => ob (seqM M d) fun xs => Q' (.int xs.length) M) → wpAny (model X.prog X.w) X.A (call (.builtin "len") us) (EP X pins σ Q) X.xe s := fun w => by
      split at w
      · rename_i p e
        obtain ⟨a, rfl, h⟩ := dct_rd m rd e
        rcases h with ⟨_, ws, h, hr⟩ | ⟨z, ws, h, hr⟩
        · obtain ⟨u, rfl, ru⟩ := r.one
          cases ru
          exact d_len I h fun t s' J => ⟨.int ws.length, H, J, ⟨_, rfl⟩, by rw [← hr.length]; exact g.now m w.2 rfl⟩
        · rw [w.1] at z; cases z
      · obtain ⟨xs, e, q⟩ := ob_some w
        obtain ⟨a, vs, rfl, rv, h⟩ := seq_of m rd e
        refine call_len_seq pins s σ H _ us Q I r ⟨a, vs, rfl, ?_, by rw [← rv.length]; exact g.now m q rfl⟩
        rcases h with ⟨_, h⟩ | ⟨_, h⟩
        · exact .inr (SqT.of h)
        · exact .inl (.inl h)
    cases d with
    | str z => exact call_len_str pins s σ H _ us Q I r ⟨z, by rw [show v = .str z from rd], by rw [← line_eq]; exact w.1, g.now m w.2 rfl⟩
    | _ => exact gen w
  | abs =>
    obtain ⟨d, rfl, w⟩ := on1_one w
    obtain ⟨v, rfl, rd⟩ := repL1 rs
    obtain ⟨i, rfl, q⟩ := onI_int w
    exact call_abs pins s σ H _ us Q I r ⟨i, by rw [show v = .int i from rd], g.now m q rfl⟩
  | int =>
    obtain ⟨d, rfl, w⟩ := on1_one w
    obtain ⟨v, rfl, rd⟩ := repL1 rs
    obtain ⟨i, rfl, q⟩ := onI_int w
    exact call_int1 pins s σ H _ us Q I r (.inl ⟨i, by rw [show v = .int i from rd], g.now m q rfl⟩)
  | str =>
    obtain ⟨d, rfl, w⟩ := on1_one w
    obtain ⟨v, rfl, rd⟩ := repL1 rs
    obtain ⟨i, rfl, hz, q⟩ := onI_int w
    exact call_str_int pins s σ H _ us Q I r ⟨i, by rw [show v = .int i from rd], hz, g.now m q rfl⟩
  | list =>
    obtain ⟨d, ed, w1⟩ := on1_one w
    clear w
    subst ed
    obtain ⟨v, rfl, rd⟩ := repL1 rs
    split at w1
    · exact w1.elim
    · obtain ⟨xs, e, q⟩ := ob_some w1
      obtain ⟨a, vs, rfl, rv, h⟩ := seq_of m rd e
      refine call_list_of pins s σ H _ us Q I r ⟨a, vs, rfl, ?_, fun p hp => g.newL m q rv hp⟩
      rcases h with ⟨_, h⟩ | ⟨_, h⟩
      · exact .inr (SqT.of h)
      · exact .inl (.inl h)
  | tuple =>
    obtain ⟨d, rfl, w⟩ := on1_one w
    obtain ⟨v, rfl, rd⟩ := repL1 rs
    obtain ⟨xs, e, q⟩ := ob_some w
    obtain ⟨a, vs, rfl, rv, h⟩ := seq_of m rd e
    refine call_tuple_of pins s σ H _ us Q I r ⟨a, vs, rfl, ?_⟩
    rcases h with ⟨ht, h⟩ | ⟨ht, h⟩
    · refine .inr ⟨SqT.of h, ?_⟩
      cases d with
      | tup ys => cases e; exact g.now m q rd
      | _ => cases ht
    · exact .inl ⟨.inl h, fun p hp => g.tup m q rv hp⟩
  | dict =>
    obtain ⟨d, ed, w1⟩ := on1_one w
    clear w
    subst ed
    obtain ⟨v, rfl, rd⟩ := repL1 rs
    split at w1
    · exact w1.elim
    · obtain ⟨t, w⟩ := w1
      obtain ⟨xs, e, w⟩ := ob_some w
      obtain ⟨ps, e2, hk, q⟩ := ob_some w
      obtain ⟨a, vs, rfl, rv, h⟩ := lst_of m rd t e
      obtain ⟨as, kvs, rfl, pr, rk⟩ := pairs_V (K := X.K) rv e2 hk
      exact call_dictP hc pins s σ H _ us Q I r ⟨a, as, kvs, rfl, .inl h, pr, fun p hp => g.newK m q (putAll_K rk rfl) hp⟩
  | all =>
    obtain ⟨d, rfl, t, w⟩ := on1_one w
    obtain ⟨v, rfl, rd⟩ := repL1 rs
    obtain ⟨xs, e, w⟩ := ob_some w
    obtain ⟨bs, e2, q⟩ := ob_some w
    obtain ⟨a, vs, rfl, rv, h⟩ := lst_of m rd t e
    exact cr_all hc pins s σ H _ us Q I r ⟨a, bs, rfl, .inl (by rw [← bools_V rv e2]; exact h), g.now m q rfl⟩
  | any =>
    obtain ⟨d, rfl, t, w⟩ := on1_one w
    obtain ⟨v, rfl, rd⟩ := repL1 rs
    obtain ⟨xs, e, w⟩ := ob_some w
    obtain ⟨bs, e2, q⟩ := ob_some w
    obtain ⟨a, vs, rfl, rv, h⟩ := lst_of m rd t e
    exact cr_any hc pins s σ H _ us Q I r ⟨a, bs, rfl, .inl (by rw [← bools_V rv e2]; exact h), g.now m q rfl⟩
  | sum =>
    obtain ⟨d, rfl, t, w⟩ := on1_one w
    obtain ⟨v, rfl, rd⟩ := repL1 rs
    obtain ⟨xs, e, w⟩ := ob_some w
    obtain ⟨bs, e2, q⟩ := ob_some w
    obtain ⟨a, vs, rfl, rv, h⟩ := lst_of m rd t e
    exact cr_sum hc pins s σ H _ us Q I r ⟨a, bs, rfl, .inl (by rw [← ints_V rv e2]; exact h), g.now m q rfl⟩
  | max2 =>
    obtain ⟨d, e, rfl, w⟩ := on2_two w
    obtain ⟨v, u, rfl, rd, re⟩ := repL2 rs
    obtain ⟨i, rfl, w⟩ := onI_int w
    obtain ⟨j, rfl, q⟩ := onI_int w
    exact call_max2 hc pins s σ H _ us Q I r ⟨i, j, by rw [show v = .int i from rd, show u = .int j from re], g.now m q rfl⟩
  | min2 =>
    obtain ⟨d, e, rfl, w⟩ := on2_two w
    obtain ⟨v, u, rfl, rd, re⟩ := repL2 rs
    obtain ⟨i, rfl, w⟩ := onI_int w
    obtain ⟨j, rfl, q⟩ := onI_int w
    exact call_min2 hc pins s σ H _ us Q I r ⟨i, j, by rw [show v = .int i from rd, show u = .int j from re], g.now m q rfl⟩
  | max1 =>
    obtain ⟨d, rfl, t, w⟩ := on1_one w
    obtain ⟨v, rfl, rd⟩ := repL1 rs
    obtain ⟨xs, e, w⟩ := ob_some w
    obtain ⟨bs, e2, h0, q⟩ := ob_some w
    obtain ⟨a, vs, rfl, rv, h⟩ := lst_of m rd t e
    exact cr_max hc pins s σ H _ us Q I r ⟨a, bs, rfl, .inl (by rw [← ints_V rv e2]; exact h), h0, fun k h1 h2 => g.now m (q k h1 h2) rfl⟩
  | min1 =>
    obtain ⟨d, rfl, t, w⟩ := on1_one w
    obtain ⟨v, rfl, rd⟩ := repL1 rs
    obtain ⟨xs, e, w⟩ := ob_some w
    obtain ⟨bs, e2, h0, q⟩ := ob_some w
    obtain ⟨a, vs, rfl, rv, h⟩ := lst_of m rd t e
    exact cr_min hc pins s σ H _ us Q I r ⟨a, bs, rfl, .inl (by rw [← ints_V rv e2]; exact h), h0, fun k h1 h2 => g.now m (q k h1 h2) rfl⟩
  | _ => cases hb

/-! ### methods -/
def mtOf : Mt → String | .append => "list.append" | .extend => "list.extend" | .pop => "list.pop" | .get => "dict.get" | .index => "list.index" | .count => "tuple.count" | .join => "str.join" | .split => "str.split"
def mtTy : Mt → String | .append => "list" | .extend => "list" | .pop => "list" | .get => "dict" | .index => "list" | .count => "tuple" | .join => "str" | .split => "str"
def rMt (c : LC) (x : Mt) : V → List V → Hp → VK → Prop := fun o xs H Q => ∃ d ds M Q', MRep c.mg M H ∧ Rep c.mg M H d o ∧ RepL c.mg M H ds xs ∧ mthop x d ds M Q' ∧ Goes c M H Q' Q
theorem atL_at {M : Mem} {a : Nat} {xs : List D} (h : atL M a = some xs) : M a = some (.lst xs) := by
  unfold atL at h
  split at h
  · rename_i ys e
    cases h
    exact e
  · cases h
theorem RepL.dropLast {mg : Gm} {M : Mem} {H : Hp} {ds : List D} {vs : List V} (h : RepL mg M H ds vs) : RepL mg M H ds.dropLast vs.dropLast := by
  rw [List.dropLast_eq_take, List.dropLast_eq_take, h.length]
  exact h.take _
def mtSup : Mt → Bool | .append => true | .extend => true | .pop => true | .join => true | .get => true | _ => false
theorem mt_ok (k : Mt) (hu : X.A.units + 64 < cLine) (hb : mtSup k = true) : MtR X (mtOf k) (rMt c k) := by
  intro pins s σ H x xs v us Q I rx rs h
  obtain ⟨d, ds, M, Q', m, rd, rv, w, g⟩ := h
  cases k with
  | append =>
    obtain ⟨a, ea, w1⟩ := onR_ref w
    obtain ⟨ys, ey, w2⟩ := ob_some w1
    obtain ⟨e, ee, hl, q⟩ := on1_one w2
    subst ea ee
    have ex : x = .ref a := rd
    subst ex
    obtain ⟨u, eu, ru⟩ := repL1 rv
    subst eu
    have hm : H a = none ∨ ∃ y, M a = some y := .inr ⟨_, atL_at ey⟩
    obtain ⟨vs, hv, rvs⟩ := m.std a _ (atL_at ey)
    refine mt_append pins s σ H _ _ v us Q I rx rs ⟨a, vs, u, rfl, rfl, hv, by rw [← line_eq, ← rvs.length]; exact hl, ?_⟩
    exact g _ _ _ _ q (Mono.put hm) (m.put hm ⟨_, upd_same, (rvs.mono (Mono.put hm)).append ⟨u, [], rfl, ru.mono (Mono.put hm), rfl⟩⟩) rfl
  | extend =>
    obtain ⟨a, ea, w1⟩ := onR_ref w
    obtain ⟨ys, ey, w2⟩ := ob_some w1
    obtain ⟨e, ee, w3⟩ := on1_one w2
    obtain ⟨zs, ez, _, hl, q⟩ := ob_some w3
    subst ea ee
    have ex : x = .ref a := rd
    subst ex
    obtain ⟨u, eu, ru⟩ := repL1 rv
    subst eu
    have hm : H a = none ∨ ∃ y, M a = some y := .inr ⟨_, atL_at ey⟩
    obtain ⟨vs, hv, rvs⟩ := m.std a _ (atL_at ey)
    obtain ⟨b, ws, eb, rw', hw⟩ := seq_of m ru ez
    subst eb
    refine mt_extL pins s σ H _ _ v us Q I rx rs ⟨a, b, vs, ws, rfl, rfl, hv, ?_, by rw [← line_eq, ← rvs.length, ← rw'.length]; exact hl, ?_⟩
    · rcases hw with ⟨_, hw⟩ | ⟨_, hw⟩
      · exact .inr hw
      · exact .inl hw
    · exact g _ _ _ _ q (Mono.put hm) (m.put hm ⟨_, upd_same, (rvs.mono (Mono.put hm)).append (rw'.mono (Mono.put hm))⟩) rfl
  | pop =>
    obtain ⟨a, ea, w1⟩ := onR_ref w
    obtain ⟨ys, ey, ed, w2⟩ := ob_some w1
    obtain ⟨z, ez, q⟩ := ob_some w2
    subst ea ed
    have ex : x = .ref a := rd
    subst ex
    cases (show xs = [] from rv)
    have hm : H a = none ∨ ∃ y, M a = some y := .inr ⟨_, atL_at ey⟩
    obtain ⟨vs, hv, rvs⟩ := m.std a _ (atL_at ey)
    rw [List.getLast?_eq_getElem?] at ez
    obtain ⟨u, eu, ru⟩ := rvs.get ez
    refine mt_pop pins s σ H _ _ v us Q I rx rs ⟨a, vs, u, rfl, rfl, hv, by rw [← rvs.length]; exact eu, ?_⟩
    exact g _ _ _ _ q (Mono.put hm) (m.put hm ⟨_, upd_same, (rvs.mono (Mono.put hm)).dropLast⟩) (ru.mono (Mono.put hm))
  | get =>
    obtain ⟨p, ep, w1⟩ := ob_some w
    obtain ⟨e, f, ee, hk, q⟩ := on2_two w1
    subst ee
    obtain ⟨y, z, ey, re, rf⟩ := repL2 rv
    subst ey
    obtain ⟨a, r, ex, dg, l1, l2⟩ := dget_of m rd re ep hk
    subst ex
    cases (show v = Value.ref a from rx)
    obtain ⟨u1, u2, eu, r1, r2⟩ := rs.two
    subst eu
    refine d_get2 (by omega) I dg r1 r2 fun w' s' J rw' => ⟨_, H, J, rw', ?_⟩
    cases hl : look p.2 e with
    | none => rw [l2 hl]; rw [hl] at q; exact g.now m q rf
    | some t => obtain ⟨w, e2, rt⟩ := l1 t hl; rw [e2]; rw [hl] at q; exact g.now m q rt
  | join =>
    obtain ⟨z, ez, w1⟩ := onS_str w
    obtain ⟨e, ee, w2⟩ := on1_one w1
    obtain ⟨ys, ey, w3⟩ := ob_some w2
    obtain ⟨ts, et, hl, q⟩ := ob_some w3
    subst ez ee
    obtain ⟨u, eu, ru⟩ := repL1 rv
    subst eu
    obtain ⟨a, vs, ea, rvs, h⟩ := seq_of m ru ey
    subst ea
    have ev := texts_V rvs et
    subst ev
    refine mt_join pins s σ H _ _ v us Q I rx rs ⟨z, a, ts, rd, rfl, ?_, hl, ?_⟩
    · rcases h with ⟨_, h⟩ | ⟨_, h⟩
      · exact .inr (SqT.of h)
      · exact .inl (.inl h)
    · rw [TL.join_eq]
      exact g.now m q rfl
  | _ => cases hb
end
end Dee

set_option Elab.async false
set_option linter.all false
set_option autoImplicit false
set_option maxRecDepth 100000
set_option maxHeartbeats 1000000
/-! Dee: a program of the small language says what the model does: the constructs, one by one. -/
namespace Dee
open PySem PySem.Spec PyProof.Rows L2

/-! ### readings -/
def tE (c : LC) (W : WX) (F : Sem) (e : Ex) : TE := fun σ H Q => ∃ ρ M Q' E', Rp c ρ M σ H ∧ wE F e ρ M Q' E' ∧ Goes c M H Q' Q ∧ Throws c (fun cls d H' => W cls d σ H') M H E'
def tT (c : LC) (W : WX) (F : Sem) (e : Ex) : TT := fun σ H Q => tE c W F e σ H fun v H1 => ∃ b, v = .bl b ∧ Q b H1
def tA (c : LC) (W : WX) (F : Sem) (es : List Ex) : TA := fun σ H Q => ∃ ρ M Q' E', Rp c ρ M σ H ∧ wEs F es ρ M Q' E' ∧
  (∀ ds M' vs H', ds.length = es.length → Q' ds M' → Mono M H M' H' → MRep c.mg M' H' → RepL c.mg M' H' ds vs → Q vs H') ∧ Throws c (fun cls d H' => W cls d σ H') M H E'
theorem PE.imp {X : Cx} {e : Expr} {t t' : TE} (h : PE X e t) (i : ∀ σ H Q, t' σ H Q → t σ H Q) : PE X e t' := ⟨fun pins s σ H Q I q => h.run pins s σ H Q I (i _ _ _ q)⟩
theorem PT.imp {X : Cx} {e : Expr} {t t' : TT} (h : PT X e t) (i : ∀ σ H Q, t' σ H Q → t σ H Q) : PT X e t' := ⟨fun pins s σ H Q I q => h.run pins s σ H Q I (i _ _ _ q)⟩
theorem PA.imp {X : Cx} {e : List Expr} {t t' : TA} (h : PA X e t) (i : ∀ σ H Q, t' σ H Q → t σ H Q) : PA X e t' := ⟨fun pos pins s σ H Q I q => h.run pos pins s σ H Q I (i _ _ _ q)⟩
section
variable {c : LC} {W : WX} {F : Sem} {σ : L2.St} {H : Hp} {ρ : Env} {M : Mem} {E' : KX}
/-- a part is asked, then the rest -/
theorem tE_bind {a : Ex} {k : K} {R : VK} (R0 : Rp c ρ M σ H) (w : wE F a ρ M k E') (t : Throws c (fun cls d H' => W cls d σ H') M H E')
    (g : ∀ d M1 v H1, k d M1 → Mono M H M1 H1 → Rp c ρ M1 σ H1 → Rep c.mg M1 H1 d v → R v H1) : tE c W F a σ H R :=
  ⟨ρ, M, k, E', R0, w, fun d M1 v H1 q m mr r => g d M1 v H1 q m (R0.mono m mr) r, t⟩
theorem tA_bind {a : List Ex} {k : List D → Mem → Prop} {R : List V → Hp → Prop} (R0 : Rp c ρ M σ H) (w : wEs F a ρ M k E') (t : Throws c (fun cls d H' => W cls d σ H') M H E')
    (g : ∀ d M1 v H1, d.length = a.length → k d M1 → Mono M H M1 H1 → Rp c ρ M1 σ H1 → RepL c.mg M1 H1 d v → R v H1) : tA c W F a σ H R :=
  ⟨ρ, M, k, E', R0, w, fun d M1 v H1 z q m mr r => g d M1 v H1 z q m (R0.mono m mr) r, t⟩
/-- a test -/
theorem tT_bind {a : Ex} {k : Bool → Mem → Prop} {R : Bool → Hp → Prop} (R0 : Rp c ρ M σ H) (w : wE F a ρ M (asB k) E') (t : Throws c (fun cls d H' => W cls d σ H') M H E')
    (g : ∀ b M1 H1, k b M1 → Mono M H M1 H1 → Rp c ρ M1 σ H1 → R b H1) : tT c W F a σ H R :=
  tE_bind R0 w t fun d M1 v H1 q m R1 r => by
    obtain ⟨b, e, q⟩ := asB_bl q
    subst e
    exact ⟨b, r, g b M1 H1 q m R1⟩
end

/-! ### what is looked at, of the text alone -/
/-- where one stands: the names by slot, the scope that runs and the names of one's own, the defs by number; hot: in an except suite; its name -/
structure Ck where
  N : List Str
  sc : Scope
  own : List (Str × NameKind)
  hot : Bool
  xs : Option (Nat × Str)
  fns : Nat → Option (Str × Nat)
  cls : List String
def plainName (x : Str) : Bool := !(x == ("__debug__" : Str)) && !(x == ("__classdict__" : Str)) && !(x == ("__name__" : Str))
def isVis : Option NameKind → Bool | some .local => true | some .cell => true | some .free => true | _ => false
def isLoc : Option NameKind → Bool | some .local => true | some .cell => true | _ => false
def isGlo : Option NameKind → Bool | some .globalImplicit => true | _ => false
def Ck.vis (k : Ck) (i : Nat) (x : Str) : Bool := (match k.N[i]? with | some y => y == x | none => false) && isVis (k.sc.names.lookup x) && plainName x
def Ck.sto (k : Ck) (i : Nat) (x : Str) : Bool := (match k.N[i]? with | some y => y == x | none => false) && isLoc (k.own.lookup x) && (match k.xs with | some p => !(i == p.1) | none => true)
def Ck.glo (k : Ck) (x : Str) : Bool := isGlo (k.sc.names.lookup x) && plainName x
def biName : Bi → Str
  | .len => "len" | .abs => "abs" | .int => "int" | .str => "str" | .list => "list" | .tuple => "tuple" | .dict => "dict" | .all => "all" | .any => "any" | .sum => "sum"
  | .max2 => "max" | .min2 => "min" | .max1 => "max" | .min1 => "min" | .sorted => "sorted" | .lenset => "len" | .sortset => "sorted"
def blts : List Str := ["len", "abs", "int", "str", "list", "tuple", "dict", "all", "any", "sum", "max", "min", "sorted", "set", "range", "enumerate", "zip", "isinstance", "bool", "ValueError"]
def tyName : Ty → Str | .int => "int" | .bool => "bool" | .str => "str" | .tuple => "tuple" | .list => "list" | .dict => "dict"
def tyStr : Ty → String | .int => "int" | .bool => "bool" | .str => "str" | .tuple => "tuple" | .list => "list" | .dict => "dict"
def mtName : Mt → Str | .append => "append" | .extend => "extend" | .pop => "pop" | .get => "get" | .index => "index" | .count => "count" | .join => "join" | .split => "split"
def isStar : Expr → Bool | .Starred .. => true | _ => false
def isBase : Expr → Bool | .Call (.Name ..) [] [] _ => true | _ => false
def isSet : Expr → Bool | .Set .. => true | _ => false
def isIf : Expr → Bool | .IfExp .. => true | _ => false
def eqOp : Operator → Operator → Bool | .Add, .Add => true | .Sub, .Sub => true | .Mult, .Mult => true | .FloorDiv, .FloorDiv => true | .Mod, .Mod => true | .Pow, .Pow => true | _, _ => false
def eqCop : CmpOp → CmpOp → Bool | .Eq, .Eq => true | .NotEq, .NotEq => true | .Lt, .Lt => true | .LtE, .LtE => true | .Gt, .Gt => true | .GtE, .GtE => true | .In, .In => true | .NotIn, .NotIn => true | _, _ => false
theorem eqOp_ok {a b : Operator} (h : eqOp a b = true) : a = b := by cases a <;> cases b <;> first | rfl | cases h
theorem eqCop_ok {a b : CmpOp} (h : eqCop a b = true) : a = b := by cases a <;> cases b <;> first | rfl | cases h
mutual
def tgOwn : Tg → Expr → Option (List (Str × Nat))
  | .nm i, e => match e with | .Name x _ => some [(x, i)] | _ => none
  | .tu ts, e => match e with | .Tuple es _ _ => tgsOwn ts es | _ => none
def tgsOwn : List Tg → List Expr → Option (List (Str × Nat))
  | [], es => match es with | [] => some [] | _ :: _ => none
  | t :: ts, es => match es with
    | [] => none
    | e :: es => match tgOwn t e, tgsOwn ts es with | some a, some b => some (a ++ b) | _, _ => none
end
mutual
def chkTg (k : Ck) : Tg → Expr → Bool
  | .nm i, e => match e with | .Name x _ => k.sto i x | _ => false
  | .tu ts, e => match e with | .Tuple es _ _ => !k.hot && chkTgs k ts es | _ => false
def chkTgs (k : Ck) : List Tg → List Expr → Bool
  | [], es => match es with | [] => true | _ :: _ => false
  | t :: ts, es => match es with | [] => false | e :: es => chkTg k t e && chkTgs k ts es
end
/-- a comprehension's block -/
def Ck.blk (k : Ck) (scope : Scope) : Ck := { k with sc := relS scope k.sc, own := scope.names }
def noSlice : Expr → Bool | .Slice .. => false | _ => true
def tupTg : Ik → Tg → Bool | .enm, .tu _ => false | .zip, .tu _ => false | .seq, _ => true | .rng, _ => true | _, _ => false
/-- the parts of what is walked -/
def itArgs (k : Ck) (ik : Ik) (e : Expr) : Option (List Expr) := match ik with
  | .seq => if isSet e || isStar e then none else some [e]
  | .rng => (match e with
    | .Call (.Name x _) es [] _ => if k.glo x && x == ("range" : Str) && decide (1 ≤ es.length) && decide (es.length ≤ 3) then some es else none
    | _ => none)
  | .enm => (match e with
    | .Call (.Name x _) es [] _ => if k.glo x && x == ("enumerate" : Str) && decide (es.length = 1) then some es else none
    | _ => none)
  | .zip => (match e with
    | .Call (.Name x _) es [] _ => if k.glo x && x == ("zip" : Str) && decide (es.length = 2) then some es else none
    | _ => none)
mutual
def chkE (k : Ck) : Ex → Expr → Bool
  | .var i, e => match e with | .Name x _ => k.vis i x | _ => false
  | .int i, e => match e with | .Constant (.int j) _ _ => i == j | _ => false
  | .str s, e => match e with | .Constant (.str t) _ _ => s == t | _ => false
  | .bl b, e => match e with | .Constant (.bool d) _ _ => b == d | _ => false
  | .non, e => match e with | .Constant .none _ _ => true | _ => false
  | .glb _, _ => false
  | .tup es, e => match e with | .Tuple es' _ _ => chkEs k es es' && decide (es.length ≤ 1000) | _ => false
  | .lst _ es, e => match e with | .List es' _ => chkEs k es es' && decide (es.length ≤ 1000) | _ => false
  | .dnew _ _ kvs, e => match e with | .Dict [] [] _ => kvs.isEmpty | _ => false
  | .bin o a b, e => match e with | .BinOp a' o' b' _ => eqOp (opOf o) o' && chkE k a a' && chkE k b b' | _ => false
  | .neg a, e => match e with | .UnaryOp .USub a' _ => chkE k a a' | _ => false
  | .cmp o a b, e => match e with | .Compare a' [o'] [b'] _ => eqCop (copOf o) o' && !behindInMarks o' b' && chkE k a a' && chkE k b b' | _ => false
  | .chain o o2 a b d, e => match e with | .Compare a' [o', o2'] [b', d'] _ => eqCop (copOf o) o' && eqCop (copOf o2) o2' && !lastMarks [o', o2'] [b', d'] && chkE k a a' && chkE k b b' && chkE k d d' | _ => false
  | .isN n a, e => match e with | .Compare a' [o'] [.Constant .none _ _] _ => (match o' with | .Is => !n | .IsNot => n | _ => false) && chkE k a a' | _ => false
  | .and es, e => match e with | .BoolOp .And es' _ => chkBs k es es' && !es.isEmpty | _ => false
  | .or es, e => match e with | .BoolOp .Or es' _ => chkBs k es es' && !es.isEmpty | _ => false
  | .not a, e => match e with | .UnaryOp .Not a' _ => chkE k a a' && !isIf a' | _ => false
  | .ifx d a b, e => match e with | .IfExp d' a' b' _ => chkE k d d' && !isIf d' && chkE k a a' && chkE k b b' | _ => false
  | .sub a i, e => match e with | .Subscript a' i' _ => noSlice i' && chkE k a a' && chkE k i i' | _ => false
  | .slc a lo hi, e => match e with | .Subscript a' (.Slice lo' hi' none _) _ => chkE k a a' && chkO k lo lo' && chkO k hi hi' | _ => false
  | .rev a, e => match e with | .Subscript a' (.Slice none none (some (.UnaryOp .USub (.Constant (.int i) _ _) _)) _) _ => decide (i = 1) && chkE k a a' | _ => false
  | .fld _ _, _ => false
  | .call f es, e => match e with
    | .Call (.Name x _) es' [] _ => !k.hot && k.glo x && (match k.fns f with | some p => p.1 == x | none => false) && chkEs k es es' && !es.isEmpty
    | _ => false
  | .mk _ _, _ => false
  | .bi b _ es, e => match e with
    | .Call (.Name x _) es' [] _ => !k.hot && biSup b && k.glo x && x == biName b && chkEs k es es' && !es.isEmpty
    | _ => false
  | .mth m a es, e => match e with
    | .Call (.Attribute a' x apos) es' [] cpos => !k.hot && mtSup m && x == mtName m && (apos.endLine == cpos.line) && !isBase a' && chkE k a a' && chkEs k es es' && decide (es.length < 10) && !es.isEmpty
    | _ => false
  | .omth _ _ _ _, _ => false
  | .isi a ts, e => match e with
    | .Call (.Name x _) [a', t'] [] _ => k.glo x && x == ("isinstance" : Str) && !isStar a' && chkE k a a' && (match ts, t' with
      | [t], .Name y _ => k.glo y && y == tyName t
      | _, _ => false)
    | _ => false
  | .comp _ e1 t ik es cs, e => match e with
    | .ListComp e1' [⟨t', it', ifs', 0⟩] scope _ => !k.hot && (match itArgs k ik it' with | some as => chkEs k es as | none => false) && tupTg ik t && (match tgOwn t t' with
        | some own => blkC k.N k.sc scope own && chkTg (k.blk scope) t t'
        | none => false) && chkBs (k.blk scope) cs ifs' && decide (cs.length ≤ 1) && chkE (k.blk scope) e1 e1'
    | _ => false
  | .lam _, _ => false
  | .clo _, _ => false
  | .xfld f, e => match e with | .Attribute (.Name x _) y _ => (match k.xs with | some p => p.2 == x && k.vis p.1 x | none => false) && y == Str.ofString f | _ => false
  | .xisi, e => match e with
    | .Call (.Name z _) [.Name x _, .Name y _] [] _ => (match k.xs with | some p => p.2 == x && k.vis p.1 x | none => false) && k.glo z && z == ("isinstance" : Str) && k.glo y && y == ("ValueError" : Str)
    | _ => false
  | .fstr _, _ => false
def chkEs (k : Ck) : List Ex → List Expr → Bool
  | [], es => match es with | [] => true | _ :: _ => false
  | x :: xs, es => match es with | [] => false | e :: es => chkE k x e && !isStar e && chkEs k xs es
def chkBs (k : Ck) : List Ex → List Expr → Bool
  | [], es => match es with | [] => true | _ :: _ => false
  | x :: xs, es => match es with | [] => false | e :: es => chkE k x e && !isIf e && chkBs k xs es
def chkO (k : Ck) : Option Ex → Option Expr → Bool
  | none, e => match e with | none => true | some _ => false
  | some x, e => match e with | none => false | some e => chkE k x e
end
/-! ### statements -/
def noComp : Expr → Bool | .ListComp .. => false | .SetComp .. => false | .DictComp .. => false | _ => true
def noSwap : Expr → Expr → Bool | .Tuple .., .Tuple .. => false | .List .., .Tuple .. => false | _, _ => true
def locK (k : Ck) (x : Str) : Bool := match k.sc.names.lookup x with | some .local => true | _ => false
/-- a, b = x, y: stored from the right -/
def swp2 (k : Ck) (i j : Nat) (t v : Expr) : Bool := match t, v with
  | .Tuple [.Name x px, .Name y py] _ _, .Tuple [a, b] _ _ => k.sto i x && k.sto j y && locK k x && locK k y && !(i == j) && !(x == y) && py.line == px.line && !isStar a && !isStar b && !([a, b].all (foldedForSure 8)) && !([a, b].all (constantsAlone 8))
  | _, _ => false
def swp3 (k : Ck) (i j l : Nat) (t v : Expr) : Bool := match t, v with
  | .Tuple [.Name x px, .Name y py, .Name z pz] _ _, .Tuple [a, b, d] _ _ => k.sto i x && k.sto j y && k.sto l z && locK k x && locK k y && locK k z && !(i == j) && !(i == l) && !(j == l) && !(x == y) && !(x == z) && !(y == z) && py.line == px.line && pz.line == px.line && !isStar a && !isStar b && !isStar d && !([a, b, d].all (foldedForSure 8)) && !([a, b, d].all (constantsAlone 8))
  | _, _ => false
/-- name = [..]: the comprehension's name is none of its own -/
def lcSet (k : Ck) (t v : Expr) : Bool := match t, v with
  | .Name y py, .ListComp _ _ scope pos => locK k y && py.line == pos.line && !(scope.names.any fun (n, k) => n == y && (k == .local || k == .cell))
  | _, _ => false
mutual
def chkS (k : Ck) : St → Stmt → Bool
  | .asg t e, s => match s with
    | .Assign [tg] v _ => (match t, e with
        | .nm i, e => chkTg k (.nm i) tg && chkE k e v && noSwap tg v && (noComp v || lcSet k tg v)
        | .tu ts, e => chkTg k (.tu ts) tg && chkE k e v && noSwap tg v && noComp v)
    | _ => false
  | .asub o i e, s => match s with | .Assign [.Subscript o' i' _] v _ => noSlice i' && noComp v && chkE k o o' && chkE k i i' && chkE k e v | _ => false
  | .afld _ _ _, _ => false
  | .aug _ _ _, _ => false
  | .augs _ _ _ _, _ => false
  | .augf _ _ _ _, _ => false
  | .expr e, s => match s with | .Expr v _ => noComp v && chkE k e v | _ => false
  | .ret e, s => match s with | .Return (some v) _ => chkE k e v | _ => false
  | .retN, s => match s with | .Return none _ => true | _ => false
  | .ifs d a b, s => match s with | .If d' a' b' _ => chkE k d d' && !isIf d' && chkSs k a a' && chkSs k b b' | _ => false
  | .for t ik es b, s => match s with
    | .For tg it b' [] _ => !k.hot && (match itArgs k ik it with | some as => chkEs k es as | none => false) && tupTg ik t && chkTg k t tg && chkSs k b b'
    | _ => false
  | .whl d b, s => match s with | .While d' b' [] _ => !k.hot && chkE k d d' && !isIf d' && chkSs k b b' | _ => false
  | .brk, s => match s with | .Break _ => true | _ => false
  | .cont, s => match s with | .Continue _ => true | _ => false
  | .pass, s => match s with | .Pass _ => true | _ => false
  | .raise C es, s => match s with
    | .Raise (some (.Call (.Name x _) es' [] _)) none _ => !k.hot && k.glo x && x == Str.ofString C && chkEs k es es' && decide (es.length ≤ 900)
    | _ => false
  | .try b hs, s => match s with
    | .Try b' hs' [] [] _ => !k.hot && chkSs k b b' && !hs.isEmpty && (decide (hs.length = 1) || hs.all (·.2.1.isNone)) && chkHs k hs hs'
    | _ => false
  | .frz _, _ => false
def chkSs (k : Ck) : List St → List Stmt → Bool
  | [], es => match es with | [] => true | _ :: _ => false
  | x :: xs, es => match x with
    | .frz i => (match k.xs with | some p => !(i == p.1) | none => true) && chkSs k xs es
    | x => match es with | [] => false | e :: es => chkS k x e && chkSs k xs es
/-- clauses without names; or one, with a name -/
def chkHs (k : Ck) : List (String × Option Nat × List St) → List ExceptHandler → Bool
  | [], hs => match hs with | [] => true | _ :: _ => false
  | (C, n, b) :: r, hs => match hs with
    | .ExceptHandler (some (.Name x _)) m b' _ :: r' => k.glo x && x == Str.ofString C && k.cls.contains C && !b'.isEmpty && (match n, m with
      | none, none => chkSs { k with hot := true } b b'
      | some i, some nm => r.isEmpty && k.sto i nm && locK k nm && chkSs { k with hot := true, xs := some (i, nm) } b b'
      | _, _ => false) && chkHs k r r'
    | _ => false
end
end Dee

set_option Elab.async false
set_option linter.all false
set_option autoImplicit false
set_option maxRecDepth 100000
set_option maxHeartbeats 1000000
/-! Dee: the expressions of the small language are the model's. -/
namespace Dee
open PySem PySem.Spec PyProof.Rows L2

/-- a def called: its promise by what the small language says of it -/
def spF (c : LC) (call : List D → Mem → K → KX → Prop) : Sp := fun vs H Q E => ∃ ds M Q' E', RepL c.mg M H ds vs ∧ MRep c.mg M H ∧ call ds M Q' E' ∧ Goes c M H Q' Q ∧ Throws c E M H E'
/-- what an exception's own __init__ does: it keeps its values -/
def spI (a C : Addr) (fs : List String) (vs : List V) (H : Hp) (Q : VK) : Prop := ∃ ys, vs = .ref a :: ys ∧ ys.length = fs.length ∧ H a = some (exo a C none) ∧
  ∀ dx H', H dx = none → dx ≠ a → H' a = some (exo a C (some dx)) → H' dx = some (exd dx ((fs.map Str.ofString).zip ys).reverse) → (∀ b, b ≠ a → b ≠ dx → H' b = H b) → Q .non H'
/-- what the written part says of an exception's class -/
structure XFact (P : Program) (w : World) (K : PySem.W.Frag) (mg : Str → Option Value) (base : Heap) (C : String) (fs : List String) (a : Addr) : Prop where
  at_ : mg (Str.ofString C) = some (.ref a)
  xc : XfC K a
  no : ∀ f ∈ fs, PySem.W.findIn K (.ref a) (Str.ofString f) = some none
  ve : PySem.W.subIn K (.ref a) (.type "ValueError") = some true
  ty : PySem.W.typeIn K (.ref a) = some (.type "type")
  keep : PySem.W.keepIn K (.ref a) = true
  made : (fs = [] ∧ ∃ bmB, PySem.W.excIn K a bmB "ValueError.__new__" = true ∧ ExcBaseFacts "ValueError" "ValueError.__new__" "ValueError.__init__" bmB) ∨
    (fs ≠ [] ∧ (fs.map Str.ofString).Nodup ∧ OexC K a ∧ ∃ fI fd ps, PySem.W.findIn K (.ref a) "__init__" = some (some (.ref fI)) ∧ PySem.W.typeIn K (.ref fI) = some (.type "function") ∧ Binds K fd ps [] ∧ FnOk P w K mg base (L2.CX P w) 1 fI fd ps (fun vs H Q _ => ∃ e, spI e a fs vs H Q))
structure Okc (X : Cx) (k : Ck) (F : Sem) (c : LC) (W : WX) : Prop where
  N : X.N = k.N
  nd : X.N.Nodup
  sc : X.env.scope = k.sc
  own : ∀ x, isLoc (k.own.lookup x) = true → Loc X.env.scope x ∧ (X.fn x = true ∨ X.env.scope.names.lookup x = some .local)
  calm : k.hot = false → X.calm = true
  un : X.A.units + 64 < cLine
  mg : c.mg.mg = X.mg
  blt : ∀ x ∈ blts, X.mg x = none
  tk : Takes X W
  xs : ∀ j a cls d ε, c.xi = some (j, a, cls, d, ε) → ∃ nm, k.xs = some (j, nm)
  hot0 : k.hot = false → c.xi = none
  fns : k.hot = false → ∀ f p, k.fns f = some p → ∃ ad fd ps j, X.mg p.1 = some (.ref ad) ∧ PySem.W.keepIn X.K (.ref ad) = true ∧ Binds X.K fd ps [] ∧ Room j X.A ∧ ∀ g : Gm, g.mg = X.mg → FnOk X.prog X.w X.K X.mg X.base (L2.CX X.prog X.w) j ad fd ps (spF ⟨g, none⟩ (F.call f))
  cur : ∀ ε, F.cur = some ε → ∃ i a cls d, c.xi = some (i, a, cls, d, ε)
  sui : ∀ i a cls d ε, c.xi = some (i, a, cls, d, ε) → ∃ X0 pn oe, X = L2.Cx.suite X0 a ((a, oe) :: pn) ∧ Zc cls d oe ∧ ∃ vs, oe.data = .fields vs
  xf : ∀ C fs, F.xf C = some fs → ∃ a, XFact X.prog X.w X.K X.mg X.base C fs a
  sub : ∀ C1 fs, F.xf C1 = some fs → ∀ C2 ∈ k.cls, ∃ a1 a2, X.mg (Str.ofString C1) = some (.ref a1) ∧ X.mg (Str.ofString C2) = some (.ref a2) ∧ PySem.W.exmOne X.K (.ref a1) (.ref a2) = some (F.sub C1 C2)
  room : k.hot = false → Room 3 X.A
  cat : ∀ C ∈ k.cls, ∃ a, X.mg (Str.ofString C) = some (.ref a)

section
variable {X : Cx} {k : Ck} {F : Sem} {c : LC} {W : WX}
theorem isVis_ok {sc : Scope} {x : Str} (h : isVis (sc.names.lookup x) = true) : Vis sc x := by
  unfold isVis at h
  split at h
  · rename_i e; exact .inl e
  · rename_i e; exact .inr (.inl e)
  · rename_i e; exact .inr (.inr e)
  · cases h
theorem slot_ok {N : List Str} {i : Nat} {x : Str} (h : (match N[i]? with | some y => y == x | none => false) = true) : N[i]? = some x := by
  split at h
  · rename_i y e
    rw [e, beq_iff_eq.mp h]
  · cases h
theorem Okc.vis (O : Okc X k F c W) {i : Nat} {x : Str} (h : k.vis i x = true) : X.N[i]? = some x ∧ Vis X.env.scope x ∧ (x == ("__debug__" : Str)) = false ∧ (x == ("__classdict__" : Str)) = false := by
  unfold Ck.vis plainName at h
  simp only [Bool.and_eq_true, Bool.not_eq_true'] at h
  obtain ⟨⟨h1, h2⟩, ⟨h3, h4⟩, h5⟩ := h
  exact ⟨by rw [O.N]; exact slot_ok h1, by rw [O.sc]; exact isVis_ok h2, h3, h4⟩
theorem Okc.glo (O : Okc X k F c W) {x : Str} (h : k.glo x = true) : Gl X x ∧ (x == ("__debug__" : Str)) = false ∧ x ≠ "__name__" := by
  unfold Ck.glo plainName at h
  simp only [Bool.and_eq_true, Bool.not_eq_true'] at h
  obtain ⟨h2, ⟨h3, h4⟩, h5⟩ := h
  refine ⟨?_, h3, fun e => by rw [e] at h5; simp at h5⟩
  show X.env.scope.names.lookup x = some .globalImplicit
  rw [O.sc]
  unfold isGlo at h2
  split at h2
  · rename_i e; exact e
  · cases h2
theorem Okc.sto (O : Okc X k F c W) {i : Nat} {x : Str} (h : k.sto i x = true) : X.N[i]? = some x ∧ Loc X.env.scope x ∧ (X.fn x = true ∨ X.env.scope.names.lookup x = some .local) ∧ ∀ j a cls d ε, c.xi = some (j, a, cls, d, ε) → i ≠ j := by
  unfold Ck.sto at h
  simp only [Bool.and_eq_true] at h
  obtain ⟨⟨h1, h2⟩, h3⟩ := h
  obtain ⟨l, f⟩ := O.own x h2
  refine ⟨by rw [O.N]; exact slot_ok h1, l, f, fun j a cls d ε e z => ?_⟩
  obtain ⟨nm, e2⟩ := O.xs j a cls d ε e
  rw [e2] at h3
  simp [z] at h3

/-! ### one by one -/
theorem se_var (O : Okc X k F c W) {i : Nat} {x : Str} {pos : Pos} (h : k.vis i x = true) : PE X (.Name x pos) (tE c W F (.var i)) := by
  obtain ⟨h1, h2, h3, h4⟩ := O.vis h
  refine PE.imp (pe_var h1 h2 h3 h4) fun σ H Q ⟨ρ, M, Q', E', R, w, g, t⟩ => ?_
  obtain ⟨d, e, q⟩ := ob_some w
  obtain ⟨v, ev, r⟩ := R.env i d e
  exact ⟨v, ev, g.now R.mem q r⟩
theorem se_int {i : Int} {j pos} : PE X (.Constant (.int i) j pos) (tE c W F (.int i)) := PE.imp pe_int fun σ H Q ⟨ρ, M, Q', E', R, w, g, t⟩ => g.now R.mem w rfl
theorem se_str {i : Str} {j pos} : PE X (.Constant (.str i) j pos) (tE c W F (.str i)) := PE.imp pe_str fun σ H Q ⟨ρ, M, Q', E', R, w, g, t⟩ => g.now R.mem w rfl
theorem se_bl {i : Bool} {j pos} : PE X (.Constant (.bool i) j pos) (tE c W F (.bl i)) := PE.imp pe_bl fun σ H Q ⟨ρ, M, Q', E', R, w, g, t⟩ => g.now R.mem w rfl
theorem se_non {j pos} : PE X (.Constant .none j pos) (tE c W F .non) := PE.imp pe_non fun σ H Q ⟨ρ, M, Q', E', R, w, g, t⟩ => g.now R.mem w rfl
theorem sa_nil : PA X [] (tA c W F []) := PA.imp pa_nil fun σ H Q ⟨ρ, M, Q', E', R, w, g, t⟩ => g [] M [] H rfl w (Mono.refl _ _) R.mem rfl
theorem sa_cons {e : Expr} {es : List Expr} {x : Ex} {xs : List Ex} (ha : PE X e (tE c W F x)) (hr : PA X es (tA c W F xs)) (hs : starEach (e :: es) X.env = (false, eval e X.env) :: starEach es X.env) : PA X (e :: es) (tA c W F (x :: xs)) := by
  refine PA.imp (pa_cons ha hr hs) fun σ H Q ⟨ρ, M, Q', E', R, w, g, t⟩ => ?_
  exact tE_bind R w t fun d1 M1 v1 H1 w1 m1 R1 r1 => tA_bind R1 w1 (t.mono m1) fun d2 M2 v2 H2 z2 w2 m2 R2 r2 =>
    g (d1 :: d2) M2 (v1 :: v2) H2 (by simp [z2]) w2 (m1.trans m2) R2.mem ⟨v1, v2, rfl, r1.mono m2, r2⟩
theorem se_tup {es : List Ex} {es' : List Expr} {j pos} (ha : PA X es' (tA c W F es)) (hl : es.length ≤ 1000) : PE X (.Tuple es' j pos) (tE c W F (.tup es)) := by
  refine PE.imp (pe_tup ha) fun σ H Q ⟨ρ, M, Q', E', R, w, g, t⟩ => ?_
  refine tA_bind R w t fun ds M1 vs H1 hz q m1 R1 r => ⟨by rw [← r.length, hz, sizeLine_eq]; omega, fun p hp => (g.mono m1).tup R1.mem q r hp⟩
theorem se_lst {m : Bool} {es : List Ex} {es' : List Expr} {pos} (ha : PA X es' (tA c W F es)) (hl : es.length ≤ 1000) : PE X (.List es' pos) (tE c W F (.lst m es)) := by
  refine PE.imp (pe_lst ha) fun σ H Q ⟨ρ, M, Q', E', R, w, g, t⟩ => ?_
  refine tA_bind R w t fun ds M1 vs H1 hz q m1 R1 r => ⟨by rw [← r.length, hz, sizeLine_eq]; omega, fun p hp => (g.mono m1).newL R1.mem q r hp⟩
theorem se_dnew {m t : Bool} {pos} : PE X (.Dict [] [] pos) (tE c W F (.dnew m t [])) := by
  cases t with
  | false => exact PE.imp pe_dnewK fun σ H Q ⟨ρ, M, Q', E', R, ⟨_, w⟩, g, t⟩ p hp => g.newK R.mem w rfl hp
  | true => exact PE.imp pe_dnewT fun σ H Q ⟨ρ, M, Q', E', R, ⟨_, w⟩, g, t⟩ p hp => g.newT R.mem w rfl hp
theorem se_bin {o : Bop} {a b : Expr} {x y : Ex} {pos} (ha : PE X a (tE c W F x)) (hb : PE X b (tE c W F y)) : PE X (.BinOp a (opOf o) b pos) (tE c W F (.bin o x y)) := by
  refine PE.imp (pe_op (op_bin (c := c) o) ha hb) fun σ H Q ⟨ρ, M, Q', E', R, w, g, t⟩ => ?_
  exact tE_bind R w t fun d1 M1 v1 H1 w1 m1 R1 r1 => tE_bind R1 w1 (t.mono m1) fun d2 M2 v2 H2 w2 m2 R2 r2 => ⟨d1, d2, M2, Q', R2.mem, r1.mono m2, r2, w2, g.mono (m1.trans m2)⟩
theorem se_neg {a : Expr} {x : Ex} {pos} (ha : PE X a (tE c W F x)) : PE X (.UnaryOp .USub a pos) (tE c W F (.neg x)) := by
  refine PE.imp (pe_un un_neg ha) fun σ H Q ⟨ρ, M, Q', E', R, w, g, t⟩ => ?_
  refine tE_bind R w t fun d1 M1 v1 H1 w1 m1 R1 r1 => ?_
  obtain ⟨i, e, q⟩ := onI_int w1
  subst e
  exact ⟨i, r1, (g.mono m1).now R1.mem q rfl⟩
theorem cmp_read {o : Cop} {x y : Ex} {ta tb : TE} {σ : L2.St} {H : Hp} {Q : VK} (h : tE c W F (.cmp o x y) σ H Q) : tOp (rCmp c o) (tE c W F x) (tE c W F y) σ H Q := by
  obtain ⟨ρ, M, Q', E', R, w, g, t⟩ := h
  exact tE_bind R w t fun d1 M1 v1 H1 w1 m1 R1 r1 => tE_bind R1 w1 (t.mono m1) fun d2 M2 v2 H2 w2 m2 R2 r2 => ⟨d1, d2, M2, Q', R2.mem, r1.mono m2, r2, w2, g.mono (m1.trans m2)⟩
theorem se_cmp (O : Okc X k F c W) {o : Cop} {a b : Expr} {x y : Ex} {pos} (ha : PE X a (tE c W F x)) (hb : PE X b (tE c W F y)) (hm : behindInMarks (copOf o) b = false) : PE X (.Compare a [copOf o] [b] pos) (tE c W F (.cmp o x y)) :=
  PE.imp (pe_cmpR (op_cmp (c := c) o O.un) ha hb hm) fun σ H Q h => cmp_read (ta := tE c W F x) (tb := tE c W F y) h
theorem st_cmp (O : Okc X k F c W) {o : Cop} {a b : Expr} {x y : Ex} {pos} (ha : PE X a (tE c W F x)) (hb : PE X b (tE c W F y)) (hm : behindInMarks (copOf o) b = false) : PT X (.Compare a [copOf o] [b] pos) (tT c W F (.cmp o x y)) :=
  PT.imp (pt_cmpR (op_cmp (c := c) o O.un) ha hb hm) fun σ H Q h => cmp_read (ta := tE c W F x) (tb := tE c W F y) h
theorem ob_mono {α : Type} {o : Option α} {f g : α → Prop} (h : ∀ a, f a → g a) (w : ob o f) : ob o g := by
  cases o with
  | none => exact w
  | some a => exact h a w
theorem onI_mono {o : D} {f g : Int → Prop} (h : ∀ a, f a → g a) (w : onI o f) : onI o g := by
  cases o <;> first | exact h _ w | exact w
theorem onC_mono {o : D} {f g : Nat → Prop} (h : ∀ a, f a → g a) (w : onC o f) : onC o g := by
  cases o with
  | str t =>
    unfold onC at w ⊢
    dsimp only at w ⊢
    cases e : t.cps.toList with
    | nil => rw [e] at w; exact w
    | cons c r => cases r with
      | nil => rw [e] at w; exact h _ w
      | cons _ _ => rw [e] at w; exact w
  | _ => exact w
theorem inop_mono {a b : D} {M : Mem} {P P' : Bool → Prop} (h : ∀ r, P r → P' r) (w : inop a b M P) : inop a b M P' := by
  have gen : ∀ b : D, (match dctM M b with | some p => isKey p.1 a = true ∧ P (look p.2 a).isSome | none => ob (seqM M b) fun xs => (a.dep ≤ 60 ∧ depL xs ≤ 60) ∧ P (xs.any fun x => peq x a)) →
      (match dctM M b with | some p => isKey p.1 a = true ∧ P' (look p.2 a).isSome | none => ob (seqM M b) fun xs => (a.dep ≤ 60 ∧ depL xs ≤ 60) ∧ P' (xs.any fun x => peq x a)) := fun b w => by
    cases e : dctM M b with
    | some p => rw [e] at w; exact ⟨w.1, h _ w.2⟩
    | none => rw [e] at w; exact ob_mono (fun _ z => ⟨z.1, h _ z.2⟩) w
  cases b with
  | str s => exact onC_mono (fun _ => h _) w
  | non => unfold inop at w ⊢; exact gen .non w
  | bl z => unfold inop at w ⊢; exact gen (.bl z) w
  | int z => unfold inop at w ⊢; exact gen (.int z) w
  | tup z => unfold inop at w ⊢; exact gen (.tup z) w
  | lst z => unfold inop at w ⊢; exact gen (.lst z) w
  | dct z y => unfold inop at w ⊢; exact gen (.dct z y) w
  | obj z y => unfold inop at w ⊢; exact gen (.obj z y) w
  | ref z => unfold inop at w ⊢; exact gen (.ref z) w
  | clo z y => unfold inop at w ⊢; exact gen (.clo z y) w
theorem cmpop_mono {o : Cop} {a b : D} {M : Mem} {P P' : Bool → Prop} (h : ∀ r, P r → P' r) (w : cmpop o a b M P) : cmpop o a b M P' := by
  cases o with
  | eq => exact ⟨w.1, h _ w.2⟩
  | ne => exact ⟨w.1, h _ w.2⟩
  | lt => exact ⟨w.1, ob_mono h w.2⟩
  | le => exact onI_mono (fun _ => onI_mono fun _ => h _) w
  | gt => exact onI_mono (fun _ => onI_mono fun _ => h _) w
  | ge => exact onI_mono (fun _ => onI_mono fun _ => h _) w
  | isin => exact inop_mono h w
  | notin => exact inop_mono (fun _ => h _) w
theorem chain_read {o o2 : Cop} {x y z : Ex} {σ : L2.St} {H : Hp} {Q : VK} (h : tE c W F (.chain o o2 x y z) σ H Q) : tChain (rCmp c o) (rCmp c o2) (tE c W F x) (tE c W F y) (tE c W F z) σ H Q := by
  obtain ⟨ρ, M, Q', E', R, w, g, t⟩ := h
  refine tE_bind R w t fun d1 M1 v1 H1 w1 m1 R1 r1 => tE_bind R1 w1 (t.mono m1) fun d2 M2 v2 H2 w2 m2 R2 r2 => ?_
  refine ⟨d1, d2, M2, fun d M3 => ∃ b, d = .bl b ∧ M3 = M2 ∧ if b = true then wE F z ρ M2 (fun z M3 => cmpop o2 d2 z M3 fun r => Q' (.bl r) M3) E' else Q' (.bl false) M2, R2.mem, r1.mono m2, r2, ?_, ?_⟩
  · have w2' : cmpop o d1 d2 M2 (fun r => if r = true then wE F z ρ M2 (fun z M3 => cmpop o2 d2 z M3 fun r => Q' (.bl r) M3) E' else Q' (.bl false) M2) := w2
    have mono : ∀ {P P' : Bool → Prop}, (∀ r, P r → P' r) → cmpop o d1 d2 M2 P → cmpop o d1 d2 M2 P' := fun f h => cmpop_mono f h
    exact mono (fun r q => ⟨r, rfl, rfl, q⟩) w2'
  · rintro d M3 v3 H3 ⟨b, rfl, rfl, q⟩ m3 mr r3
    refine ⟨b, r3, ?_⟩
    have m13 := (m1.trans m2).trans m3
    cases b with
    | true =>
      rw [if_pos rfl] at q ⊢
      exact tE_bind (R2.mono m3 mr) q (t.mono m13) fun d4 M4 v4 H4 w4 m4 R4 r4 => ⟨d2, d4, M4, Q', R4.mem, (r2.mono m3).mono m4, r4, w4, g.mono (m13.trans m4)⟩
    | false =>
      rw [if_neg Bool.false_ne_true] at q ⊢
      exact (g.mono m13).now mr q rfl
theorem tB_T {e : Ex} : tB (tE c W F e) = tT c W F e := rfl
theorem se_chain (O : Okc X k F c W) {o o2 : Cop} {a b d : Expr} {x y z : Ex} {pos} (ha : PE X a (tE c W F x)) (hb : PE X b (tE c W F y)) (hd : PE X d (tE c W F z)) (hm : lastMarks [copOf o, copOf o2] [b, d] = false) : PE X (.Compare a [copOf o, copOf o2] [b, d] pos) (tE c W F (.chain o o2 x y z)) :=
  PE.imp (pe_chain (op_cmp (c := c) o O.un) (op_cmp (c := c) o2 O.un) ha hb hd hm) fun _ _ _ h => chain_read h
theorem st_chain (O : Okc X k F c W) {o o2 : Cop} {a b d : Expr} {x y z : Ex} {pos} (ha : PE X a (tE c W F x)) (hb : PE X b (tE c W F y)) (hd : PE X d (tE c W F z)) (hm : lastMarks [copOf o, copOf o2] [b, d] = false) : PT X (.Compare a [copOf o, copOf o2] [b, d] pos) (tT c W F (.chain o o2 x y z)) :=
  PT.imp (pt_chain (op_cmp (c := c) o O.un) (op_cmp (c := c) o2 O.un) ha hb hd hm) fun _ _ _ h => chain_read h
theorem Rep.non_iff {mg : Gm} {M : Mem} {H : Hp} {d : D} {v : V} (r : Rep mg M H d v) : (v = .non) ↔ (d = .non) := by
  cases d with
  | non => exact ⟨fun _ => rfl, fun _ => r⟩
  | bl _ => cases (show v = _ from r); exact ⟨fun e => (nomatch e), fun e => (nomatch e)⟩
  | int _ => cases (show v = _ from r); exact ⟨fun e => (nomatch e), fun e => (nomatch e)⟩
  | str _ => cases (show v = _ from r); exact ⟨fun e => (nomatch e), fun e => (nomatch e)⟩
  | ref _ => cases (show v = _ from r); exact ⟨fun e => (nomatch e), fun e => (nomatch e)⟩
  | tup _ => obtain ⟨a, _, e, _⟩ := r; subst e; exact ⟨fun e => (nomatch e), fun e => (nomatch e)⟩
  | lst _ => obtain ⟨a, _, e, _⟩ := r; subst e; exact ⟨fun e => (nomatch e), fun e => (nomatch e)⟩
  | dct _ _ => obtain ⟨a, e, _⟩ := r; subst e; exact ⟨fun e => (nomatch e), fun e => (nomatch e)⟩
  | obj _ _ => obtain ⟨a, _, _, _, e, _⟩ := r; subst e; exact ⟨fun e => (nomatch e), fun e => (nomatch e)⟩
  | clo _ _ => obtain ⟨a, e⟩ := r; subst e; exact ⟨fun e => (nomatch e), fun e => (nomatch e)⟩
theorem isN_read {a : Ex} {n : Bool} {σ : L2.St} {H : Hp} {Q : VK} (h : tE c W F (.isN n a) σ H Q) : tE c W F a σ H fun v H1 => Q (.bl (if v = .non then !n else n)) H1 := by
  obtain ⟨ρ, M, Q', E', R, w, g, t⟩ := h
  refine tE_bind R w t fun d1 M1 v1 H1 w1 m1 R1 r1 => (g.mono m1).now R1.mem w1 ?_
  by_cases e : d1 = .non
  · rw [if_pos e, if_pos (r1.non_iff.mpr e)]; rfl
  · rw [if_neg e, if_neg (fun z => e (r1.non_iff.mp z))]; rfl
theorem sc_isN {a : Expr} {x : Ex} {j pos'} (ha : PE X a (tE c W F x)) : PC X .Is a (.Constant .none j pos') (tE c W F (.isN false x)) := by
  refine ⟨fun pins s σ H Q I h => (pc_isN ha).run pins s σ H Q I ?_⟩
  have h := isN_read h
  have e : (fun (v : V) (H1 : Hp) => Q (.bl (if v = .non then !false else false)) H1) = fun v H1 => Q (.bl (decide (v = .non))) H1 := by
    funext v H1; by_cases e : v = .non <;> simp [e]
  rw [e] at h
  exact h
theorem sc_notN {a : Expr} {x : Ex} {j pos'} (ha : PE X a (tE c W F x)) : PC X .IsNot a (.Constant .none j pos') (tE c W F (.isN true x)) := by
  refine ⟨fun pins s σ H Q I h => (pc_notN ha).run pins s σ H Q I ?_⟩
  have h := isN_read h
  have e : (fun (v : V) (H1 : Hp) => Q (.bl (if v = .non then !true else true)) H1) = fun v H1 => Q (.bl (!decide (v = .non))) H1 := by
    funext v H1; by_cases e : v = .non <;> simp [e]
  rw [e] at h
  exact h
/-- each as a value and as a test -/
def Bs (X : Cx) (c : LC) (W : WX) (F : Sem) : List Ex → List Expr → Prop
  | [], es => es = []
  | x :: xs, es => ∃ e r, es = e :: r ∧ PE X e (tE c W F x) ∧ PT X e (tT c W F x) ∧ Bs X c W F xs r
theorem se_and {pos} : ∀ {xs : List Ex} {es : List Expr}, Bs X c W F xs es → xs ≠ [] → PE X (.BoolOp .And es pos) (tE c W F (.and xs))
  | [], _, _, n => absurd rfl n
  | [x], _, ⟨e, r, q, h1, h2, h3⟩, _ => by
    cases (show r = [] from h3)
    subst q
    refine PE.imp (pe_one h1) fun σ H Q ⟨ρ, M, Q', E', R, w, g, t⟩ => ?_
    have w : wE F x ρ M (asB fun b M1 => Q' (.bl b) M1) E' := w
    exact tE_bind R w t fun d1 M1 v1 H1 w1 m1 R1 r1 => by
      obtain ⟨b, e, q⟩ := asB_bl w1
      subst e
      exact (g.mono m1).now R1.mem q r1
  | x :: y :: xs, _, ⟨e, r, q, h1, h2, h3⟩, _ => by
    have h4 := h3
    obtain ⟨e2, r2, q2, _⟩ := h4
    subst q q2
    have ih := se_and (pos := pos) h3 (fun z => nomatch z)
    refine PE.imp (pe_and h1 ih) fun σ H Q ⟨ρ, M, Q', E', R, w, g, t⟩ => ?_
    have w : wE F x ρ M (asB fun b M1 => if b = true then wAnd F (y :: xs) ρ M1 Q' E' else Q' (.bl false) M1) E' := w
    exact tE_bind R w t fun d1 M1 v1 H1 w1 m1 R1 r1 => by
      obtain ⟨b, e, q⟩ := asB_bl w1
      subst e
      refine ⟨b, r1, ?_⟩
      cases b with
      | true => exact ⟨ρ, M1, Q', E', R1, q, g.mono m1, t.mono m1⟩
      | false => exact (g.mono m1).now R1.mem q rfl
theorem sw_and {pos} : ∀ {xs : List Ex} {es : List Expr}, Bs X c W F xs es → xs ≠ [] → PW X (.BoolOp .And es pos) (tT c W F (.and xs))
  | [], _, _, n => absurd rfl n
  | [x], _, ⟨e, r, q, h1, h2, h3⟩, _ => by
    cases (show r = [] from h3)
    subst q
    refine ⟨fun wh pins s σ H Q I h => (pw_and1 h2).run wh pins s σ H Q I ?_⟩
    obtain ⟨ρ, M, Q', E', R, w, g, t⟩ := h
    have w : wE F x ρ M (asB fun b M1 => Q' (.bl b) M1) E' := w
    exact tE_bind R w t fun d1 M1 v1 H1 w1 m1 R1 r1 => by
      obtain ⟨b, e, q⟩ := asB_bl w1
      subst e
      exact (g.mono m1).now R1.mem q r1
  | x :: y :: xs, _, ⟨e, r, q, h1, h2, h3⟩, _ => by
    have h4 := h3
    obtain ⟨e2, r2, q2, _⟩ := h4
    subst q q2
    have ih := sw_and (pos := pos) h3 (fun z => nomatch z)
    refine ⟨fun wh pins s σ H Q I h => (pw_and h2 ih).run wh pins s σ H Q I ?_⟩
    obtain ⟨ρ, M, Q', E', R, w, g, t⟩ := h
    have w : wE F x ρ M (asB fun b M1 => if b = true then wAnd F (y :: xs) ρ M1 Q' E' else Q' (.bl false) M1) E' := w
    exact tT_bind R w t fun b M1 H1 q m1 R1 => by
      cases b with
      | true => exact ⟨ρ, M1, Q', E', R1, q, g.mono m1, t.mono m1⟩
      | false =>
        obtain ⟨b, e, q⟩ := (g.mono m1).now R1.mem q rfl
        cases e
        exact q
theorem se_or {pos} : ∀ {xs : List Ex} {es : List Expr}, Bs X c W F xs es → xs ≠ [] → PE X (.BoolOp .Or es pos) (tE c W F (.or xs))
  | [], _, _, n => absurd rfl n
  | [x], _, ⟨e, r, q, h1, h2, h3⟩, _ => by
    cases (show r = [] from h3)
    subst q
    refine PE.imp (pe_one h1) fun σ H Q ⟨ρ, M, Q', E', R, w, g, t⟩ => ?_
    have w : wE F x ρ M (asB fun b M1 => Q' (.bl b) M1) E' := w
    exact tE_bind R w t fun d1 M1 v1 H1 w1 m1 R1 r1 => by
      obtain ⟨b, e, q⟩ := asB_bl w1
      subst e
      exact (g.mono m1).now R1.mem q r1
  | x :: y :: xs, _, ⟨e, r, q, h1, h2, h3⟩, _ => by
    have h4 := h3
    obtain ⟨e2, r2, q2, _⟩ := h4
    subst q q2
    have ih := se_or (pos := pos) h3 (fun z => nomatch z)
    refine PE.imp (pe_or h1 ih) fun σ H Q ⟨ρ, M, Q', E', R, w, g, t⟩ => ?_
    have w : wE F x ρ M (asB fun b M1 => if b = true then Q' (.bl true) M1 else wOr F (y :: xs) ρ M1 Q' E') E' := w
    exact tE_bind R w t fun d1 M1 v1 H1 w1 m1 R1 r1 => by
      obtain ⟨b, e, q⟩ := asB_bl w1
      subst e
      refine ⟨b, r1, ?_⟩
      cases b with
      | false => exact ⟨ρ, M1, Q', E', R1, q, g.mono m1, t.mono m1⟩
      | true => exact (g.mono m1).now R1.mem q rfl
theorem sw_or {pos} : ∀ {xs : List Ex} {es : List Expr}, Bs X c W F xs es → xs ≠ [] → PW X (.BoolOp .Or es pos) (tT c W F (.or xs))
  | [], _, _, n => absurd rfl n
  | [x], _, ⟨e, r, q, h1, h2, h3⟩, _ => by
    cases (show r = [] from h3)
    subst q
    refine ⟨fun wh pins s σ H Q I h => (pw_or1 h2).run wh pins s σ H Q I ?_⟩
    obtain ⟨ρ, M, Q', E', R, w, g, t⟩ := h
    have w : wE F x ρ M (asB fun b M1 => Q' (.bl b) M1) E' := w
    exact tE_bind R w t fun d1 M1 v1 H1 w1 m1 R1 r1 => by
      obtain ⟨b, e, q⟩ := asB_bl w1
      subst e
      exact (g.mono m1).now R1.mem q r1
  | x :: y :: xs, _, ⟨e, r, q, h1, h2, h3⟩, _ => by
    have h4 := h3
    obtain ⟨e2, r2, q2, _⟩ := h4
    subst q q2
    have ih := sw_or (pos := pos) h3 (fun z => nomatch z)
    refine ⟨fun wh pins s σ H Q I h => (pw_or h2 ih).run wh pins s σ H Q I ?_⟩
    obtain ⟨ρ, M, Q', E', R, w, g, t⟩ := h
    have w : wE F x ρ M (asB fun b M1 => if b = true then Q' (.bl true) M1 else wOr F (y :: xs) ρ M1 Q' E') E' := w
    exact tT_bind R w t fun b M1 H1 q m1 R1 => by
      cases b with
      | false => exact ⟨ρ, M1, Q', E', R1, q, g.mono m1, t.mono m1⟩
      | true =>
        obtain ⟨b, e, q⟩ := (g.mono m1).now R1.mem q rfl
        cases e
        exact q
theorem se_not {a : Expr} {x : Ex} {pos} (h : PE X a (tE c W F x)) : PE X (.UnaryOp .Not a pos) (tE c W F (.not x)) := by
  refine PE.imp (pe_not h) fun σ H Q ⟨ρ, M, Q', E', R, w, g, t⟩ => ?_
  have w : wE F x ρ M (asB fun b M1 => Q' (.bl (!b)) M1) E' := w
  exact tE_bind R w t fun d1 M1 v1 H1 w1 m1 R1 r1 => by
    obtain ⟨b, e, q⟩ := asB_bl w1
    subst e
    exact ⟨b, r1, (g.mono m1).now R1.mem q rfl⟩
theorem st_not {a : Expr} {x : Ex} {pos} (h : PT X a (tT c W F x)) : PT X (.UnaryOp .Not a pos) (tT c W F (.not x)) := by
  refine PT.imp (pt_not h) fun σ H Q ⟨ρ, M, Q', E', R, w, g, t⟩ => ?_
  have w : wE F x ρ M (asB fun b M1 => Q' (.bl (!b)) M1) E' := w
  exact tT_bind R w t fun b M1 H1 q m1 R1 => by
    obtain ⟨b, e, q⟩ := (g.mono m1).now R1.mem q rfl
    cases e
    exact q
theorem se_ifx {d a b : Expr} {x y z : Ex} {pos} (hd : PT X d (tT c W F x)) (ha : PE X a (tE c W F y)) (hb : PE X b (tE c W F z)) : PE X (.IfExp d a b pos) (tE c W F (.ifx x y z)) := by
  refine PE.imp (pe_ifExp hd ha hb) fun σ H Q ⟨ρ, M, Q', E', R, w, g, t⟩ => ?_
  have w : wE F x ρ M (asB fun r M1 => if r = true then wE F y ρ M1 Q' E' else wE F z ρ M1 Q' E') E' := w
  exact tT_bind R w t fun b M1 H1 q m1 R1 => by
    cases b with
    | true => exact ⟨ρ, M1, Q', E', R1, q, g.mono m1, t.mono m1⟩
    | false => exact ⟨ρ, M1, Q', E', R1, q, g.mono m1, t.mono m1⟩
theorem plainIx_ok {b : Expr} (h : noSlice b = true) : PlainIx b := by
  intro o i
  cases b <;> first | rfl | cases h
theorem se_sub (O : Okc X k F c W) {a b : Expr} {x y : Ex} {pos} (hs : noSlice b = true) (ha : PE X a (tE c W F x)) (hb : PE X b (tE c W F y)) : PE X (.Subscript a b pos) (tE c W F (.sub x y)) := by
  refine PE.imp (pe_ix (ix_all (c := c) O.un) ha hb (plainIx_ok hs)) fun σ H Q ⟨ρ, M, Q', E', R, w, g, t⟩ => ?_
  exact tE_bind R w t fun d1 M1 v1 H1 w1 m1 R1 r1 => tE_bind R1 w1 (t.mono m1) fun d2 M2 v2 H2 w2 m2 R2 r2 => ⟨d1, d2, M2, Q', R2.mem, r1.mono m2, r2, w2, g.mono (m1.trans m2)⟩
end
end Dee

set_option Elab.async false
set_option linter.all false
set_option autoImplicit false
set_option maxRecDepth 100000
set_option maxHeartbeats 1000000
/-! Dee: calls, targets, walks. -/
namespace Dee
open PySem PySem.Spec PyProof.Rows L2
section
variable {X : Cx} {k : Ck} {F : Sem} {c : LC} {W : WX}
theorem star_cons {e : Expr} {es : List Expr} {env : PySem.Env} (h : isStar e = false) : starEach (e :: es) env = (false, eval e env) :: starEach es env := by
  cases e <;> first | rfl | cases h
def noStars (es : List Expr) : Bool := es.all fun e => !isStar e
theorem star_all {env : PySem.Env} : ∀ {es : List Expr}, noStars es = true → ∀ p ∈ starEach es env, p.1 = false
  | [], _ => fun p hp => by cases hp
  | e :: es, h => by
    unfold noStars at h
    simp only [List.all_cons, Bool.and_eq_true, Bool.not_eq_true'] at h
    rw [star_cons h.1]
    intro p hp
    rcases List.mem_cons.mp hp with rfl | hp
    · rfl
    · exact star_all (es := es) h.2 p hp
theorem star_back {env : PySem.Env} {pos : Pos} {es : List Expr} (h : noStars es = true) : (backTo pos (starEach es env)).any (·.1) = false := by
  rw [List.any_eq_false]
  intro p hp
  unfold backTo at hp
  obtain ⟨q, hq, rfl⟩ := List.mem_map.mp hp
  simp [star_all h q hq]
theorem star_len {env : PySem.Env} : ∀ {es : List Expr}, (starEach es env).length = es.length
  | [] => rfl
  | e :: es => by cases e <;> simp [starEach, star_len]
theorem base_ok {o : Expr} {nm : Str} {env : PySem.Env} {w : PySem.Sem Value} (h : isBase o = false) : attributeBase o nm env w = w := by
  cases o with
  | Call f as ks p =>
    cases f with
    | Name x q =>
      cases as with
      | nil => cases ks with
        | nil => cases h
        | cons _ _ => rfl
      | cons _ _ => rfl
    | _ => rfl
  | _ => rfl

/-! ### o[lo:hi] -/
/-- a part of a slice -/
def tO (c : LC) (W : WX) (F : Sem) (o : Option Ex) : TO := fun σ H Q => ∃ ρ M Q' E', Rp c ρ M σ H ∧ wO F o ρ M Q' E' ∧
  (∀ d M' H', Q' d M' → Mono M H M' H' → MRep c.mg M' H' → Q d H') ∧ Throws c (fun cls d H' => W cls d σ H') M H E'
theorem so_none : PO X none (tO c W F none) := by
  refine ⟨fun pins s σ H Q I ⟨ρ, M, Q', E', R, w, g, t⟩ => po_none.run pins s σ H Q I ?_⟩
  exact g none M H w (Mono.refl _ _) R.mem
theorem so_some {e : Expr} {x : Ex} (h : PE X e (tE c W F x)) : PO X (some e) (tO c W F (some x)) := by
  refine ⟨fun pins s σ H Q I ⟨ρ, M, Q', E', R, w, g, t⟩ => (po_some h).run pins s σ H Q I ?_⟩
  refine tE_bind R w t fun d M1 v H1 q m R1 r => ?_
  obtain ⟨i, e, q⟩ := onI_int q
  subst e
  exact ⟨i, r, g (some i) M1 H1 q m R1.mem⟩
theorem se_slc {a : Expr} {x : Ex} {lo hi : Option Ex} {lo' hi' : Option Expr} {p2 pos} (ha : PE X a (tE c W F x)) (hl : PO X lo' (tO c W F lo)) (hh : PO X hi' (tO c W F hi)) : PE X (.Subscript a (.Slice lo' hi' none p2) pos) (tE c W F (.slc x lo hi)) := by
  refine PE.imp (pe_slice (sl_all (c := c)) ha hl hh) fun σ H Q ⟨ρ, M, Q', E', R, w, g, t⟩ => ?_
  refine tE_bind R w t fun d1 M1 v1 H1 w1 m1 R1 r1 => ?_
  refine ⟨ρ, M1, _, E', R1, w1, fun l M2 H2 w2 m2 mr2 => ?_, t.mono m1⟩
  refine ⟨ρ, M2, _, E', R1.mono m2 mr2, w2, fun h M3 H3 w3 m3 mr3 => ?_, (t.mono m1).mono m2⟩
  refine ⟨d1, M3, Q', mr3, (r1.mono m2).mono m3, ?_, g.mono ((m1.trans m2).trans m3)⟩
  cases d1 <;> exact w3

/-! ### calls -/
theorem se_call (O : Okc X k F c W) {f : Nat} {p : Str × Nat} {xs : List Ex} {e : Expr} {es : List Expr} {p' pos} (hh : k.hot = false) (hg : k.glo p.1 = true) (hf : k.fns f = some p) (ha : PA X (e :: es) (tA c W F xs)) (h1 : isStar e = false) (h2 : noStars es = true) :
    PE X (.Call (.Name p.1 p') (e :: es) [] pos) (tE c W F (.call f xs)) := by
  obtain ⟨ad, fd, ps, j, hm, hk, hb, hr, fok⟩ := O.fns hh f p hf
  obtain ⟨gl, hdb, hn⟩ := O.glo hg
  refine PE.imp (pe_callS (fok c.mg O.mg) hr gl hm hk hb (passAt O.tk) ha hdb (star_cons h1) (star_back h2)) fun σ H Q ⟨ρ, M, Q', E', R, w, g, t⟩ => ?_
  exact tA_bind R w t fun ds M1 vs H1 _ w1 m1 R1 rs => ⟨ds, M1, Q', E', rs, R1.mem, w1, g.mono m1, t.mono m1⟩
theorem boot_of (b : Bi) (hb : biSup b = true) : bootBuiltins (biName b) = some (biOf b) := by
  cases b with
  | len => decide +kernel
  | abs => decide +kernel
  | int => decide +kernel
  | str => decide +kernel
  | list => decide +kernel
  | tuple => decide +kernel
  | dict => decide +kernel
  | all => decide +kernel
  | any => decide +kernel
  | sum => decide +kernel
  | max2 => decide +kernel
  | min2 => decide +kernel
  | max1 => decide +kernel
  | min1 => decide +kernel
  | _ => cases hb
theorem bi_blt (b : Bi) : biName b ∈ blts := by cases b <;> decide
theorem se_bi (O : Okc X k F c W) {b : Bi} {m : Bool} {xs : List Ex} {e : Expr} {es : List Expr} {p' pos} (hh : k.hot = false) (hb : biSup b = true) (hg : k.glo (biName b) = true) (ha : PA X (e :: es) (tA c W F xs)) (h1 : isStar e = false) (h2 : noStars es = true) :
    PE X (.Call (.Name (biName b) p') (e :: es) [] pos) (tE c W F (.bi b m xs)) := by
  obtain ⟨gl, hdb, hn⟩ := O.glo hg
  have hm := O.blt _ (bi_blt b)
  have hv := boot_of b hb
  have ok := bi_ok (X := X) (c := c) b m (O.calm hh) hb
  have rd : ∀ σ H Q, tE c W F (.bi b m xs) σ H Q → tCB (rBi c b m) (tA c W F xs) σ H Q := fun σ H Q ⟨ρ, M, Q', E', R, w, g, t⟩ =>
    tA_bind R w t fun ds M1 vs H1 _ w1 m1 R1 rs => ⟨ds, M1, Q', R1.mem, rs, w1, g.mono m1⟩
  have fn : ∀ id, biOf b = .builtin id → PE X (.Call (.Name (biName b) p') (e :: es) [] pos) (tE c W F (.bi b m xs)) := fun id q => by
    rw [q] at ok hv
    exact PE.imp (pe_callB ok gl hm hv ha hn hdb (star_cons h1) (star_back h2)) rd
  have ty : ∀ id, biOf b = .type id → PE X (.Call (.Name (biName b) p') (e :: es) [] pos) (tE c W F (.bi b m xs)) := fun id q => by
    rw [q] at ok hv
    exact PE.imp (pe_callTy ok gl hm hv ha hn hdb (star_cons h1) (star_back h2)) rd
  cases b <;> first | exact fn _ rfl | exact ty _ rfl | cases hb
/-! ### methods -/
theorem pe_bmP {o e : Expr} {es : List Expr} {to : TE} {t : TA} {name : Str} {apos cpos : Pos} {T id : String} {r : V → List V → Hp → VK → Prop} (P : V → Hp → Prop)
    (hP : ∀ (pins : List (Addr × Obj)) (σ : L2.St) (H : Hp) (s : Shared) (x : V) (v : Value), Inv X pins σ H s → RelV x v → P x H → s.TypeIs v T ∧ ∀ a, v = .ref a → ∃ ob, s.heap.get? a = some ob ∧ ob.dict = none)
    (pa : PlainAttrs T) (slot : Slot T name id) (hty : typeOf (.builtin id) = pure (.type "method_descriptor")) (hm : MtR X id r) (ho : PE X o to) (ha : PA X (e :: es) t)
    (hbase : attributeBase o name X.env (eval o X.env) = eval o X.env)
    (hfew : ((backTo cpos (starEach (e :: es) X.env)).all (fun x => !x.1) && (backToKw cpos (keywordEach [] X.env)).all (fun x => x.1.isSome)
      && decide ((e :: es).length + ([] : List Keyword).length + (if ([] : List Keyword).isEmpty then 0 else 1) < 30)) = true)
    (hline : (apos.endLine == cpos.line) = true) (hs : starEach (e :: es) X.env = (false, eval e X.env) :: starEach es X.env) (hplain : (backTo cpos (starEach es X.env)).any (·.1) = false) :
    PE X (.Call (.Attribute o name apos) (e :: es) [] cpos) (fun σ H Q => to σ H fun x H1 => P x H1 ∧ t σ H1 fun xs H2 => r x xs H2 Q) := by
  refine ⟨fun pins s σ H Q I h => ?_⟩
  refine wpAny_Call_method_late hbase hfew hline rfl (thn (ho.run pins s σ H _ I h) fun v s1 ⟨x, H1, I1, r1, ty, q1⟩ => ?_)
  obtain ⟨h1, h2⟩ := hP pins σ H1 s1 x v I1 r1 ty
  refine ⟨T, id, pa, slot, hty, h1, h2, ?_⟩
  have hA := ha.run cpos pins s1 σ H1 _ I1 q1
  rw [hs] at hA ⊢
  refine Calls.callWith_builtin (by show (false || (backTo cpos (starEach es X.env)).any (·.1)) = false; rw [hplain] <;> rfl) (Calls.evalArgs_plain ?_)
  exact thn hA fun us s2 ⟨vs, H2, I2, r2, q2⟩ => hm pins s2 σ H2 x vs v us Q I2 r1 r2 q2
theorem pe_bmP0 {o : Expr} {to : TE} {name : Str} {apos cpos : Pos} {T id : String} {r : V → List V → Hp → VK → Prop} (P : V → Hp → Prop)
    (hP : ∀ (pins : List (Addr × Obj)) (σ : L2.St) (H : Hp) (s : Shared) (x : V) (v : Value), Inv X pins σ H s → RelV x v → P x H → s.TypeIs v T ∧ ∀ a, v = .ref a → ∃ ob, s.heap.get? a = some ob ∧ ob.dict = none)
    (pa : PlainAttrs T) (slot : Slot T name id) (hty : typeOf (.builtin id) = pure (.type "method_descriptor")) (hm : MtR X id r) (ho : PE X o to)
    (hbase : attributeBase o name X.env (eval o X.env) = eval o X.env) (hline : (apos.endLine == cpos.line) = true) : PE X (.Call (.Attribute o name apos) [] [] cpos) (fun σ H Q => to σ H fun x H1 => P x H1 ∧ r x [] H1 Q) := by
  refine ⟨fun pins s σ H Q I h => ?_⟩
  refine wpAny_Call_method0_late hbase hline (thn (ho.run pins s σ H _ I h) fun v s1 ⟨x, H1, I1, r1, ty, q1⟩ => ?_)
  obtain ⟨h1, h2⟩ := hP pins σ H1 s1 x v I1 r1 ty
  exact ⟨T, id, pa, slot, hty, h1, h2, Calls.callWith_builtin rfl (PySem.evalArgs_none (hm pins s1 σ H1 x [] v [] Q I1 r1 .nil q1))⟩
/-- what a method's object is -/
def mtP (K : PySem.W.Frag) : Mt → V → Hp → Prop
  | .get => fun x H => ∃ a, x = .ref a ∧ IsD H a
  | .join => fun x _ => ∃ s, x = .str s
  | .append => fun x H => ∃ a xs, x = .ref a ∧ SqL K H a xs
  | .extend => fun x H => ∃ a xs, x = .ref a ∧ SqL K H a xs
  | .pop => fun x H => ∃ a xs, x = .ref a ∧ SqL K H a xs
  | _ => fun _ _ => False
theorem mtP_is (m : Mt) (pins : List (Addr × Obj)) (σ : L2.St) (H : Hp) (s : Shared) (x : V) (v : Value) (I : Inv X pins σ H s) (r : RelV x v) (h : mtP X.K m x H) : s.TypeIs v (mtTy m) ∧ ∀ a, v = .ref a → ∃ ob, s.heap.get? a = some ob ∧ ob.dict = none := by
  have ls : (∃ a xs, x = V.ref a ∧ SqL X.K H a xs) → s.TypeIs v "list" ∧ ∀ a, v = .ref a → ∃ ob, s.heap.get? a = some ob ∧ ob.dict = none := fun ⟨a, xs, e, q⟩ => by
    subst e
    exact tyV_is (T := "list") I r (.inl ⟨rfl, xs, q⟩)
  cases m with
  | get =>
    obtain ⟨a, e, d⟩ := h
    subst e
    cases (show v = Value.ref a from r)
    obtain ⟨h1, h2, _⟩ := isD_at I d
    exact ⟨h1, h2⟩
  | join =>
    obtain ⟨z, e⟩ := h
    subst e
    exact tyV_is (T := "str") I r rfl
  | append => exact ls h
  | extend => exact ls h
  | pop => exact ls h
  | _ => exact h.elim
theorem mtP_of {m : Mt} {o : D} {M : Mem} {H : Hp} {x : V} {K : PySem.W.Frag} (hb : mtSup m = true) (mr : MRep c.mg M H) (r : Rep c.mg M H o x) (h : mtIs m o M) : mtP K m x H := by
  have ls : (isTup o = false ∧ (seqM M o).isSome = true) → ∃ a xs, x = V.ref a ∧ SqL K H a xs := fun ⟨h1, h2⟩ => by
    obtain ⟨xs, e⟩ := Option.isSome_iff_exists.mp h2
    obtain ⟨a, vs, ea, _, q⟩ := lst_of mr r h1 e
    exact ⟨a, vs, ea, .inl q⟩
  cases m with
  | append => exact ls h
  | extend => exact ls h
  | pop => exact ls h
  | get =>
    obtain ⟨p, e⟩ := Option.isSome_iff_exists.mp (show (dctM M o).isSome = true from h)
    obtain ⟨t, kvs⟩ := p
    obtain ⟨a, ea, h⟩ := dct_of mr r e
    refine ⟨a, ea, ?_⟩
    rcases h with ⟨_, ws, q, _⟩ | ⟨_, ws, q, _⟩
    · exact .inl ⟨ws, q⟩
    · exact .inr ⟨ws, q⟩
  | join =>
    cases o with
    | str z => exact ⟨z, r⟩
    | _ => cases (show false = true from h)
  | _ => cases hb
theorem se_mth (O : Okc X k F c W) {m : Mt} {a : Ex} {xs : List Ex} {o : Expr} {es : List Expr} {apos cpos} (hb : mtSup m = true) (ho : PE X o (tE c W F a)) (ha : PA X es (tA c W F xs)) (h1 : isBase o = false) (h2 : noStars es = true) (hl : es.length < 10) (hline : (apos.endLine == cpos.line) = true)
    (h0 : es = [] → xs = []) : PE X (.Call (.Attribute o (mtName m) apos) es [] cpos) (tE c W F (.mth m a xs)) := by
  have pa : PlainAttrs (mtTy m) := by
    cases m with
    | append => exact PySem.F.plainAttrs_list
    | extend => exact PySem.F.plainAttrs_list
    | pop => exact PySem.F.plainAttrs_list
    | get => exact PySem.F.plainAttrs_dict
    | join => exact PySem.F.plainAttrs_str
    | _ => cases hb
  have sl : Slot (mtTy m) (mtName m) (mtOf m) := by
    cases m with
    | append => exact PySem.F.slot_list_append
    | extend => exact PySem.F.slot_list_extend
    | pop => exact PySem.F.slot_list_pop
    | get => exact PySem.F.slot_dict_get
    | join => exact PySem.F.slot_str_join
    | _ => cases hb
  have ty : typeOf (.builtin (mtOf m)) = pure (.type "method_descriptor") := by
    cases m with
    | append => exact PySem.F.type_list_append
    | extend => exact PySem.F.type_list_extend
    | pop => exact PySem.F.type_list_pop
    | get => exact PySem.F.type_dict_get
    | join => exact PySem.F.type_str_join
    | _ => cases hb
  cases es with
  | nil =>
    cases h0 rfl
    refine PE.imp (pe_bmP0 (mtP X.K m) (mtP_is m) pa sl ty (mt_ok (c := c) m O.un hb) ho (base_ok h1) hline) fun σ H Q ⟨ρ, M, Q', E', R, w, g, t⟩ => ?_
    refine tE_bind R w t fun d M1 v H1 ⟨w0, w1⟩ m1 R1 r1 => ⟨mtP_of hb R1.mem r1 w0, ?_⟩
    exact ⟨d, [], M1, Q', R1.mem, r1, rfl, w1, g.mono m1⟩
  | cons e es =>
    have hs : isStar e = false := by
      unfold noStars at h2
      simp only [List.all_cons, Bool.and_eq_true, Bool.not_eq_true'] at h2
      exact h2.1
    have hs2 : noStars es = true := by
      unfold noStars at h2 ⊢
      simp only [List.all_cons, Bool.and_eq_true, Bool.not_eq_true'] at h2
      exact h2.2
    have hfew : ((backTo cpos (starEach (e :: es) X.env)).all (fun x => !x.1) && (backToKw cpos (keywordEach [] X.env)).all (fun x => x.1.isSome)
      && decide ((e :: es).length + ([] : List Keyword).length + (if ([] : List Keyword).isEmpty then 0 else 1) < 30)) = true := by
      have q1 : (backTo cpos (starEach (e :: es) X.env)).all (fun x => !x.1) = true := by
        have := star_back (env := X.env) (pos := cpos) h2
        rw [List.any_eq_false] at this
        rw [List.all_eq_true]
        intro x hx
        have := this x hx
        simpa using this
      rw [q1]
      simp only [List.length_cons] at hl
      simp [keywordEach, backToKw]
      omega
    refine PE.imp (pe_bmP (mtP X.K m) (mtP_is m) pa sl ty (mt_ok (c := c) m O.un hb) ho ha (base_ok h1) hfew hline (star_cons hs) (star_back hs2)) fun σ H Q ⟨ρ, M, Q', E', R, w, g, t⟩ => ?_
    refine tE_bind R w t fun d M1 v H1 ⟨w0, w1⟩ m1 R1 r1 => ⟨mtP_of hb R1.mem r1 w0, ?_⟩
    exact tA_bind R1 w1 (t.mono m1) fun ds M2 vs H2 _ w2 m2 R2 rs => ⟨d, ds, M2, Q', R2.mem, r1.mono m2, rs, w2, g.mono (m1.trans m2)⟩
/-! ### isinstance -/
theorem kit_all (t u : Ty) : kitB (tyStr t) (tyStr u) = some (u == t || (u == .int && t == .bool)) := by
  cases t <;> cases u <;> decide +kernel
theorem kit_non (u : Ty) : kitB "NoneType" (tyStr u) = some false := by cases u <;> decide +kernel
theorem tyX_of {d : D} {M : Mem} {H : Hp} {v : V} {K : PySem.W.Frag} {t : Ty} (mr : MRep c.mg M H) (r : Rep c.mg M H d v) (h : tyOf M d = some t) : TyX K H v (.type (tyStr t)) := by
  have ls : ∀ {a : Addr} {vs : List V}, Rd H a (.lst vs) → TyX K H (.ref a) (.type "list") := fun q => by
    rcases q with q | ⟨o, q⟩
    · exact .base (.lst q)
    · exact .base (.frz q)
  have ds : ∀ {a : Addr} {vs : List (Key × V)}, Rd H a (.dK vs) → TyX K H (.ref a) (.type "dict") := fun q => by
    rcases q with q | ⟨o, q⟩
    · exact .base (.dK q)
    · exact .fDict q
  cases d with
  | bl b => cases h; cases (show v = _ from r); exact .base (.bl _)
  | int b => cases h; cases (show v = _ from r); exact .base (.int _)
  | str b => cases h; cases (show v = _ from r); exact .base (.str _)
  | tup b => cases h; obtain ⟨a, vs, e, _, q, _⟩ := r; subst e; exact .base (.tup q)
  | lst b => cases h; obtain ⟨a, vs, e, _, q, _⟩ := r; subst e; exact ls q
  | dct z b =>
    cases z with
    | false => cases h; obtain ⟨a, e, _, vs, q, _⟩ := r; subst e; exact ds q
    | true => cases h
  | ref a =>
    cases (show v = _ from r)
    unfold tyOf at h
    dsimp only at h
    split at h
    · rename_i xs e
      cases h
      obtain ⟨vs, q, _⟩ := mr.std a _ e
      exact .base (.lst q)
    · rename_i t' xs e
      cases h
      cases t' with
      | false =>
        obtain ⟨vs, q, _⟩ := mr.std a _ e
        exact .base (.dK q)
      | true =>
        obtain ⟨vs, q, _⟩ := mr.std a _ e
        exact .base (.dT q)
    · cases h
  | _ => cases h
theorem ty_boot (t : Ty) : bootBuiltins (tyName t) = some (.type (tyStr t)) := by cases t <;> decide +kernel
theorem ty_blt (t : Ty) : tyName t ∈ blts := by cases t <;> decide
theorem boot_isi : bootBuiltins "isinstance" = some (.builtin "isinstance") := by decide +kernel
theorem pe_tyName (O : Okc X k F c W) {t : Ty} {p} (hg : k.glo (tyName t) = true) : PE X (.Name (tyName t) p) (tC (.ty (tyStr t))) := by
  obtain ⟨gl, hdb, hn⟩ := O.glo hg
  exact pe_bltn gl (O.blt _ (ty_blt t)) (ty_boot t) rfl hn hdb
theorem se_isi (O : Okc X k F c W) {a : Ex} {t : Ty} {e : Expr} {p1 p2 pos} (hg : k.glo "isinstance" = true) (hy : k.glo (tyName t) = true) (he : isStar e = false) (ha : PE X e (tE c W F a)) :
    PE X (.Call (.Name "isinstance" p1) [e, .Name (tyName t) p2] [] pos) (tE c W F (.isi a [t])) := by
  obtain ⟨gl, hdb, hn⟩ := O.glo hg
  have as : PA X [e, .Name (tyName t) p2] _ := pa_cons ha (pa_cons (pe_tyName O hy) pa_nil rfl) (star_cons he)
  refine PE.imp (pe_callB call_isi gl (O.blt _ (by decide)) boot_isi as hn hdb (star_cons he) rfl) fun σ H Q ⟨ρ, M, Q', E', R, w, g, tt⟩ => ?_
  refine tE_bind R w tt fun d M1 v H1 w1 m1 R1 r1 => ?_
  show rIsi X.K [v, .ty (tyStr t)] H1 Q
  by_cases z : d = .non
  · subst z
    cases (show v = V.non from r1)
    exact ⟨.non, .ty (tyStr t), .type "NoneType", .type (tyStr t), false, rfl, .ty _, .base .non, kit_ty (kit_non t), (g.mono m1).now R1.mem w1 rfl⟩
  · have w2 : ob (tyOf M1 d) fun t' => Q' (.bl ([t].any fun x => x == t' || (x == .int && t' == .bool))) M1 := by
      cases d <;> first | exact absurd rfl z | exact w1
    obtain ⟨t', e', q⟩ := ob_some w2
    refine ⟨v, .ty (tyStr t), .type (tyStr t'), .type (tyStr t), _, rfl, .ty _, tyX_of R1.mem r1 e', kit_ty (kit_all t' t), ?_⟩
    have q2 : Q' (.bl (t == t' || (t == .int && t' == .bool))) M1 := by simpa using q
    exact (g.mono m1).now R1.mem q2 rfl
end
end Dee

set_option Elab.async false
set_option linter.all false
set_option autoImplicit false
set_option maxRecDepth 100000
set_option maxHeartbeats 1000000
/-! Dee: targets, walks, comprehensions. -/
namespace Dee
open PySem PySem.Spec PyProof.Rows L2
section
variable {X : Cx} {k : Ck} {F : Sem} {c : LC} {W : WX}
/-! ### targets -/
/-- only the names at l have changed -/
def Off (l : List Nat) (σ σ' : L2.St) : Prop := σ'.length = σ.length ∧ ∀ i, i ∉ l → σ'[i]? = σ[i]?
def tG (c : LC) (t : Tg) : TG := fun v σ H Q => ∃ ρ M d Q', Rp c ρ M σ H ∧ Rep c.mg M H d v ∧ wTg t d ρ Q' ∧ (∀ ρ' σ', Q' ρ' → Rp c ρ' M σ' H → Off (tgSlots t) σ σ' → Q σ' H)
def tGs (c : LC) (ts : List Tg) : TGs := fun vs σ H Q => ∃ ρ M ds Q', Rp c ρ M σ H ∧ RepL c.mg M H ds vs ∧ wTgs ts ds ρ Q' ∧ (∀ ρ' σ', Q' ρ' → Rp c ρ' M σ' H → Off (tgsSlots ts) σ σ' → Q σ' H)
theorem PG.imp {X : Cx} {e : Expr} {t t' : TG} (h : PG X e t) (i : ∀ v σ H Q, t' v σ H Q → t v σ H Q) : PG X e t' := ⟨fun pins s σ H v u Q I r q => h.run pins s σ H v u Q I r (i _ _ _ _ q)⟩
theorem PGs.imp {X : Cx} {e : List Expr} {t t' : TGs} (h : PGs X e t) (i : ∀ v σ H Q, t' v σ H Q → t v σ H Q) : PGs X e t' := ⟨fun pins s σ H v u Q I r q => h.run pins s σ H v u Q I r (i _ _ _ _ q)⟩
mutual
theorem wTg_out : ∀ {t : Tg} {d : D} {ρ : Env} {Q : Env → Prop}, wTg t d ρ Q → ∃ ρ', Q ρ'
  | .nm _, _, _, _, h => ⟨_, h⟩
  | .tu _, d, _, _, h => by
    cases d <;> first | exact wTgs_out h | exact h.elim
theorem wTgs_out : ∀ {ts : List Tg} {ds : List D} {ρ : Env} {Q : Env → Prop}, wTgs ts ds ρ Q → ∃ ρ', Q ρ'
  | [], [], _, _, h => ⟨_, h⟩
  | [], _ :: _, _, _, h => h.elim
  | _ :: _, [], _, _, h => h.elim
  | t :: ts, d :: ds, _, _, h => by
    obtain ⟨_, h⟩ := wTg_out (t := t) h
    exact wTgs_out h
end
theorem wTgs_len : ∀ {ts : List Tg} {ds : List D} {ρ : Env} {Q : Env → Prop}, wTgs ts ds ρ Q → ds.length = ts.length
  | [], [], _, _, h => rfl
  | [], _ :: _, _, _, h => h.elim
  | _ :: _, [], _, _, h => h.elim
  | t :: ts, d :: ds, _, _, h => by
    obtain ⟨_, h⟩ := wTg_out (t := t) h
    simp [wTgs_len h]
theorem onT_tup {d : D} {f : List D → Prop} (h : onT d f) : ∃ xs, d = .tup xs ∧ f xs := by cases d <;> first | exact ⟨_, rfl, h⟩ | exact h.elim
theorem chkTg_cons {k : Ck} {t : Tg} {e : Expr} {es : List Expr} {env : PySem.Env} (h : chkTg k t e = true) : assignEach (e :: es) env = (false, assign e env) :: assignEach es env := by
  cases t with
  | nm i => cases e <;> first | rfl | cases h
  | tu ts => cases e <;> first | rfl | cases h
theorem chkTgs_plain {k : Ck} {env : PySem.Env} : ∀ {ts : List Tg} {es : List Expr}, chkTgs k ts es = true → (assignEach es env).length = ts.length ∧ (assignEach es env).findIdx? (·.1) = none
  | [], [], _ => ⟨rfl, rfl⟩
  | [], _ :: _, h => by cases h
  | _ :: _, [], h => by cases h
  | t :: ts, e :: es, h => by
    unfold chkTgs at h
    simp only [Bool.and_eq_true] at h
    obtain ⟨h1, h2⟩ := chkTgs_plain (env := env) h.2
    rw [chkTg_cons h.1]
    refine ⟨by simp [h1], ?_⟩
    simp [List.findIdx?_cons, h2]
mutual
theorem sg (O : Okc X k F c W) : ∀ {t : Tg} {e : Expr}, chkTg k t e = true → PG X e (tG c t)
  | .nm i, e, h => by
    cases e <;> first | cases h | skip
    rename_i x pos
    obtain ⟨h1, h2, h3, h4⟩ := O.sto (show k.sto i x = true from h)
    exact PG.imp (pg_name O.nd h1 h2 h3) fun v σ H Q ⟨ρ, M, d, Q', R, r, w, g⟩ => g _ _ w (R.set r h4) ⟨by simp, fun j hj => by
      rw [List.getElem?_set_ne]
      rintro rfl
      exact hj (by simp [tgSlots])⟩
  | .tu ts, e, h => by
    cases e <;> first | cases h | skip
    rename_i es kk pos
    have h : (!k.hot && chkTgs k ts es) = true := h
    simp only [Bool.and_eq_true, Bool.not_eq_true'] at h
    obtain ⟨p1, p2⟩ := chkTgs_plain (env := X.env) h.2
    refine PG.imp (pg_tup (O.calm h.1) (sgs O h.2) p1 p2) fun v σ H Q ⟨ρ, M, d, Q', R, r, w, g⟩ => ?_
    obtain ⟨xs, e, w⟩ := onT_tup w
    subst e
    obtain ⟨a, vs, ea, _, hq, rs⟩ := r
    exact ⟨a, vs, ea, SqT.of hq, by rw [← rs.length]; exact wTgs_len w, ρ, M, xs, Q', R, rs, w, g⟩
theorem sgs (O : Okc X k F c W) : ∀ {ts : List Tg} {es : List Expr}, chkTgs k ts es = true → PGs X es (tGs c ts)
  | [], [], _ => PGs.imp pgs_nil fun v σ H Q ⟨ρ, M, ds, Q', R, r, w, g⟩ => by
    cases ds with
    | nil => exact ⟨r, g _ _ w R ⟨rfl, fun _ _ => rfl⟩⟩
    | cons _ _ => exact w.elim
  | [], _ :: _, h => by cases h
  | _ :: _, [], h => by cases h
  | t :: ts, e :: es, h => by
    unfold chkTgs at h
    simp only [Bool.and_eq_true] at h
    refine PGs.imp (pgs_cons (sg O h.1) (sgs O h.2) (by rw [chkTg_cons h.1] <;> rfl)) fun v σ H Q ⟨ρ, M, ds, Q', R, r, w, g⟩ => ?_
    cases ds with
    | nil => exact w.elim
    | cons d ds =>
      obtain ⟨u, us, e, r1, rs⟩ := r
      exact ⟨u, us, e, ρ, M, d, _, R, r1, w, fun ρ' σ' w' R' o1 => ⟨ρ', M, ds, Q', R', rs, w', fun ρ2 σ2 w2 R2 o2 => g ρ2 σ2 w2 R2 ⟨o2.1.trans o1.1, fun i hi => by
        have hi : i ∉ tgSlots t ++ tgsSlots ts := hi
        rw [List.mem_append, not_or] at hi
        exact (o2.2 i hi.2).trans (o1.2 i hi.1)⟩⟩⟩
end
/-! ### walks -/
/-- an iterator over the data xs -/
structure Walks (g0 : Gm) (J : It) (xs : List D) (M0 : Mem) (H0 : Hp) : Prop where
  len : xs.length ≤ sizeLine
  go : ∀ g i M H, Keeps g0 g M0 H0 M H → i < xs.length → J.go i H
  stop : ∀ g i M H, Keeps g0 g M0 H0 M H → xs.length ≤ i → J.stop i H
  yld : ∀ g i M H v H', Keeps g0 g M0 H0 M H → MRep g M H → J.yld i H v H' → ∀ d, xs[i]? = some d → (H' = H ∨ ∃ p vs, H p = none ∧ H' = upd H p (.tup vs)) ∧ Rep g M H' d v
theorem walks_list {g0 : Gm} {K : PySem.W.Frag} {a : Addr} {xs : List D} {vs : List V} {M : Mem} {H : Hp} (hn : Un g0 M a) (hr : Rd H a (.lst vs)) (rs : RepL g0 M H xs vs) (hl : vs.length ≤ sizeLine) : Walks g0 (Itl K a) xs M H := by
  have len := rs.length
  refine ⟨by omega, fun g i M1 H1 m h => ?_, fun g i M1 H1 m h => ?_, fun g i M1 H1 v H' m mr y d e => ?_⟩
  · obtain ⟨_, r⟩ := m.keep a (.lst vs) True.intro hn hr
    exact ⟨vs, vs[i]'(by omega), .inl r, List.getElem?_eq_getElem _⟩
  · obtain ⟨_, r⟩ := m.keep a (.lst vs) True.intro hn hr
    exact ⟨vs, .inl r, by omega⟩
  · obtain ⟨rfl, y⟩ := y
    obtain ⟨_, r⟩ := m.keep a (.lst vs) True.intro hn hr
    have e2 := y vs (.inl r)
    refine ⟨.inl rfl, ?_⟩
    obtain ⟨d', e3, r3⟩ := rs.get' e2
    rw [e] at e3
    cases e3
    exact r3.keeps m
theorem walks_tup {g0 : Gm} {K : PySem.W.Frag} {a : Addr} {xs : List D} {vs : List V} {M : Mem} {H : Hp} (hn : Un g0 M a) (hr : H a = some (.tup vs)) (rs : RepL g0 M H xs vs) (hl : vs.length ≤ sizeLine) : Walks g0 (Itt K a) xs M H := by
  have len := rs.length
  refine ⟨by omega, fun g i M1 H1 m h => ?_, fun g i M1 H1 m h => ?_, fun g i M1 H1 v H' m mr y d e => ?_⟩
  · exact ⟨vs, vs[i]'(by omega), SqT.of (m.tup a vs hn hr), List.getElem?_eq_getElem _⟩
  · exact ⟨vs, SqT.of (m.tup a vs hn hr), by omega⟩
  · obtain ⟨rfl, y⟩ := y
    have e2 := y vs (SqT.of (m.tup a vs hn hr))
    refine ⟨.inl rfl, ?_⟩
    obtain ⟨d', e3, r3⟩ := rs.get' e2
    rw [e] at e3
    cases e3
    exact r3.keeps m
theorem walks_str {g0 : Gm} {s : Str} {M : Mem} {H : Hp} (hl : s.length ≤ line) : Walks g0 (Its s) (s.cps.toList.map strOf) M H := by
  have hz : s.cps.size = s.length := rfl
  refine ⟨by rw [← line_eq, List.length_map, Array.length_toList]; exact hl, fun g i M1 H1 m h => ?_, fun g i M1 H1 m h => ?_, fun g i M1 H1 v H' m mr y d e => ?_⟩
  · show i < s.cps.size
    simpa using h
  · show s.cps.size ≤ i
    simpa using h
  · obtain ⟨rfl, ch, e2, e3⟩ := y
    refine ⟨.inl rfl, ?_⟩
    rw [List.getElem?_map, Array.getElem?_toList, e2] at e
    cases e
    exact e3
theorem walks_rng {g0 : Gm} {lo : Int} {n : Nat} {M : Mem} {H : Hp} (hl : n ≤ line) : Walks g0 (Itr lo n) ((List.range n).map fun (m : Nat) => D.int (lo + (m : Nat))) M H := by
  refine ⟨by rw [← line_eq]; simpa using hl, fun g i M1 H1 m h => (show i < n by simpa using h), fun g i M1 H1 m h => (show n ≤ i by simpa using h), fun g i M1 H1 v H' m mr y d e => ?_⟩
  obtain ⟨rfl, e3⟩ := y
  refine ⟨.inl rfl, ?_⟩
  rw [List.getElem?_map] at e
  have hi : i < n := by
    by_cases z : i < n
    · exact z
    · rw [List.getElem?_eq_none (by simpa using z)] at e
      cases e
  rw [List.getElem?_range hi] at e
  cases e
  exact e3
theorem walks_rngC {g0 : Gm} {lo : Int} {n : Nat} {M : Mem} {H : Hp} (hl : n ≤ line) : Walks g0 (Itc lo (-1) n) ((List.range n).map fun (m : Nat) => D.int (lo - (m : Nat))) M H := by
  refine ⟨by rw [← line_eq]; simpa using hl, fun g i M1 H1 m h => (show i < n by simpa using h), fun g i M1 H1 m h => (show n ≤ i by simpa using h), fun g i M1 H1 v H' m mr y d e => ?_⟩
  obtain ⟨rfl, e3⟩ := y
  refine ⟨.inl rfl, ?_⟩
  rw [List.getElem?_map] at e
  have hi : i < n := by
    by_cases z : i < n
    · exact z
    · rw [List.getElem?_eq_none (by simpa using z)] at e
      cases e
  rw [List.getElem?_range hi] at e
  cases e
  show v = _
  rw [e3]
  congr 1
  omega
/-- what is walked -/
def tI (c : LC) (W : WX) (F : Sem) (ik : Ik) (es : List Ex) : TI := fun σ H R => ∃ (ρ : Env) (M : Mem) (Q' : List D → Mem → Prop) (E' : KX), Rp c ρ M σ H ∧ wEs F es ρ M (fun ds M1 => itop ik ds fun xs => Q' xs M1) E' ∧
  (∀ xs M1 H1 J, Q' xs M1 → Mono M H M1 H1 → MRep c.mg M1 H1 → Walks c.mg J xs M1 H1 → R J H1) ∧ Throws c (fun cls d H' => W cls d σ H') M H E'
theorem PI.imp {X : Cx} {tg e : Expr} {t t' : TI} (h : PI X tg e t) (i : ∀ σ H Q, t' σ H Q → t σ H Q) : PI X tg e t' := ⟨fun pins s σ H Q I q => h.run pins s σ H Q I (i _ _ _ q)⟩
/-- over a list, a tuple, a text -/
theorem si_seq {tg e : Expr} {x : Ex} (he : PE X e (tE c W F x)) : PI X tg e (tI c W F .seq [x]) := by
  refine ⟨fun pins s σ H R I ⟨ρ, M, Q', E', R0, w, g, t⟩ => ?_⟩
  have w : wE F x ρ M (fun d M1 => ob (still d) fun xs => Q' xs M1) E' := w
  refine thn (he.run pins s σ H _ I (tE_bind R0 w t (R := fun v H1 => ∃ d M1, (ob (still d) fun xs => Q' xs M1) ∧ Mono M H M1 H1 ∧ Rp c ρ M1 σ H1 ∧ Rep c.mg M1 H1 d v) fun d M1 v H1 w1 m1 R1 r1 => ⟨d, M1, w1, m1, R1, r1⟩)) fun v s1 ⟨y, H1, I1, r1, d, M1, w1, m1, R1, rr⟩ => ?_
  obtain ⟨xs, ex, q⟩ := ob_some w1
  cases d with
  | tup ds =>
    cases ex
    obtain ⟨a, vs, ea, hn, hq, rs⟩ := rr
    subst ea
    cases r1
    obtain ⟨its, rv, p, hz⟩ := I1.tuple (SqT.of hq)
    refine wpAny_pyIter_tuple (show s1.heap.IsTuple a its.toArray from p) ?_
    refine ⟨s1.heap.objs.size, [s1.heap.objs.size], _, _, H1, rfl, I1.kept (t' := s1.toks) fun b o e => Heap.get?_push_of_some _ e, turn_tuple a _, ⟨_, Heap.get?_push_size _ rfl, rfl, rfl⟩, fun b hb => ?_, g _ _ _ _ q m1 R1.mem (walks_tup hn hq rs hz)⟩
    have e : b = s1.heap.objs.size := by simpa using hb
    subst e
    exact I1.fpOk (Nat.le_refl _) (I1.hok.fresh (Nat.le_refl _))
  | lst ds =>
    cases ex
    obtain ⟨a, vs, ea, hn, hq, rs⟩ := rr
    subst ea
    cases r1
    obtain ⟨its, rv, p, hz⟩ := I1.list (.inl hq)
    refine wpAny_pyIter_list p.isList ?_
    refine ⟨s1.heap.objs.size, [s1.heap.objs.size], _, _, H1, rfl, I1.kept (t' := s1.toks) fun b o e => Heap.get?_push_of_some _ e, turn_list a _, ⟨_, Heap.get?_push_size _ rfl, rfl, rfl⟩, fun b hb => ?_, g _ _ _ _ q m1 R1.mem (walks_list hn hq rs hz)⟩
    have e : b = s1.heap.objs.size := by simpa using hb
    subst e
    exact I1.fpOk (Nat.le_refl _) (I1.hok.fresh (Nat.le_refl _))
  | str z =>
    have ex : (if z.length ≤ line then some (z.cps.toList.map strOf) else none) = some xs := ex
    by_cases hl : z.length ≤ line
    · rw [if_pos hl] at ex
      cases ex
      cases (show y = V.str z from rr)
      obtain ⟨t, rfl⟩ := r1
      have fin := g _ _ _ _ q m1 R1.mem (walks_str (M := M1) (H := H1) (g0 := c.mg) hl)
      cases ha : z.cps.all (· < 128)
      · exact wpAny_pyIter_wide ha (pi_one (tk := s1.toks) I1 _ (turn_str _ z t "str_iterator" (.inr rfl)) ⟨_, Heap.get?_push_size _ rfl, rfl, rfl⟩ fin)
      · exact wpAny_pyIter_ascii ha (pi_one (tk := s1.toks) I1 _ (turn_str _ z t "str_ascii_iterator" (.inl rfl)) ⟨_, Heap.get?_push_size _ rfl, rfl, rfl⟩ fin)
    · rw [if_neg hl] at ex
      cases ex
  | _ => cases ex
theorem onI2 {d e : D} {f : Int → Int → Prop} (h : onI d fun i => onI e fun j => f i j) : ∃ i j, d = .int i ∧ e = .int j ∧ f i j := by
  obtain ⟨i, e1, h⟩ := onI_int h
  obtain ⟨j, e2, h⟩ := onI_int h
  exact ⟨i, j, e1, e2, h⟩
theorem si_rng (O : Okc X k F c W) {tg : Expr} {xs : List Ex} {es : List Expr} {p pos} (hg : k.glo "range" = true) (ha : PA X es (tA c W F xs)) (h2 : noStars es = true) (h3 : 1 ≤ es.length) (h4 : es.length ≤ 3) (h5 : xs.length = es.length) :
    PI X tg (.Call (.Name "range" p) es [] pos) (tI c W F .rng xs) := by
  obtain ⟨gl, hdb, hn⟩ := O.glo hg
  have hm := O.blt "range" (by decide)
  have l24 : line = 2 ^ 24 := rfl
  match es, h3, h4, ha, h2, h5 with
  | [a], _, _, ha, h2, h5 =>
    simp only [noStars, List.all_cons, Bool.and_eq_true, Bool.not_eq_true', List.all_nil, and_true] at h2
    refine PI.imp (pi_range1 gl hm ha (star_cons h2)) fun σ H R ⟨ρ, M, Q', E', R0, w, g, t⟩ => ?_
    refine tA_bind R0 w t fun ds M1 vs H1 hz w1 m1 R1 rs => ?_
    rw [h5] at hz
    match ds, hz with
    | [d], _ =>
      obtain ⟨j, ej, ⟨b1, b2⟩, q⟩ := onI_int w1
      subst ej
      obtain ⟨v, ev, rv⟩ := repL1 rs
      subst ev
      cases (show v = V.int j from rv)
      refine ⟨j, rfl, by omega, by omega, g _ _ _ _ q m1 R1.mem ?_⟩
      have z := walks_rng (M := M1) (H := H1) (g0 := c.mg) (lo := 0) (n := j.toNat) (by omega)
      unfold rngF
      simpa using z
  | [a, b], _, _, ha, h2, h5 =>
    simp only [noStars, List.all_cons, Bool.and_eq_true, Bool.not_eq_true', List.all_nil, and_true] at h2
    refine PI.imp (pi_range2 gl hm ha (by rw [star_cons h2.1, star_cons h2.2]; rfl) (star_cons h2.2)) fun σ H R ⟨ρ, M, Q', E', R0, w, g, t⟩ => ?_
    refine tA_bind R0 w t fun ds M1 vs H1 hz w1 m1 R1 rs => ?_
    rw [h5] at hz
    match ds, hz with
    | [d, e], _ =>
      obtain ⟨i, j, ei, ej, ⟨b1, b2, b3, b4, b5⟩, q⟩ := onI2 w1
      subst ei ej
      obtain ⟨v, u, ev, rv, ru⟩ := repL2 rs
      subst ev
      cases (show v = V.int i from rv)
      cases (show u = V.int j from ru)
      exact ⟨i, j, rfl, ⟨by omega, by omega, by omega, by omega⟩, g _ _ _ _ q m1 R1.mem (walks_rng (M := M1) (H := H1) (g0 := c.mg) (lo := i) (n := (j - i).toNat) (by omega))⟩
  | [a, b, e], _, _, ha, h2, h5 =>
    simp only [noStars, List.all_cons, Bool.and_eq_true, Bool.not_eq_true', List.all_nil, and_true] at h2
    refine PI.imp (pi_range3 gl hm ha (star_cons h2.1) (star_back (by simp [noStars, h2.2]))) fun σ H R ⟨ρ, M, Q', E', R0, w, g, t⟩ => ?_
    refine tA_bind R0 w t fun ds M1 vs H1 hz w1 m1 R1 rs => ?_
    rw [h5] at hz
    match ds, hz with
    | [d, e, f], _ =>
      obtain ⟨i, ei, w1⟩ := onI_int w1
      obtain ⟨j, l, ej, el, ⟨b0, b1, b2, b3, b4, b5⟩, q⟩ := onI2 w1
      subst ei ej el
      obtain ⟨v, r, ev, rv, u, r2, eu, ru, u3, r3, e3, ru3, er⟩ := rs
      cases (show r3 = [] from er)
      subst ev eu e3
      cases (show v = V.int i from rv)
      cases (show u = V.int j from ru)
      cases (show u3 = V.int l from ru3)
      subst b0
      exact ⟨i, j, -1, (i - j).toNat, rfl, RgC.neg (by omega) (by omega) (by omega) (by omega), g _ _ _ _ q m1 R1.mem (walks_rngC (M := M1) (H := H1) (g0 := c.mg) (lo := i) (n := (i - j).toNat) (by omega))⟩
/-! ### comprehensions -/
theorem wipe_get (σ : L2.St) : ∀ (l : List Nat) (i : Nat), (wipe σ l)[i]? = if i ∈ l ∧ i < σ.length then some none else σ[i]?
  | [], i => by simp [wipe]
  | v :: vs, i => by
    show ((wipe σ vs).set v none)[i]? = _
    rw [List.getElem?_set, wipe_get σ vs i]
    have hl := wipe_length σ vs
    by_cases e : v = i
    · subst e
      rw [if_pos rfl, hl]
      by_cases h : v < σ.length
      · simp [h]
      · rw [if_neg h]
        simp [h]
    · rw [if_neg e]
      have e2 : ¬ i = v := fun z => e z.symm
      simp [e2]
theorem Off.wipe {l : List Nat} {σ σ' : L2.St} (h : Off l σ σ') : wipe σ' l = L2.wipe σ l := by
  apply List.ext_getElem?
  intro i
  rw [wipe_get, wipe_get, h.1]
  by_cases e : i ∈ l
  · by_cases z : i < σ.length
    · simp [e, z]
    · rw [if_neg (by simp [z]), if_neg (by simp [z]), List.getElem?_eq_none (by rw [h.1]; omega), List.getElem?_eq_none (by omega)]
  · rw [if_neg (by simp [e]), if_neg (by simp [e]), h.2 i e]
theorem wipe_wipe (σ : L2.St) (l : List Nat) : Off l σ (wipe σ l) := ⟨wipe_length σ l, fun i hi => by rw [wipe_get, if_neg (by simp [hi])]⟩
theorem Rp.wipe {c : LC} {ρ : Env} {M : Mem} {σ : L2.St} {H : Hp} (R : Rp c ρ M σ H) (hx : c.xi = none) : ∀ l : List Nat, Rp c (wipeD ρ l) M (wipe σ l) H
  | [] => R
  | v :: vs => (Rp.wipe R hx vs).wipe1 fun j a cls d ε e => by rw [hx] at e; cases e
mutual
theorem tgOwn_slots : ∀ {t : Tg} {e : Expr} {own : List (Str × Nat)}, tgOwn t e = some own → own.map (·.2) = tgSlots t
  | .nm i, e, own, h => by
    cases e <;> first | (cases h; done) | skip
    have h : some [(_, i)] = some own := h
    cases h
    rfl
  | .tu ts, e, own, h => by
    cases e <;> first | cases h | skip
    exact tgsOwn_slots h
theorem tgsOwn_slots : ∀ {ts : List Tg} {es : List Expr} {own : List (Str × Nat)}, tgsOwn ts es = some own → own.map (·.2) = tgsSlots ts
  | [], [], own, h => by cases h; rfl
  | [], _ :: _, _, h => by cases h
  | _ :: _, [], _, h => by cases h
  | t :: ts, e :: es, own, h => by
    unfold tgsOwn at h
    dsimp only at h
    split at h
    · rename_i a b h1 h2
      cases h
      rw [List.map_append, tgOwn_slots h1, tgsOwn_slots h2]
      rfl
    · cases h
end
theorem lookup_relS {sc : Scope} {x : Str} {kd : NameKind} (hk : kd ≠ .free) : ∀ {names : List (Str × NameKind)}, names.lookup x = some kd →
    (names.map fun (n, k) => if (k == NameKind.free && sc.kind == .function && sc.names.lookup n == some .cell) then (n, NameKind.cell) else (n, k)).lookup x = some kd
  | [], h => by simp at h
  | (n, k) :: r, h => by
    have ih := @lookup_relS sc x kd hk r
    show List.lookup x ((if (k == NameKind.free && sc.kind == .function && sc.names.lookup n == some .cell) = true then (n, NameKind.cell) else (n, k)) :: _) = _
    cases hx : x == n with
    | true =>
      simp only [List.lookup_cons, hx] at h
      cases h
      have e : (kd == NameKind.free) = false := by cases kd <;> first | rfl | exact absurd rfl hk
      rw [e]
      simp [List.lookup_cons, hx]
    | false =>
      simp only [List.lookup_cons, hx] at h
      by_cases hc : (k == NameKind.free && sc.kind == .function && sc.names.lookup n == some .cell) = true
      · rw [if_pos hc]; simp only [List.lookup_cons, hx]; exact ih h
      · rw [if_neg hc]; simp only [List.lookup_cons, hx]; exact ih h
/-- nothing is raised -/
def W0 : WX := fun _ _ _ _ => False
theorem Okc.blk (O : Okc X k F c W) (hh : k.hot = false) {c' : LC} (hm : c'.mg.mg = c.mg.mg) (hx : c'.xi = none) (s : Shared) (H : Hp) (scope : Scope) (C : Addr) (cl : List (Str × Addr)) (fp : List Addr) :
    Okc (X.blk s H scope (compEnvC scope cl C X.env) fp) (k.blk scope) F c' W0 where
  N := O.N
  nd := O.nd
  sc := by
    show relabel scope X.env = relS scope k.sc
    rw [← O.sc]
    rfl
  own := fun x h => by
    have h : isLoc (scope.names.lookup x) = true := h
    show Loc (relabel scope X.env) x ∧ ((scope.names.lookup x == some .cell) = true ∨ (relabel scope X.env).names.lookup x = some .local)
    cases e : scope.names.lookup x with
    | none => rw [e] at h; cases h
    | some kd =>
      rw [e] at h
      cases kd with
      | «local» =>
        have z := lookup_relS (sc := X.env.scope) (hk := by decide) e
        exact ⟨.inl z, .inr z⟩
      | cell =>
        have z := lookup_relS (sc := X.env.scope) (hk := by decide) e
        exact ⟨.inr z, .inl (by decide)⟩
      | _ => cases h
  calm := O.calm
  un := O.un
  mg := hm.trans O.mg
  blt := O.blt
  tk := fun u s' ⟨a, B, sI, pins, σ, H, cls, d, e, I, nb, up, sky, na, os, ag, w⟩ => w.elim
  xs := fun j a cls d ε e => by rw [hx] at e; cases e
  hot0 := fun _ => hx
  fns := O.fns
  cur := fun ε e => by obtain ⟨_, _, _, _, q⟩ := O.cur ε e; rw [O.hot0 hh] at q; cases q
  sui := fun j a cls d ε e => by rw [hx] at e; cases e
  xf := O.xf
  sub := O.sub
  room := O.room
  cat := O.cat
/-- the tests of a comprehension -/
def tCs (c : LC) (F : Sem) (cs : List Ex) : TT := fun σ H Q => ∃ ρ M Q' E', Rp c ρ M σ H ∧ wCs F cs ρ M Q' E' ∧ (∀ b M' H', Q' b M' → Mono M H M' H' → MRep c.mg M' H' → Q b H') ∧ Throws c (fun cls d H' => W0 cls d σ H') M H E'
theorem sts_nil : PTs X [] (tCs c F []) := by
  refine ⟨fun pins s σ H Q I ⟨ρ, M, Q', E', R, w, g, t⟩ => pts_nil.run pins s σ H Q I ?_⟩
  exact g true M H w (Mono.refl _ _) R.mem
theorem sts_one {e : Expr} {x : Ex} (h : PT X e (tT c W0 F x)) : PTs X [e] (tCs c F [x]) := by
  refine ⟨fun pins s σ H Q I ⟨ρ, M, Q', E', R, w, g, t⟩ => (pts_one h).run pins s σ H Q I ?_⟩
  have w : wE F x ρ M (asB fun b M1 => if b = true then Q' true M1 else Q' false M1) E' := w
  refine tT_bind R w t fun b M1 H1 q m1 R1 => ?_
  cases b with
  | true => exact g true M1 H1 q m1 R1.mem
  | false => exact g false M1 H1 q m1 R1.mem
/-- the readings of a comprehension's parts -/
def bG (c : LC) (t : Tg) : TG := fun v σ H Q => ∃ c' : LC, (c'.mg.mg = c.mg.mg ∧ c'.xi = none) ∧ tG c' t v σ H Q
def bT (c : LC) (F : Sem) (cs : List Ex) : TT := fun σ H Q => ∃ c' : LC, (c'.mg.mg = c.mg.mg ∧ c'.xi = none) ∧ tCs c' F cs σ H Q
def bE (c : LC) (F : Sem) (e : Ex) : TE := fun σ H Q => ∃ c' : LC, (c'.mg.mg = c.mg.mg ∧ c'.xi = none) ∧ tE c' W0 F e σ H Q
theorem comp_read (xi0 : c.xi = none) {m : Bool} {e1 : Ex} {t : Tg} {ik : Ik} {es cs : List Ex} {tg : Expr} {own : List (Str × Nat)} (ho : tgOwn t tg = some own) {σ : L2.St} {H : Hp} {Q : VK} (h : tE c W F (.comp m e1 t ik es cs) σ H Q) :
    tLc (tI c W F ik es) (bG c t) (bT c F cs) (bE c F e1) (own.map (·.2)) σ H Q := by
  obtain ⟨ρ, M, Q', E', R0, w, gg, th⟩ := h
  have hsl := tgOwn_slots ho
  refine ⟨ρ, M, _, E', R0, w, fun xs M1 H1 J q m1 mr1 wk => ?_, th⟩
  intro D hD
  rw [hsl]
  have hnD : ¬ c.mg.hid D := (mr1.gone hD).2
  have R1 : Rp c ρ M1 σ H1 := R0.mono m1 mr1
  obtain ⟨turn, hturn⟩ : ∃ turn : Dee.D → Mem → (Option Dee.D → Mem → Prop) → Prop, turn = fun x M R => wTg t x (wipeD ρ (tgSlots t)) fun σ1 => wCs F cs σ1 M (fun b M2 => if b then wE F e1 σ1 M2 (fun y M3 => R (some y) M3) (fun _ _ => False) else R none M2) (fun _ _ => False) := ⟨_, rfl⟩
  rw [← hturn] at q
  refine ⟨fun i n H => n = xs.length - i ∧ i ≤ xs.length ∧ ∃ M acc vs, lcL turn (fun acc M2 => newL m acc M2 Q') (xs.drop i) acc M ∧ Mono M1 H1 M H ∧ Keeps c.mg (c.mg.hide D) M1 H1 M H ∧ MRep (c.mg.hide D) M H ∧ H D = some (.lst vs) ∧ RepL (c.mg.hide D) M H acc vs ∧ acc.length ≤ i,
    ⟨xs.length, by simp, Nat.zero_le _, M1, [], [], by rw [List.drop_zero]; exact q, Mono.new hD, Keeps.hide hD, mr1.hide hD, upd_same, rfl, Nat.le_refl _⟩, ?_⟩
  rintro i n H2 ⟨rfl, hi2, M2, acc, vs, q2, mo2, ke2, mr2, hD2, rs2, hl2⟩
  by_cases hlt : i < xs.length
  · obtain ⟨d, hd⟩ : ∃ d, xs[i]? = some d := ⟨xs[i], List.getElem?_eq_getElem hlt⟩
    have hdrop : xs.drop i = d :: xs.drop (i + 1) := by
      rw [List.drop_eq_getElem_cons hlt]
      rw [List.getElem?_eq_getElem hlt] at hd
      cases hd
      rfl
    rw [hdrop] at q2
    refine .inr ⟨wk.go _ i M2 H2 ke2 hlt, fun H' => xs.length - (i + 1) = xs.length - (i + 1) ∧ i + 1 ≤ xs.length ∧ ∃ M acc vs, lcL turn (fun acc M2 => newL m acc M2 Q') (xs.drop (i + 1)) acc M ∧ Mono M1 H1 M H' ∧ Keeps c.mg (c.mg.hide D) M1 H1 M H' ∧ MRep (c.mg.hide D) M H' ∧ H' D = some (.lst vs) ∧ RepL (c.mg.hide D) M H' acc vs ∧ acc.length ≤ i + 1,
      fun H' h' => ⟨xs.length - (i + 1), by omega, h'⟩, fun x H3 y => ?_⟩
    obtain ⟨hH3, rx⟩ := wk.yld _ i M2 H2 x H3 ke2 mr2 y d hd
    have mo3 : Mono M2 H2 M2 H3 ∧ MRep (c.mg.hide D) M2 H3 := by
      rcases hH3 with rfl | ⟨p, us, hp, rfl⟩
      · exact ⟨Mono.refl _ _, mr2⟩
      · exact ⟨Mono.new hp, mr2.new hp⟩
    obtain ⟨mo3, mr3⟩ := mo3
    have hDM : M2 D = none := (mr2.hid D (.inr rfl)).1
    have R3 : Rp ⟨c.mg.hide D, none⟩ (wipeD ρ (tgSlots t)) M2 (wipe σ (tgSlots t)) H3 :=
      Rp.wipe (Rp.keeps (c' := ⟨c.mg.hide D, none⟩) R1 (ke2.trans mo3.keeps) mr3 rfl) rfl _
    have q3 : turn d M2 (fun r M1 => match r with | some y => lcL turn (fun acc M2 => newL m acc M2 Q') (xs.drop (i + 1)) (acc ++ [y]) M1 | none => lcL turn (fun acc M2 => newL m acc M2 Q') (xs.drop (i + 1)) acc M1) := q2
    rw [hturn] at q3
    refine ⟨⟨c.mg.hide D, none⟩, ⟨rfl, rfl⟩, _, M2, d, _, R3, rx, q3, fun ρ4 σ4 w4 R4 off4 => ⟨?_, ?_⟩⟩
    · rw [off4.wipe, (wipe_wipe σ (tgSlots t)).wipe]
    rw [← hturn] at w4
    refine ⟨⟨c.mg.hide D, none⟩, ⟨rfl, rfl⟩, ρ4, M2, _, _, R4, w4, fun b M5 H5 q5 mo5 mr5 => ?_, fun _ _ _ _ _ z => z.elim⟩
    have mo25 := mo3.trans mo5
    cases b with
    | false =>
      rw [if_neg Bool.false_ne_true] at q5
      show _ = _ ∧ _
      exact ⟨rfl, hlt, M5, acc, vs, q5, mo2.trans mo25, ke2.trans mo25.keeps, mr5, (mo25.tup D (.lst vs) True.intro hDM hD2).2, rs2.mono mo25, by omega⟩
    | true =>
      rw [if_pos rfl] at q5
      refine ⟨⟨c.mg.hide D, none⟩, ⟨rfl, rfl⟩, ρ4, M5, _, _, R4.mono mo5 mr5, q5, fun y' M6 v6 H6 q6 mo6 mr6 r6 => ?_, fun _ _ _ _ _ z => z.elim⟩
      have mo26 := mo25.trans mo6
      have hD6 := (mo26.tup D (.lst vs) True.intro hDM hD2).2
      have hlen := rs2.length
      have hwl := wk.len
      exact ⟨vs, hD6, by omega, rfl, hlt, M6, acc ++ [y'], vs ++ [v6], q6, (mo2.trans mo26).young hD, (ke2.trans mo26.keeps).trans Keeps.turn, mr6.turn, upd_same,
        ((rs2.mono mo26).keeps Keeps.turn).append ⟨v6, [], rfl, r6.keeps Keeps.turn, rfl⟩, by simp; omega⟩
  · have hie : i = xs.length := by omega
    subst hie
    refine .inl ⟨wk.stop _ _ M2 H2 ke2 (Nat.le_refl _), ?_⟩
    rw [List.drop_length] at q2
    have q3 : newL m acc M2 Q' := q2
    have hDM : M2 D = none := (mr2.hid D (.inr rfl)).1
    cases m with
    | false => exact gg _ _ _ _ q3 (m1.trans mo2) mr2.show ⟨D, vs, rfl, ⟨hDM, hnD⟩, .inl hD2, rs2.keeps Keeps.show⟩
    | true => exact gg _ _ _ _ (q3 D hDM) (m1.trans (mo2.youngT hD)) (mr2.showT hD2 rs2 hnD) rfl
theorem comp_ok (O : Okc X k F c W) (hh : k.hot = false) {scope : Scope} {own : List (Str × Nat)} {tg elt : Expr} {ifs : List Expr} {t : Tg} {cs : List Ex} {e1 : Ex} (hb : blkC k.N k.sc scope own = true)
    (body : ∀ (X' : Cx) (c' : LC), Okc X' (k.blk scope) F c' W0 → PG X' tg (tG c' t) ∧ PTs X' ifs (tCs c' F cs) ∧ PE X' elt (tE c' W0 F e1)) :
    BlkOk X.N X.env.scope scope own ∧ (∀ (s : Shared) (H : Hp) (C : Addr) (cl : List (Str × Addr)) (fp : List Addr), PG (X.blk s H scope (compEnvC scope cl C X.env) fp) tg (bG c t)) ∧
      (∀ (s : Shared) (H : Hp) (C : Addr) (cl : List (Str × Addr)) (fp : List Addr), PTs (X.blk s H scope (compEnvC scope cl C X.env) fp) ifs (bT c F cs)) ∧ (∀ (s : Shared) (H : Hp) (C : Addr) (cl : List (Str × Addr)) (fp : List Addr), PE (X.blk s H scope (compEnvC scope cl C X.env) fp) elt (bE c F e1)) := by
  have bd : ∀ (s : Shared) (H : Hp) (C : Addr) (cl : List (Str × Addr)) (fp : List Addr) (c' : LC), (c'.mg.mg = c.mg.mg ∧ c'.xi = none) → _ := fun s H C cl fp c' p => body (X.blk s H scope (compEnvC scope cl C X.env) fp) c' (O.blk hh p.1 p.2 s H scope C cl fp)
  refine ⟨by rw [O.N, O.sc]; exact blkOk_by hb, fun s H C cl fp => ⟨fun pins s' σ' H' v u Q I r ⟨c', p, q⟩ => (bd s H C cl fp c' p).1.run pins s' σ' H' v u Q I r q⟩,
    fun s H C cl fp => ⟨fun pins s' σ' H' Q I ⟨c', p, q⟩ => (bd s H C cl fp c' p).2.1.run pins s' σ' H' Q I q⟩,
    fun s H C cl fp => ⟨fun pins s' σ' H' Q I ⟨c', p, q⟩ => (bd s H C cl fp c' p).2.2.run pins s' σ' H' Q I q⟩⟩
theorem se_comp (O : Okc X k F c W) (hh : k.hot = false) {m : Bool} {e1 : Ex} {t : Tg} {ik : Ik} {es cs : List Ex} {elt tg iter : Expr} {ifs : List Expr} {scope : Scope} {own : List (Str × Nat)} {pos : Pos}
    (hi : PI X tg iter (tI c W F ik es)) (ho : tgOwn t tg = some own) (hb : blkC k.N k.sc scope own = true) (hs : isSet iter = false)
    (body : ∀ (X' : Cx) (c' : LC), Okc X' (k.blk scope) F c' W0 → PG X' tg (tG c' t) ∧ PTs X' ifs (tCs c' F cs) ∧ PE X' elt (tE c' W0 F e1)) :
    PE X (.ListComp elt [⟨tg, iter, ifs, 0⟩] scope pos) (tE c W F (.comp m e1 t ik es cs)) := by
  obtain ⟨b1, b2, b3, b4⟩ := comp_ok O hh hb body
  have fs : ∀ x, foldedSetIterable iter X.env x = pure x := fun x => by cases iter <;> first | rfl | cases hs
  exact PE.imp (pe_lc (O.calm hh) O.nd hi b1 b2 b3 b4 fs) fun σ H Q h => comp_read (O.hot0 hh) ho h
end
end Dee

set_option Elab.async false
set_option linter.all false
set_option autoImplicit false
set_option maxRecDepth 100000
set_option maxHeartbeats 1000000
/-! Dee: o[::-1]. -/
namespace Dee
open PySem PySem.Spec PyProof.Rows L2
section
variable {prog : Program} {w : World} {A : Around} {E : Value → Shared → Prop} {s : Shared}
theorem places_rev (n : Nat) : Builtin.Slice.slicePlaces ((n : Int) - 1) (-1) (-1) = n := by
  unfold Builtin.Slice.slicePlaces
  have h1 : ¬ ((-1 : Int) > 0) := by decide
  simp only [h1, if_false]
  by_cases h : (n : Int) - 1 > -1
  · rw [if_pos h]
    have e : ((n : Int) - 1 - -1 - 1) / (- -1) + 1 = (n : Int) := by
      rw [show (- -1 : Int) = 1 by decide, Int.ediv_one]
      omega
    rw [e]
    rfl
  · rw [if_neg h]
    have e : n = 0 := by omega
    subst e
    rfl
theorem pick_rev (xs : Array Value) : ((List.range xs.size).filterMap fun (k : Nat) => xs[((xs.size : Int) - 1 + (k : Int) * -1).toNat]?) = xs.toList.reverse := by
  have e : ((List.range xs.size).filterMap fun (k : Nat) => xs[((xs.size : Int) - 1 + (k : Int) * -1).toNat]?) = ((List.range xs.size).map fun k => xs.size - 1 - k).filterMap (xs[·]?) := by
    rw [List.filterMap_map]
    congr 1
    funext k
    have e : ((xs.size : Int) - 1 + (k : Int) * -1).toNat = xs.size - 1 - k := by omega
    simp only [Function.comp_def]
    rw [e]
  rw [e, PySem.W.krv_range, List.filterMap_reverse, PySem.W.krv_all]
theorem getItem_tuple_rev {t sl : Addr} {items : Array Value} {u : Tok} {Q : Value → Shared → Prop} (ht : IsTup s.heap t items) (hs : s.heap.IsSliceOf sl .none .none (.int (-1) u))
    (h : Q (.ref s.heap.objs.size) { s with heap := s.heap.push { cls := .type "tuple", data := .seq items.toList.reverse.toArray } }) (hsz : items.size ≤ sizeLine) : wpAny (model prog w) A (getItem (.ref t) (.ref sl)) Q E s := by
  have htake : sizeOk (.seq items.toList.reverse.toArray) := by
    show items.toList.reverse.toArray.size ≤ sizeLine
    simpa using hsz
  obtain ⟨os, hos, hcs, hds⟩ := id hs
  have hTs : s.TypeIs (.ref sl) "slice" := ⟨os, hos, hcs⟩
  unfold getItem
  try with_reducible refine wpAny_holding ?_
  first | refine wpAny_bind (wpAny_pure ?_) | skip
  refine wpAny_bind (wpAny_sequenceKey ht.typeIs (by decide) ?_)
  refine wpAny_bind (wpAny_callSpecial?_slot (name := Str.ofString "__getitem__") ht.typeIs PyProof.Rows.slot_tuple_getitem
    (wpAny_call_entry PyProof.Rows.slot_tuple_getitem ht.typeIs entry_tuple_getitem ?_ (args_tuple_getitem _ _)))
  show wpAny _ _ (Builtin.Tuple.tupleItemsOf (.ref t) >>= _) _ _ s
  refine wpAny_bind (PyProof.Rows.tupleItemsOf_ ht ?_)
  refine wpAny_bind (wpAny_typeOf hTs ?_)
  rw [if_pos (by decide)]
  refine wpAny_bind ?_
  unfold Builtin.Slice.sliceApplied Builtin.Slice.sliceFields
  refine wpAny_bind (wpAny_bind (wpAny_field hos hds (x := .none) rfl (wpAny_bind (wpAny_field hos hds (x := .none) rfl (wpAny_bind (wpAny_field hos hds (x := .int (-1) u) rfl (wpAny_pure ?_)))))))
  refine wpAny_bind (PyProof.Rows.slicePart_int ?_)
  show wpAny _ _ (if ((-1 : Int) == 0) = true then _ else _) _ _ s
  rw [if_neg (by decide)]
  refine wpAny_bind (PyProof.Rows.slicePart_none (wpAny_bind (PyProof.Rows.slicePart_none (wpAny_bind (wpAny_pure ?_)))))
  show wpAny _ _ (pure ((items.size : Int) - 1, (-1 : Int), Builtin.Slice.slicePlaces ((items.size : Int) - 1) (-1) (-1))) _ _ s
  rw [places_rev]
  refine wpAny_pure ?_
  have hno : ¬ ((((items.size : Int) - 1) == 0 && (-1 : Int) == 1 && items.size == items.size) = true) := by simp
  show wpAny _ _ (if ((((items.size : Int) - 1) == 0 && (-1 : Int) == 1 && items.size == items.size) = true) then _ else _) _ _ s
  rw [if_neg hno, pick_rev]
  first
    | exact wpAny_bind (m := Builtin.Tuple.tupleExact _) (wpAny_newObj_type (wpAny_pure ⟨_, rfl, wpAny_pure h⟩) htake)
    | exact wpAny_bind (m := Builtin.Tuple.tupleExact _) (wpAny_newObj_type (wpAny_bind (wpAny_pure (wpAny_pure ⟨_, rfl, wpAny_pure h⟩))) htake)
    | exact wpAny_bind (wpAny_bind (m := Builtin.Tuple.tupleExact _) (wpAny_newObj_type (wpAny_pure (wpAny_pure ⟨_, rfl, wpAny_pure h⟩)) htake))
    | exact wpAny_bind (wpAny_bind (m := Builtin.Tuple.tupleExact _) (wpAny_newObj_type (wpAny_pure ⟨_, rfl, wpAny_pure h⟩) htake))
end
section
variable {X : Cx} {k : Ck} {F : Sem} {c : LC} {W : WX}
theorem Vals.rev {xs : List V} {us : List Value} (r : Vals xs us) : Vals xs.reverse us.reverse := r.reverse
theorem se_rev {a : Expr} {x : Ex} {kk : Nat} {p1 p2 p3 pos : Pos} (ha : PE X a (tE c W F x)) : PE X (.Subscript a (.Slice none none (some (.UnaryOp .USub (.Constant (.int 1) kk p1) p2)) p3) pos) (tE c W F (.rev x)) := by
  refine ⟨fun pins s σ H Q I ⟨ρ, M, Q', E', R0, w, g, t⟩ => ?_⟩
  refine Subscript_ (thn (ha.run pins s σ H _ I (tE_bind R0 w t (R := fun v H1 => ∃ d M1, revop d M1 (fun v => Q' v M1) ∧ Mono M H M1 H1 ∧ Rp c ρ M1 σ H1 ∧ Rep c.mg M1 H1 d v) fun d M1 v H1 w1 m1 R1 r1 => ⟨d, M1, w1, m1, R1, r1⟩)) fun v s1 ⟨y, H1, I1, r1, d, M1, w1, m1, R1, rr⟩ => ?_)
  have hst : PO X (some (.UnaryOp .USub (.Constant (.int 1) kk p1) p2)) (tPart (tUn (rU fun i => .int (-i)) (tC (.int 1)))) := po_some (pe_un un_neg pe_int)
  refine wpAny_Slice (thn (po_none.run pins s1 σ H1 (fun o H2 => o = none ∧ H2 = H1) I1 ⟨rfl, rfl⟩) fun vl s2 ⟨l, H2, I2, pl, el, e2⟩ => ?_)
  subst el e2
  refine thn (po_none.run pins s2 σ H2 (fun o H3 => o = none ∧ H3 = H2) I2 ⟨rfl, rfl⟩) fun vu s3 ⟨u, H3, I3, pu, eu, e3⟩ => ?_
  subst eu e3
  refine thn (hst.run pins s3 σ H3 (fun o H4 => o = some (-1) ∧ H4 = H3) I3 ⟨1, rfl, -1, rfl, rfl, rfl⟩) fun vs s4 ⟨o, H4, I4, ps, eo, e4⟩ => ?_
  subst eo e4
  have I5 : Inv X pins σ H4 { s4 with heap := s4.heap.push { cls := .type "slice", data := .fields #[vl, vu, vs] } } := I4.kept (t' := s4.toks) fun b ob q => Heap.get?_push_of_some _ q
  have gg := g.mono m1
  have lst : ∀ {d : D}, isTup d = false → Rep c.mg M1 H4 d y → (ob (seqM M1 d) fun xs => Q' (.lst xs.reverse) M1) →
      wpAny (model X.prog X.w) X.A (subscriptTail a (.Slice none none (some (.UnaryOp .USub (.Constant (.int 1) kk p1) p2)) p3) v (.ref s4.heap.objs.size)) (EP X pins σ Q) X.xe { s4 with heap := s4.heap.push { cls := .type "slice", data := .fields #[vl, vu, vs] } } := fun {d} ht rd w => by
    obtain ⟨xs, e, q⟩ := ob_some w
    obtain ⟨b, vs', eb, rs, hsq⟩ := lst_of R1.mem rd ht e
    subst eb
    cases r1
    obtain ⟨its, r, ht, hz⟩ := I5.list (.inl hsq)
    have hlen := r.length
    refine tail_any (ops := [.ref b, .ref s4.heap.objs.size]) ht.isList.typeIs (PySem.slot_list_getitem.lookup) ?_ (by with_unfolding_all rfl)
    refine wpAny_getItem_list_slice ht.isList (Heap.IsSliceOf.new _ vl vu vs) pl pu ps (by decide) ?_ (by rw [List.size_toArray]; omega)
    rw [PySem.W.krv_pick]
    refine ⟨.ref _, _, I5.laid (t' := s4.toks) (o := .lst vs'.reverse) (fun b ob q => Heap.get?_push_of_some _ q) (Nat.le_refl _) ?_, rfl, gg.lst R1.mem q rs.reverse (I5.hok.fresh (Nat.le_refl _))⟩
    exact ⟨by rw [List.length_reverse]; exact hz, _, 0, r.reverse, Heap.get?_push_size _ rfl⟩
  show wpAny (model X.prog X.w) X.A (subscriptTail a (.Slice none none (some (.UnaryOp .USub (.Constant (.int 1) kk p1) p2)) p3) v (.ref s4.heap.objs.size)) (EP X pins σ Q) X.xe { s4 with heap := s4.heap.push { cls := .type "slice", data := .fields #[vl, vu, vs] } }
  cases d with
  | tup xs =>
    obtain ⟨b, vs', eb, _, hsq, rs⟩ := rr
    subst eb
    cases r1
    cases pl
    cases pu
    cases ps with
    | int _ u =>
    obtain ⟨its, r, ht, hz⟩ := I5.tuple (SqT.of hsq)
    have hlen := r.length
    refine tail_any (ops := [.ref b, .ref s4.heap.objs.size]) ht.typeIs (PyProof.Rows.slot_tuple_getitem.lookup) ?_ (by with_unfolding_all rfl)
    refine getItem_tuple_rev ht (Heap.IsSliceOf.new _ _ _ _) ?_ (by rw [List.size_toArray]; omega)
    refine ⟨.ref _, _, I5.laid (t' := s4.toks) (o := .tup vs'.reverse) (fun b ob q => Heap.get?_push_of_some _ q) (Nat.le_refl _) ?_, rfl, gg.tup R1.mem w1 rs.reverse (I5.hok.fresh (Nat.le_refl _))⟩
    exact ⟨by rw [List.length_reverse]; exact hz, _, r.reverse, IsTup.new _ _⟩
  | lst xs => exact lst rfl rr w1
  | ref b => exact lst rfl rr w1
  | _ => exact w1.elim
end
end Dee

set_option Elab.async false
set_option linter.all false
set_option autoImplicit false
set_option maxRecDepth 100000
set_option maxHeartbeats 1000000
/-! Dee: exceptions as values; every expression. -/
namespace Dee
open PySem PySem.Spec PyProof.Rows L2
section
variable {prog : Program} {w : World} {A : Around} {E : Value → Shared → Prop} {s : Shared}
/-- isinstance(x, T) where x's class is under T -/
theorem isi_under {K : PySem.W.Frag} {x cls : Value} {T : String} {Q : Value → Shared → Prop} (X : K.In s.heap) (hne : (cls == Value.type T) = false) (hx : PySem.W.Looks (model prog w) s.heap (typeOf x) cls) (hty : typeOf (.type T) = pure (.type "type"))
    (hsub : PySem.W.Looks (model prog w) s.heap (isSubtype cls (.type T)) true) (hnb : x ≠ .builtin "__main__.__loader__#opaque") (h : Q (.bool true) s) : wpAny (model prog w) A (call (.builtin "isinstance") [x, .type T]) Q E s := by
  refine call_isinstance_of ?_ hnb
  unfold Builtin.«isinstance.nested»
  refine wpAny_bind (hx.at ?_)
  rw [hne, if_neg Bool.false_ne_true]
  refine wpAny_bind (m := typeOf (.type T)) (wpAny_of_eq hty ?_)
  rw [if_pos (by decide)]
  refine wpAny_bind (wpAny_bind (m := isType (.type T)) (wpAny_pure (a := true) ?_))
  have LI : PySem.W.Looks (model prog w) s.heap (isInstance x (.type T)) true := hx.andThen hsub
  refine wpAny_bind (LI.at ?_)
  exact wpAny_pure (a := true) (wpAny_pure h)
end
section
variable {X : Cx} {k : Ck} {F : Sem} {c : LC} {W : WX}
theorem ve_type : typeOf (.type "ValueError") = pure (.type "type") := PySem.OEX.typ_VE
theorem call_isV {X0 : Cx} {a D : Addr} {oe : Obj} {pn : List (Addr × Obj)} {d : Option Addr} (hs : PySem.W.subIn X0.K (.ref D) (.type "ValueError") = some true) (hz : Zc (.ref D) d oe) :
    CallR (L2.Cx.suite X0 a ((a, oe) :: pn)) (.builtin "isinstance") (fun xs H Q => xs = [.ref a, .ty "ValueError"] ∧ Q (.bl true) H) := by
  intro pins s σ H xs us Q I r h
  obtain ⟨rfl, q⟩ := h
  obtain ⟨u1, u2, rfl, r1, r2⟩ := vals2 r
  cases (show u1 = Value.ref a from r1)
  cases (show u2 = Value.type "ValueError" from r2)
  obtain ⟨hget, _⟩ := I.pin (a, oe) (List.mem_append.mpr (.inl List.mem_cons_self))
  refine isi_under I.kIn (cls := .ref D) rfl (fun A Q E s k q => wpAny_typeOf_ref (k _ _ hget) (by rw [hz.1]; exact q)) ve_type (PySem.W.looks_subIn I.kIn hs) (fun z => nomatch z) ⟨.bl true, H, I, rfl, q⟩
theorem boot_VE : bootBuiltins "ValueError" = some (.type "ValueError") := by decide +kernel
/-- the suite's exception -/
theorem xs_var (O : Okc X k F c W) {x : Str} {p : Nat × Str} {i : Nat} {a : Addr} {cls : Value} {d : Option Addr} {ε : Exn} {pos} (hx : c.xi = some (i, a, cls, d, ε)) (hp : k.xs = some p) (hv : k.vis p.1 x = true) :
    PE X (.Name x pos) (fun σ H Q => σ[i]? = some (some (.ref a)) ∧ Q (.ref a) H) := by
  obtain ⟨nm, e⟩ := O.xs _ _ _ _ _ hx
  rw [hp] at e
  cases e
  obtain ⟨h1, h2, h3, h4⟩ := O.vis hv
  exact PE.imp (pe_var h1 h2 h3 h4) fun σ H Q ⟨h, q⟩ => ⟨_, h, q⟩
theorem se_xfld (O : Okc X k F c W) {x y : Str} {p : Nat × Str} {f : String} {p1 pos} (hp : k.xs = some p) (hv : k.vis p.1 x = true) (hy : y = Str.ofString f) : PE X (.Attribute (.Name x p1) y pos) (tE c W F (.xfld f)) := by
  refine ⟨fun pins s σ H Q I ⟨ρ, M, Q', E', R, w, g, t⟩ => ?_⟩
  obtain ⟨ε, e1, w⟩ := ob_some w
  obtain ⟨fs, hxf, hmem, w⟩ := ob_some w
  obtain ⟨v, e2, w⟩ := ob_some w
  obtain ⟨i, a, cls, d, hx⟩ := O.cur ε e1
  obtain ⟨X0, pn, oe, rfl, hz, hf⟩ := O.sui i a cls d ε hx
  obtain ⟨hi, hm, hr⟩ := R.xi i a cls d ε hx
  obtain ⟨C, T⟩ := O.xf ε.C fs hxf
  have hm2 := T.at_
  rw [O.mg] at hm
  rw [hm] at hm2
  cases hm2
  subst hy
  refine (pe_xf T.xc (T.no f hmem) hz hf (xs_var O hx hp hv)).run pins s σ H Q I ?_
  rcases hr with hr | ⟨dd, ws, e3, hn, hd, hl⟩
  · rw [hr] at e2; cases e2
  · obtain ⟨u, l, ru⟩ := hl f v e2
    exact ⟨hi, rfl, rfl, dd, ws, u, e3, hd, l, g.now R.mem w ru⟩
theorem se_xisi (O : Okc X k F c W) {x : Str} {p : Nat × Str} {p0 p1 p2 pos} (hp : k.xs = some p) (hv : k.vis p.1 x = true) (hg : k.glo "isinstance" = true) (hy : k.glo "ValueError" = true) :
    PE X (.Call (.Name "isinstance" p0) [.Name x p1, .Name "ValueError" p2] [] pos) (tE c W F .xisi) := by
  refine ⟨fun pins s σ H Q I ⟨ρ, M, Q', E', R, w, g, t⟩ => ?_⟩
  obtain ⟨ε, e1, hxf, w⟩ := ob_some w
  obtain ⟨i, a, cls, d, hx⟩ := O.cur ε e1
  obtain ⟨X0, pn, oe, rfl, hz, hf⟩ := O.sui i a cls d ε hx
  obtain ⟨hi, hm, hr⟩ := R.xi i a cls d ε hx
  obtain ⟨fs, hxf⟩ := Option.isSome_iff_exists.mp hxf
  obtain ⟨C, T⟩ := O.xf ε.C fs hxf
  have hm2 := T.at_
  rw [O.mg] at hm
  rw [hm] at hm2
  cases hm2
  obtain ⟨gl, hdb, hn⟩ := O.glo hg
  obtain ⟨gl2, hdb2, hn2⟩ := O.glo hy
  have as : PA (L2.Cx.suite X0 a ((a, oe) :: pn)) [.Name x p1, .Name "ValueError" p2] _ := pa_cons (xs_var O hx hp hv) (pa_cons (pe_bltn (v := .ty "ValueError") gl2 (O.blt _ (by decide)) boot_VE rfl hn2 hdb2) pa_nil rfl) rfl
  refine (pe_callB (call_isV T.ve hz) gl (O.blt _ (by decide)) boot_isi as hn hdb rfl rfl).run pins s σ H Q I ?_
  exact ⟨hi, rfl, g.now R.mem w rfl⟩
/-! ### every expression -/
/-- as a value and as a test -/
def Both (X : Cx) (c : LC) (W : WX) (F : Sem) (x : Ex) (e : Expr) : Prop := PE X e (tE c W F x) ∧ (isIf e = false → PT X e (tT c W F x))
theorem both {x : Ex} {e : Expr} (h : PE X e (tE c W F x)) (he : ∀ whole, isTrue e X.env whole = (do let v ← whole; standAt e.pos; holding [v] (truthy v))) : Both X c W F x e := ⟨h, fun _ => PT.imp (pt_val h he) fun _ _ _ q => q⟩
theorem band {a b : Bool} (h : (a && b) = true) : a = true ∧ b = true := Bool.and_eq_true_iff.mp h
theorem bnot {a : Bool} (h : (!a) = true) : a = false := by simpa using h
theorem oneCs {cs : List Ex} {ifs : List Expr} {X : Cx} {c : LC} (h : Bs X c W0 F cs ifs) (hl : cs.length ≤ 1) : PTs X ifs (tCs c F cs) := by
  match cs, h with
  | [], h => cases (show ifs = [] from h); exact sts_nil
  | [x], ⟨e, r, q, _, h2, h3⟩ => cases (show r = [] from h3); subst q; exact sts_one h2
  | _ :: _ :: _, _ => simp at hl
/-- each as a value -/
def Ps (X : Cx) (c : LC) (W : WX) (F : Sem) : List Ex → List Expr → Prop
  | [], es => es = []
  | x :: xs, es => ∃ e r, es = e :: r ∧ PE X e (tE c W F x) ∧ Ps X c W F xs r
theorem sI (O : Okc X k F c W) {ik : Ik} {t : Tg} {tg it : Expr} {es : List Ex} {as : List Expr} (h : itArgs k ik it = some as) (ht : tupTg ik t = true) (hp : Ps X c W F es as) (ha : PA X as (tA c W F es)) (hs : noStars as = true) (hl : es.length = as.length) :
    PI X tg it (tI c W F ik es) ∧ isSet it = false := by
  cases ik with
  | seq =>
    simp only [itArgs] at h
    split at h
    · cases h
    · rename_i hn
      cases h
      have hn : isSet it = false ∧ isStar it = false := by simpa using hn
      match es, hp with
      | [x], ⟨e, r, q, h1, h2⟩ => cases q; exact ⟨si_seq h1, hn.1⟩
      | [], q => cases q
      | _ :: _ :: _, ⟨e, r, q, h1, e2, r2, q2, _⟩ => cases q; cases q2
  | rng =>
    simp only [itArgs] at h
    split at h <;> first | (cases h; done) | skip
    split at h <;> first | (cases h; done) | skip
    rename_i hc
    cases h
    obtain ⟨hc, h3⟩ := band hc
    obtain ⟨hc, h2⟩ := band hc
    obtain ⟨h0, h1⟩ := band hc
    cases (beq_iff_eq.mp h1)
    exact ⟨si_rng O h0 ha hs (of_decide_eq_true h2) (of_decide_eq_true h3) hl, rfl⟩
  | enm => cases t <;> cases ht
  | zip => cases t <;> cases ht
mutual
theorem sE : ∀ (x : Ex) {X : Cx} {k : Ck} {c : LC} {W : WX} (_ : Okc X k F c W) {e : Expr}, chkE k x e = true → Both X c W F x e
  | .var i, X, k, c, W, O, e, h => by
    unfold chkE at h
    split at h <;> first | (cases h; done) | skip
    exact both (se_var O h) fun _ => rfl
  | .int i, X, k, c, W, O, e, h => by
    unfold chkE at h
    split at h <;> first | (cases h; done) | skip
    cases (beq_iff_eq.mp h)
    exact both se_int fun _ => rfl
  | .str i, X, k, c, W, O, e, h => by
    unfold chkE at h
    split at h <;> first | (cases h; done) | skip
    cases (beq_iff_eq.mp h)
    exact both se_str fun _ => rfl
  | .bl i, X, k, c, W, O, e, h => by
    unfold chkE at h
    split at h <;> first | (cases h; done) | skip
    cases (beq_iff_eq.mp h)
    exact both se_bl fun _ => rfl
  | .non, X, k, c, W, O, e, h => by
    unfold chkE at h
    split at h <;> first | (cases h; done) | skip
    exact both se_non fun _ => rfl
  | .glb _, X, k, c, W, O, e, h => by cases h
  | .tup es, X, k, c, W, O, e, h => by
    unfold chkE at h
    split at h <;> first | (cases h; done) | skip
    obtain ⟨h1, h2⟩ := band h
    exact both (se_tup (sEs es O h1).1 (of_decide_eq_true h2)) fun _ => rfl
  | .lst m es, X, k, c, W, O, e, h => by
    unfold chkE at h
    split at h <;> first | (cases h; done) | skip
    obtain ⟨h1, h2⟩ := band h
    exact both (se_lst (sEs es O h1).1 (of_decide_eq_true h2)) fun _ => rfl
  | .dnew m t kvs, X, k, c, W, O, e, h => by
    unfold chkE at h
    split at h <;> first | (cases h; done) | skip
    cases kvs with
    | nil => exact both se_dnew fun _ => rfl
    | cons _ _ => cases h
  | .bin o a b, X, k, c, W, O, e, h => by
    unfold chkE at h
    split at h <;> first | (cases h; done) | skip
    obtain ⟨h, h3⟩ := band h
    obtain ⟨h1, h2⟩ := band h
    cases (eqOp_ok h1)
    exact both (se_bin (sE a O h2).1 (sE b O h3).1) fun _ => rfl
  | .neg a, X, k, c, W, O, e, h => by
    unfold chkE at h
    split at h <;> first | (cases h; done) | skip
    exact both (se_neg (sE a O h).1) fun _ => rfl
  | .cmp o a b, X, k, c, W, O, e, h => by
    unfold chkE at h
    split at h <;> first | (cases h; done) | skip
    obtain ⟨h, h3⟩ := band h
    obtain ⟨h, h2⟩ := band h
    obtain ⟨h0, h1⟩ := band h
    cases (eqCop_ok h0)
    exact ⟨se_cmp O (sE a O h2).1 (sE b O h3).1 (bnot h1), fun _ => st_cmp O (sE a O h2).1 (sE b O h3).1 (bnot h1)⟩
  | .chain o o2 a b d, X, k, c, W, O, e, h => by
    unfold chkE at h
    split at h <;> first | (cases h; done) | skip
    obtain ⟨h, h5⟩ := band h
    obtain ⟨h, h4⟩ := band h
    obtain ⟨h, h3⟩ := band h
    obtain ⟨h, h2⟩ := band h
    obtain ⟨h0, h1⟩ := band h
    cases (eqCop_ok h0)
    cases (eqCop_ok h1)
    exact ⟨se_chain O (sE a O h3).1 (sE b O h4).1 (sE d O h5).1 (bnot h2), fun _ => st_chain O (sE a O h3).1 (sE b O h4).1 (sE d O h5).1 (bnot h2)⟩
  | .isN n a, X, k, c, W, O, e, h => by
    unfold chkE at h
    split at h <;> first | (cases h; done) | skip
    obtain ⟨h1, h2⟩ := band h
    have ha := (sE a O h2).1
    split at h1
    · cases (bnot h1)
      exact ⟨pe_cmp (sc_isN ha) rfl, fun _ => PT.imp (pt_cmp (sc_isN ha) rfl) fun _ _ _ q => q⟩
    · cases h1
      exact ⟨pe_cmp (sc_notN ha) rfl, fun _ => PT.imp (pt_cmp (sc_notN ha) rfl) fun _ _ _ q => q⟩
    · cases h1
  | .and es, X, k, c, W, O, e, h => by
    unfold chkE at h
    split at h <;> first | (cases h; done) | skip
    obtain ⟨h1, h2⟩ := band h
    have hne : es ≠ [] := by rintro rfl; cases h2
    have hb := sBs es O h1
    exact ⟨se_and hb hne, fun _ => (sw_and hb hne).pt⟩
  | .or es, X, k, c, W, O, e, h => by
    unfold chkE at h
    split at h <;> first | (cases h; done) | skip
    obtain ⟨h1, h2⟩ := band h
    have hne : es ≠ [] := by rintro rfl; cases h2
    have hb := sBs es O h1
    exact ⟨se_or hb hne, fun _ => (sw_or hb hne).pt⟩
  | .not a, X, k, c, W, O, e, h => by
    unfold chkE at h
    split at h <;> first | (cases h; done) | skip
    obtain ⟨h1, h2⟩ := band h
    exact ⟨se_not (sE a O h1).1, fun _ => st_not ((sE a O h1).2 (bnot h2))⟩
  | .ifx d a b, X, k, c, W, O, e, h => by
    unfold chkE at h
    split at h <;> first | (cases h; done) | skip
    obtain ⟨h, h4⟩ := band h
    obtain ⟨h, h3⟩ := band h
    obtain ⟨h1, h2⟩ := band h
    exact ⟨se_ifx ((sE d O h1).2 (bnot h2)) (sE a O h3).1 (sE b O h4).1, fun z => nomatch z⟩
  | .sub a i, X, k, c, W, O, e, h => by
    unfold chkE at h
    split at h <;> first | (cases h; done) | skip
    obtain ⟨h, h3⟩ := band h
    obtain ⟨h1, h2⟩ := band h
    exact both (se_sub O h1 (sE a O h2).1 (sE i O h3).1) fun _ => rfl
  | .slc a lo hi, X, k, c, W, O, e, h => by
    unfold chkE at h
    split at h <;> first | (cases h; done) | skip
    obtain ⟨h, h3⟩ := band h
    obtain ⟨h1, h2⟩ := band h
    exact both (se_slc (sE a O h1).1 (sO lo O h2) (sO hi O h3)) fun _ => rfl
  | .rev a, X, k, c, W, O, e, h => by
    unfold chkE at h
    split at h <;> first | (cases h; done) | skip
    obtain ⟨h1, h2⟩ := band h
    cases (of_decide_eq_true h1)
    exact both (se_rev (sE a O h2).1) fun _ => rfl
  | .fld _ _, X, k, c, W, O, e, h => by cases h
  | .call f es, X, k, c, W, O, e, h => by
    unfold chkE at h
    split at h <;> first | (cases h; done) | skip
    rename_i xn q1 es' q2
    obtain ⟨h, h5⟩ := band h
    obtain ⟨h, h4⟩ := band h
    obtain ⟨h, h3⟩ := band h
    obtain ⟨h1, h2⟩ := band h
    split at h3
    · rename_i p hp
      cases (beq_iff_eq.mp h3)
      obtain ⟨p1, p2, p3, _⟩ := sEs es O h4
      cases es' with
      | nil =>
        cases es with
        | nil => cases h5
        | cons _ _ => simp at p3
      | cons e1 es' =>
        obtain ⟨q1, q2⟩ := band (show (!isStar e1 && noStars es') = true from p2)
        exact both (se_call O (bnot h1) h2 hp p1 (bnot q1) q2) fun _ => rfl
    · cases h3
  | .mk _ _, X, k, c, W, O, e, h => by cases h
  | .bi b m es, X, k, c, W, O, e, h => by
    unfold chkE at h
    split at h <;> first | (cases h; done) | skip
    rename_i xn q1 es' q2
    obtain ⟨h, h6⟩ := band h
    obtain ⟨h, h5⟩ := band h
    obtain ⟨h, h4⟩ := band h
    obtain ⟨h, h3⟩ := band h
    obtain ⟨h1, h2⟩ := band h
    cases (beq_iff_eq.mp h4)
    obtain ⟨p1, p2, p3, _⟩ := sEs es O h5
    cases es' with
    | nil =>
      cases es with
      | nil => cases h6
      | cons _ _ => simp at p3
    | cons e1 es' =>
      obtain ⟨q1, q2⟩ := band (show (!isStar e1 && noStars es') = true from p2)
      exact both (se_bi O (bnot h1) h2 h3 p1 (bnot q1) q2) fun _ => rfl
  | .mth m a es, X, k, c, W, O, e, h => by
    unfold chkE at h
    split at h <;> first | (cases h; done) | skip
    obtain ⟨h, h8⟩ := band h
    obtain ⟨h, h7⟩ := band h
    obtain ⟨h, h6⟩ := band h
    obtain ⟨h, h5⟩ := band h
    obtain ⟨h, h4⟩ := band h
    obtain ⟨h, h3⟩ := band h
    obtain ⟨h, h2⟩ := band h
    obtain ⟨h0, h1⟩ := band h
    cases (beq_iff_eq.mp h2)
    obtain ⟨p1, p2, p3, _⟩ := sEs es O h6
    exact both (se_mth O h1 (sE a O h5).1 p1 (bnot h4) p2 (by rw [← p3]; exact of_decide_eq_true h7) h3 (fun z => by subst z; exact List.length_eq_zero_iff.mp p3)) fun _ => rfl
  | .omth _ _ _ _, X, k, c, W, O, e, h => by cases h
  | .isi a ts, X, k, c, W, O, e, h => by
    unfold chkE at h
    split at h <;> first | (cases h; done) | skip
    obtain ⟨h, h5⟩ := band h
    obtain ⟨h, h4⟩ := band h
    obtain ⟨h, h3⟩ := band h
    obtain ⟨h1, h2⟩ := band h
    cases (beq_iff_eq.mp h2)
    split at h5 <;> first | (cases h5; done) | skip
    obtain ⟨h6, h7⟩ := band h5
    cases (beq_iff_eq.mp h7)
    exact both (se_isi O h1 h6 (bnot h3) (sE a O h4).1) fun _ => rfl
  | .comp m e1 t ik es cs, X, k, c, W, O, e, h => by
    unfold chkE at h
    split at h <;> first | (cases h; done) | skip
    obtain ⟨h, h7⟩ := band h
    obtain ⟨h, h6⟩ := band h
    obtain ⟨h, h5⟩ := band h
    obtain ⟨h, h4⟩ := band h
    obtain ⟨h, h3⟩ := band h
    obtain ⟨h1, h2⟩ := band h
    split at h2 <;> first | (cases h2; done) | skip
    rename_i as has
    split at h4 <;> first | (cases h4; done) | skip
    rename_i own hown
    obtain ⟨h8, h9⟩ := band h4
    obtain ⟨p1, p2, p3, p4⟩ := sEs es O h2
    obtain ⟨q1, q2⟩ := sI (t := t) O has h3 p4 p1 p2 p3
    exact both (se_comp O (bnot h1) q1 hown h8 q2 fun X' c' O' => ⟨sg O' h9, oneCs (sBs cs O' h5) (of_decide_eq_true h6), (sE e1 O' h7).1⟩) fun _ => rfl
  | .lam _, X, k, c, W, O, e, h => by cases h
  | .clo _, X, k, c, W, O, e, h => by cases h
  | .xfld f, X, k, c, W, O, e, h => by
    unfold chkE at h
    split at h <;> first | (cases h; done) | skip
    obtain ⟨h1, h2⟩ := band h
    split at h1
    · rename_i p hp
      obtain ⟨h3, h4⟩ := band h1
      cases (beq_iff_eq.mp h3)
      exact both (se_xfld O hp h4 (beq_iff_eq.mp h2)) fun _ => rfl
    · cases h1
  | .xisi, X, k, c, W, O, e, h => by
    unfold chkE at h
    split at h <;> first | (cases h; done) | skip
    obtain ⟨h, h5⟩ := band h
    obtain ⟨h, h4⟩ := band h
    obtain ⟨h, h3⟩ := band h
    obtain ⟨h1, h2⟩ := band h
    cases (beq_iff_eq.mp h3)
    cases (beq_iff_eq.mp h5)
    split at h1
    · rename_i p hp
      obtain ⟨h6, h7⟩ := band h1
      cases (beq_iff_eq.mp h6)
      exact both (se_xisi O hp h7 h2 h4) fun _ => rfl
    · cases h1
  | .fstr _, X, k, c, W, O, e, h => by cases h
theorem sEs : ∀ (xs : List Ex) {X : Cx} {k : Ck} {c : LC} {W : WX} (_ : Okc X k F c W) {es : List Expr}, chkEs k xs es = true → PA X es (tA c W F xs) ∧ noStars es = true ∧ xs.length = es.length ∧ Ps X c W F xs es
  | [], X, k, c, W, O, [], h => ⟨sa_nil, rfl, rfl, rfl⟩
  | [], _, _, _, _, _, _ :: _, h => by cases h
  | _ :: _, _, _, _, _, _, [], h => by cases h
  | x :: xs, X, k, c, W, O, e :: es, h => by
    unfold chkEs at h
    obtain ⟨h, h3⟩ := band h
    obtain ⟨h1, h2⟩ := band h
    obtain ⟨p1, p2, p3, p4⟩ := sEs xs O h3
    have hx := (sE x O h1).1
    exact ⟨sa_cons hx p1 (star_cons (bnot h2)), by unfold noStars at p2 ⊢; rw [List.all_cons, h2, p2] <;> rfl, by simp [p3], e, es, rfl, hx, p4⟩
theorem sBs : ∀ (xs : List Ex) {X : Cx} {k : Ck} {c : LC} {W : WX} (_ : Okc X k F c W) {es : List Expr}, chkBs k xs es = true → Bs X c W F xs es
  | [], X, k, c, W, O, [], h => rfl
  | [], _, _, _, _, _, _ :: _, h => by cases h
  | _ :: _, _, _, _, _, _, [], h => by cases h
  | x :: xs, X, k, c, W, O, e :: es, h => by
    unfold chkBs at h
    obtain ⟨h, h3⟩ := band h
    obtain ⟨h1, h2⟩ := band h
    have hx := sE x O h1
    exact ⟨e, es, rfl, hx.1, hx.2 (bnot h2), sBs xs O h3⟩
theorem sO : ∀ (x : Option Ex) {X : Cx} {k : Ck} {c : LC} {W : WX} (_ : Okc X k F c W) {e : Option Expr}, chkO k x e = true → PO X e (tO c W F x)
  | none, X, k, c, W, O, none, h => so_none
  | none, _, _, _, _, _, some _, h => by cases h
  | some _, _, _, _, _, _, none, h => by cases h
  | some x, X, k, c, W, O, some e, h => so_some (sE x O h).1
end
end
end Dee

set_option Elab.async false
set_option linter.all false
set_option autoImplicit false
set_option maxRecDepth 100000
set_option maxHeartbeats 1000000
/-! Dee: statements. -/
namespace Dee
open PySem PySem.Spec PyProof.Rows L2
/-- the ends of a statement -/
structure EO (c : LC) (W : WX) (M : Mem) (H : Hp) (D' : Dee.Ends) (D : L2.Ends) : Prop where
  nx : ∀ ρ' M' σ' H', D'.nx ρ' M' → Mono M H M' H' → Rp c ρ' M' σ' H' → D.nx σ' H'
  rt : ∀ d M' v H', D'.rt d M' → Mono M H M' H' → MRep c.mg M' H' → Rep c.mg M' H' d v → D.rt v H'
  bk : ∀ ρ' M' σ' H', D'.bk ρ' M' → Mono M H M' H' → Rp c ρ' M' σ' H' → D.bk σ' H'
  ct : ∀ ρ' M' σ' H', D'.ct ρ' M' → Mono M H M' H' → Rp c ρ' M' σ' H' → D.ct σ' H'
  ex : ∀ ε ρ' M' cls d σ' H', D'.ex ε ρ' M' → Mono M H M' H' → Rp c ρ' M' σ' H' → RepX c M' H' ε cls d → W cls d σ' H'
theorem EO.mono {c : LC} {W : WX} {M M1 : Mem} {H H1 : Hp} {D' : Dee.Ends} {D : L2.Ends} (g : EO c W M H D' D) (m : Mono M H M1 H1) : EO c W M1 H1 D' D :=
  ⟨fun _ _ _ _ q m1 => g.nx _ _ _ _ q (m.trans m1), fun _ _ _ _ q m1 => g.rt _ _ _ _ q (m.trans m1), fun _ _ _ _ q m1 => g.bk _ _ _ _ q (m.trans m1), fun _ _ _ _ q m1 => g.ct _ _ _ _ q (m.trans m1), fun _ _ _ _ _ _ _ q m1 => g.ex _ _ _ _ _ _ _ q (m.trans m1)⟩
theorem EO.thr {c : LC} {W : WX} {M : Mem} {H : Hp} {D' : Dee.Ends} {D : L2.Ends} {ρ : Env} {σ : L2.St} (g : EO c W M H D' D) (R : Rp c ρ M σ H) : Throws c (fun cls d H' => W cls d σ H') M H (D'.x ρ) :=
  fun ε M' cls d H' q m mr rx => g.ex ε ρ M' cls d σ H' q m (R.mono m mr) rx
def tS (c : LC) (W : WX) (F : Sem) (s : St) : TS := fun D σ H => ∃ ρ M D', Rp c ρ M σ H ∧ wS F s ρ M D' ∧ EO c W M H D' D
def tSs (c : LC) (W : WX) (F : Sem) (s : List St) : TS := fun D σ H => ∃ ρ M D', Rp c ρ M σ H ∧ wSs F s ρ M D' ∧ EO c W M H D' D
theorem PS.imp {X : Cx} {e : Stmt} {t t' : TS} (h : PS X e t) (i : ∀ D σ H, t' D σ H → t D σ H) : PS X e t' := ⟨fun pins s σ H D I q => h.run pins s σ H D I (i _ _ _ q)⟩
theorem PSs.imp {X : Cx} {e : List Stmt} {t t' : TS} (h : PSs X e t) (i : ∀ D σ H, t' D σ H → t D σ H) : PSs X e t' := ⟨fun pins s σ H D I q => h.run pins s σ H D I (i _ _ _ q)⟩
structure OkS (X : Cx) (k : Ck) (F : Sem) (c : LC) (W : WX) : Prop where
  O : Okc X k F c W
  kind : X.env.scope.kind = .function
  po : k.hot = false → PassesOwn (model X.prog X.w) X.A X.env X.xe
  stk : k.hot = false → X.stack = X.env :: X.outer ∧ X.env.frame = some X.env.locals
section
variable {X : Cx} {k : Ck} {F : Sem} {c : LC} {W : WX}
theorem noComp_swaps {e : Expr} {t : Option Expr} {l : Nat} {env : PySem.Env} (h : noComp e = true) : swapsWith e t l env = pure false := by
  cases e <;> first | rfl | cases h
theorem sole_ok {t e : Expr} {l : Nat} {env : PySem.Env} (h : noComp e = true) : swapsWithSole [t] e l env = pure false := by
  cases e <;> first | rfl | cases h
theorem noSwap_st {t e : Expr} {env : PySem.Env} (h : noSwap t e = true) : swappedStores [t] e env = pure none := by
  cases t <;> cases e <;> first | rfl | cases h
theorem ss_nil : PSs X [] (tSs c W F []) := PSs.imp pss_nil fun D σ H ⟨ρ, M, D', R, w, g⟩ => g.nx ρ M σ H w (Mono.refl _ _) R
theorem ss_cons {s : Stmt} {ss : List Stmt} {x : St} {xs : List St} (h1 : PS X s (tS c W F x)) (h2 : PSs X ss (tSs c W F xs)) : PSs X (s :: ss) (tSs c W F (x :: xs)) := by
  refine PSs.imp (pss_cons h1 h2) fun D σ H ⟨ρ, M, D', R, w, g⟩ => ?_
  exact ⟨ρ, M, _, R, w, ⟨fun ρ' M' σ' H' q m R' => ⟨ρ', M', D', R', q, g.mono m⟩, g.rt, g.bk, g.ct, g.ex⟩⟩
theorem st_ret {e : Expr} {x : Ex} {pos} (h : PE X e (tE c W F x)) : PS X (.Return (some e) pos) (tS c W F (.ret x)) :=
  PS.imp (ps_ret h) fun D σ H ⟨ρ, M, D', R, w, g⟩ => ⟨ρ, M, D'.rt, _, R, w, fun d M' v H' q m mr r => g.rt d M' v H' q m mr r, g.thr R⟩
theorem st_retN {pos} : PS X (.Return none pos) (tS c W F .retN) := PS.imp ps_retN fun D σ H ⟨ρ, M, D', R, w, g⟩ => g.rt .non M .non H w (Mono.refl _ _) R.mem rfl
theorem st_brk {pos} : PS X (.Break pos) (tS c W F .brk) := PS.imp ps_break fun D σ H ⟨ρ, M, D', R, w, g⟩ => g.bk ρ M σ H w (Mono.refl _ _) R
theorem st_cont {pos} : PS X (.Continue pos) (tS c W F .cont) := PS.imp ps_continue fun D σ H ⟨ρ, M, D', R, w, g⟩ => g.ct ρ M σ H w (Mono.refl _ _) R
theorem st_pass {pos} : PS X (.Pass pos) (tS c W F .pass) := PS.imp ps_pass fun D σ H ⟨ρ, M, D', R, w, g⟩ => g.nx ρ M σ H w (Mono.refl _ _) R
theorem st_expr {e : Expr} {x : Ex} {pos} (h : PE X e (tE c W F x)) (hn : noComp e = true) : PS X (.Expr e pos) (tS c W F (.expr x)) :=
  PS.imp (ps_expr h (noComp_swaps hn)) fun D σ H ⟨ρ, M, D', R, w, g⟩ => tE_bind R w (g.thr R) fun d M1 v H1 w1 m1 R1 _ => g.nx ρ M1 σ H1 w1 m1 R1
theorem st_asg {tg e : Expr} {t : Tg} {x : Ex} {pos} (hg : PG X tg (tG c t)) (hc : ∀ env : PySem.Env, assignEach [tg] env = [(false, assign tg env)]) (h : PE X e (tE c W F x)) (hn : noComp e = true) (hs : noSwap tg e = true) : PS X (.Assign [tg] e pos) (tS c W F (.asg t x)) := by
  refine PS.imp (ps_asg h hg (noComp_swaps hn) (noSwap_st hs) (by rw [hc] <;> rfl)) fun D σ H ⟨ρ, M, D', R, w, g⟩ => ?_
  exact tE_bind R w (g.thr R) fun d M1 v H1 w1 m1 R1 r1 => ⟨ρ, M1, d, _, R1, r1, w1, fun ρ' σ' w' R' _ => g.nx ρ' M1 σ' H1 w' m1 R'⟩
theorem st_asub (O : Okc X k F c W) {o i e : Expr} {x y z : Ex} {p1 pos} (hs : noSlice i = true) (hn : noComp e = true) (ho : PE X o (tE c W F x)) (hi : PE X i (tE c W F y)) (h : PE X e (tE c W F z)) : PS X (.Assign [.Subscript o i p1] e pos) (tS c W F (.asub x y z)) := by
  have ha : ∀ v, assign (.Subscript o i p1) X.env v = (do
      let ov ← holding [v] (eval o X.env)
      let iv ← holding [v, ov] (eval i X.env)
      standAt p1
      holding [v, ov, iv] (setItem ov iv v)
      release [v, ov, iv] []) := fun v => by cases i <;> first | rfl | cases hs
  refine PS.imp (ps_asg h (pg_sub ho hi (set_all (c := c) O.un) ha) (sole_ok hn) (by cases e <;> rfl) rfl) fun D σ H ⟨ρ, M, D', R, w, g⟩ => ?_
  refine tE_bind R w (g.thr R) fun d1 M1 v1 H1 w1 m1 R1 r1 => tE_bind R1 w1 ((g.thr R).mono m1) fun d2 M2 v2 H2 w2 m2 R2 r2 => tE_bind R2 w2 (((g.thr R).mono m1).mono m2) fun d3 M3 v3 H3 w3 m3 R3 r3 => ?_
  exact ⟨d2, d3, d1, M3, _, R3.mem, r2.mono m3, r3, (r1.mono m2).mono m3, w3, fun M' H' q m mr => g.nx ρ M' σ H' q (((m1.trans m2).trans m3).trans m) (R3.mono m mr)⟩
theorem st_if {d : Expr} {a b : List Stmt} {x : Ex} {xs ys : List St} {pos} (hd : PT X d (tT c W F x)) (ha : PSs X a (tSs c W F xs)) (hb : PSs X b (tSs c W F ys)) : PS X (.If d a b pos) (tS c W F (.ifs x xs ys)) := by
  refine PS.imp (ps_if hd ha hb) fun D σ H ⟨ρ, M, D', R, w, g⟩ => ?_
  refine tT_bind R w (g.thr R) fun b M1 H1 q m1 R1 => ?_
  cases b with
  | true => exact ⟨ρ, M1, D', R1, q, g.mono m1⟩
  | false => exact ⟨ρ, M1, D', R1, q, g.mono m1⟩
theorem st_for (hp : PassesOwn (model X.prog X.w) X.A X.env X.xe) (hc : X.calm = true) {tg it : Expr} {b : List Stmt} {t : Tg} {ik : Ik} {es : List Ex} {xs : List St} {pos} (hi : PI X tg it (tI c W F ik es)) (hg : PG X tg (tG c t)) (hb : PSs X b (tSs c W F xs)) (hs : isSet it = false) :
    PS X (.For tg it b [] pos) (tS c W F (.for t ik es xs)) := by
  have fs : ∀ x, foldedSetIterable it X.env x = pure x := fun x => by cases it <;> first | rfl | cases hs
  refine PS.imp (ps_for hp hc hi hg hb fs) fun D σ H ⟨ρ, M, D', R, w, g⟩ => ?_
  refine ⟨ρ, M, _, _, R, w, fun ds M1 H1 J q m1 mr1 wk => ?_, g.thr R⟩
  have R1 := R.mono m1 mr1
  obtain ⟨turn, hturn⟩ : ∃ turn : Dee.D → Env → Mem → (Env → Mem → Prop) → Prop, turn = fun x σ M R => wTg t x σ fun σ1 => wSs F xs σ1 M { D' with nx := R, ct := R, bk := D'.nx } := ⟨_, rfl⟩
  rw [← hturn] at q
  refine ⟨fun i n σ H => n = ds.length - i ∧ i ≤ ds.length ∧ ∃ ρ M, forL turn D'.nx (ds.drop i) ρ M ∧ Mono M1 H1 M H ∧ Rp c ρ M σ H, ⟨ds.length, by simp, Nat.zero_le _, ρ, M1, by rw [List.drop_zero]; exact q, Mono.refl _ _, R1⟩, ?_⟩
  rintro i n σ2 H2 ⟨rfl, hi2, ρ2, M2, q2, mo2, R2⟩
  by_cases hlt : i < ds.length
  · obtain ⟨d, hd⟩ : ∃ d, ds[i]? = some d := ⟨ds[i], List.getElem?_eq_getElem hlt⟩
    have hdrop : ds.drop i = d :: ds.drop (i + 1) := by
      rw [List.drop_eq_getElem_cons hlt]
      rw [List.getElem?_eq_getElem hlt] at hd
      cases hd
      rfl
    rw [hdrop] at q2
    refine .inr ⟨wk.go _ i M2 H2 mo2.keeps hlt, fun σ' H' => ds.length - (i + 1) = ds.length - (i + 1) ∧ i + 1 ≤ ds.length ∧ ∃ ρ M, forL turn D'.nx (ds.drop (i + 1)) ρ M ∧ Mono M1 H1 M H' ∧ Rp c ρ M σ' H',
      fun σ' H' h' => ⟨ds.length - (i + 1), by omega, h'⟩, fun x H3 y => ?_⟩
    obtain ⟨hH3, rx⟩ := wk.yld _ i M2 H2 x H3 mo2.keeps R2.mem y d hd
    have mo3 : Mono M2 H2 M2 H3 ∧ MRep c.mg M2 H3 := by
      rcases hH3 with rfl | ⟨p, us, hp, rfl⟩
      · exact ⟨Mono.refl _ _, R2.mem⟩
      · exact ⟨Mono.new hp, R2.mem.new hp⟩
    obtain ⟨mo3, mr3⟩ := mo3
    have q3 : turn d ρ2 M2 fun σ1 M1 => forL turn D'.nx (ds.drop (i + 1)) σ1 M1 := q2
    rw [hturn] at q3
    refine ⟨ρ2, M2, d, _, R2.mono mo3 mr3, rx, q3, fun ρ4 σ4 w4 R4 _ => ?_⟩
    rw [← hturn] at w4
    have gm := g.mono (m1.trans (mo2.trans mo3))
    refine ⟨ρ4, M2, _, R4, w4, ⟨fun ρ' M' σ' H' q m R' => ⟨rfl, hlt, ρ', M', q, (mo2.trans mo3).trans m, R'⟩, gm.rt, gm.nx, fun ρ' M' σ' H' q m R' => ⟨rfl, hlt, ρ', M', q, (mo2.trans mo3).trans m, R'⟩, gm.ex⟩⟩
  · have hie : i = ds.length := by omega
    subst hie
    rw [List.drop_length] at q2
    exact .inl ⟨wk.stop _ _ M2 H2 mo2.keeps (Nat.le_refl _), g.nx ρ2 M2 σ2 H2 q2 (m1.trans mo2) R2⟩
theorem st_whl (hp : PassesOwn (model X.prog X.w) X.A X.env X.xe) {d : Expr} {b : List Stmt} {x : Ex} {xs : List St} {pos} (hd : PT X d (tT c W F x)) (hb : PSs X b (tSs c W F xs)) : PS X (.While d b [] pos) (tS c W F (.whl x xs)) := by
  refine PS.imp (ps_while hp hd hb) fun D σ H ⟨ρ, M, D', R, ⟨n, w⟩, g⟩ => ?_
  obtain ⟨test, htest⟩ : ∃ test : Env → Mem → (Bool → Mem → Prop) → Prop, test = fun σ M R => wE F x σ M (asB R) (D'.x σ) := ⟨_, rfl⟩
  obtain ⟨turn, hturn⟩ : ∃ turn : Env → Mem → (Env → Mem → Prop) → Prop, turn = fun σ M R => wSs F xs σ M { D' with nx := R, ct := R, bk := D'.nx } := ⟨_, rfl⟩
  have w : whlL (fun σ M R => wE F x σ M (asB R) (D'.x σ)) (fun σ M R => wSs F xs σ M { D' with nx := R, ct := R, bk := D'.nx }) D'.nx n ρ M := w
  rw [← htest, ← hturn] at w
  refine ⟨fun n σ H1 => ∃ ρ M1, whlL test turn D'.nx n ρ M1 ∧ Mono M H M1 H1 ∧ Rp c ρ M1 σ H1, ⟨n, ρ, M, w, Mono.refl _ _, R⟩, ?_⟩
  rintro n σ1 H1 ⟨ρ1, M1, w1, m1, R1⟩
  cases n with
  | zero => exact w1.elim
  | succ n =>
    have w1 : test ρ1 M1 fun b M1 => if b = true then turn ρ1 M1 fun σ2 M2 => whlL test turn D'.nx n σ2 M2 else D'.nx ρ1 M1 := w1
    rw [htest] at w1
    refine tT_bind R1 w1 ((g.mono m1).thr R1) fun b M2 H2 q m2 R2 => ?_
    rw [← htest] at q
    cases b with
    | false =>
      rw [if_neg Bool.false_ne_true] at q ⊢
      exact g.nx ρ1 M2 σ1 H2 q (m1.trans m2) R2
    | true =>
      rw [if_pos rfl] at q ⊢
      rw [hturn] at q
      refine ⟨fun σ' H' => ∃ ρ M', whlL test turn D'.nx n ρ M' ∧ Mono M H M' H' ∧ Rp c ρ M' σ' H', fun σ' H' h => ⟨n, by omega, h⟩, ?_⟩
      rw [← hturn] at q
      have gm := g.mono (m1.trans m2)
      exact ⟨ρ1, M2, _, R2, q, ⟨fun ρ' M' σ' H' q m R' => ⟨ρ', M', q, (m1.trans m2).trans m, R'⟩, gm.rt, gm.nx, fun ρ' M' σ' H' q m R' => ⟨ρ', M', q, (m1.trans m2).trans m, R'⟩, gm.ex⟩⟩
end
end Dee

set_option Elab.async false
set_option linter.all false
set_option autoImplicit false
set_option maxRecDepth 100000
set_option maxHeartbeats 1000000
/-! Dee: raise, try, and every statement. -/
namespace Dee
open PySem PySem.Spec PyProof.Rows L2
section
variable {X : Cx} {k : Ck} {F : Sem} {c : LC} {W : WX}
/-! ### raise -/
/-- an exception made: what is wished -/
def tX (c : LC) (W : WX) (F : Sem) (C : String) (es : List Ex) : L2.St → Hp → XK → Prop := fun σ H Q => ∃ (ρ : Env) (M : Mem) (Q' : List D → Mem → Prop) (E' : KX), Rp c ρ M σ H ∧ (ob (F.xf C) fun fs => wEs F es ρ M (fun ds M1 => fs.length = ds.length ∧ Q' ds M1) E') ∧
  (∀ ds M' H' a d, Q' ds M' → Mono M H M' H' → MRep c.mg M' H' → (∀ fs, F.xf C = some fs → RepX c M' H' ⟨C, fs.zip ds⟩ (.ref a) d) → Q (.ref a) d H') ∧ Throws c (fun cls d H' => W cls d σ H') M H E'
theorem lookup_rev {α β : Type} [DecidableEq α] [BEq α] [LawfulBEq α] {f : α} : ∀ {l : List (α × β)}, (l.map (·.1)).Nodup → l.reverse.lookup f = l.lookup f
  | [], _ => rfl
  | (g, y) :: l, h => by
    simp only [List.map_cons, List.nodup_cons] at h
    have ih := lookup_rev (f := f) h.2
    rw [List.reverse_cons]
    have app : ∀ {l1 l2 : List (α × β)}, (l1 ++ l2).lookup f = match l1.lookup f with | some v => some v | none => l2.lookup f := fun {l1 l2} => by
      induction l1 with
      | nil => rfl
      | cons p l1 ih2 =>
        obtain ⟨p1, p2⟩ := p
        simp only [List.cons_append, List.lookup_cons]
        cases e : f == p1 with
        | true => rfl
        | false => exact ih2
    rw [app, ih]
    simp only [List.lookup_cons, List.lookup_nil]
    cases e : f == g with
    | true =>
      have e2 : f = g := eq_of_beq e
      subst e2
      have hn : l.lookup f = none := by
        cases q : l.lookup f with
        | none => rfl
        | some v =>
          have : f ∈ l.map (·.1) := by
            clear ih app h
            induction l with
            | nil => cases q
            | cons p l ih3 =>
              obtain ⟨p1, p2⟩ := p
              simp only [List.lookup_cons] at q
              cases e3 : f == p1 with
              | true => rw [eq_of_beq e3]; simp
              | false => rw [e3] at q; exact List.mem_cons_of_mem _ (ih3 q)
          exact absurd this h.1
      rw [hn]
    | false => cases l.lookup f <;> rfl
theorem zip_keys {α β : Type} : ∀ {fs : List α} {ys : List β}, fs.length = ys.length → (fs.zip ys).map (·.1) = fs
  | [], [], _ => rfl
  | _ :: fs, _ :: ys, h => by simp [zip_keys (fs := fs) (ys := ys) (by simpa using h)]
  | [], _ :: _, h => by simp at h
  | _ :: _, [], h => by simp at h
theorem fields_rep {mg : Gm} {M : Mem} {H : Hp} {f : String} {x : D} : ∀ {fs : List String} {ds : List D} {vs : List V}, (fs.map Str.ofString).Nodup → RepL mg M H ds vs → lookF (fs.zip ds) f = some x →
    ∃ v, ((fs.map Str.ofString).zip vs).lookup (Str.ofString f) = some v ∧ Rep mg M H x v
  | [], _, _, _, _, e => by cases e
  | _ :: _, [], _, _, _, e => by cases e
  | g :: fs, d :: ds, _, hn, ⟨v, r, ev, h1, h2⟩, e => by
    subst ev
    simp only [List.map_cons, List.nodup_cons] at hn
    unfold lookF at e
    simp only [List.zip_cons_cons, List.lookup_cons] at e
    show ∃ v', (((Str.ofString g) :: fs.map Str.ofString).zip (v :: r)).lookup (Str.ofString f) = some v' ∧ _
    simp only [List.zip_cons_cons, List.lookup_cons]
    by_cases z : f = g
    · subst z
      simp only [beq_self_eq_true] at e ⊢
      cases e
      exact ⟨v, rfl, h1⟩
    · have zb : (f == g) = false := by simpa using z
      rw [zb] at e
      obtain ⟨v', l, r'⟩ := fields_rep hn.2 h2 e
      have mem : Str.ofString f ∈ fs.map Str.ofString := by
        have key : ∀ {ks : List Str} {us : List V} {y : V}, (ks.zip us).lookup (Str.ofString f) = some y → Str.ofString f ∈ ks := by
          intro ks
          induction ks with
          | nil => intro us y q; cases q
          | cons k1 ks ih =>
            intro us y q
            cases us with
            | nil => cases q
            | cons u us =>
              simp only [List.zip_cons_cons, List.lookup_cons] at q
              cases e3 : Str.ofString f == k1 with
              | true => rw [eq_of_beq e3]; simp
              | false => rw [e3] at q; exact List.mem_cons_of_mem _ (ih q)
        exact key l
      have zs : (Str.ofString f == Str.ofString g) = false := by
        cases q : Str.ofString f == Str.ofString g with
        | false => rfl
        | true => exact absurd (eq_of_beq q ▸ mem) hn.1
      rw [zs]
      exact ⟨v', l, r'⟩
theorem passes_never {X : Cx} : Passes (L2.CX X.prog X.w) X (fun _ _ _ => False) := fun _ _ _ _ _ _ _ ⟨_, _, _, _, _, _, _, _, _, _, _, _, z⟩ => z.elim
theorem sx_nil (O : Okc X k F c W) {C : String} {p pos} (hg : k.glo (Str.ofString C) = true) : PMk X (.Call (.Name (Str.ofString C) p) [] [] pos) (tX c W F C []) := by
  intro pins s σ H Q I ⟨ρ, M, Q', E', R, w, g, t⟩
  obtain ⟨fs, hf, hl, q⟩ := ob_some w
  obtain ⟨a, T⟩ := O.xf C fs hf
  obtain ⟨gl, hdb, hn⟩ := O.glo hg
  have fs0 : fs = [] := List.length_eq_zero_iff.mp hl
  subst fs0
  obtain ⟨_, bmB, hx, Fb⟩ : _ ∧ _ := by
    rcases T.made with h | h
    · exact h
    · exact absurd rfl h.1
  refine wpAny_Call_Name_kw (ld_glob I gl T.at_ ?_ hdb)
  refine PySem.W.callWith_K0 I.kIn T.keep ?_
  show wpAny _ _ (call (.ref a) []) _ _ _
  obtain ⟨bm, N, nm, qn, bs, hdct, sn, sub, ab, col, dd, k0, k1, k2, k3, k5, mN, hC, hN, hni, T2⟩ := exc_obj I.kIn hx
  refine wpAny_call_exc_subT Fb T2 hC hN hni (fun h' e hm => ?_) (by show 0 ≤ sizeLine; omega)
  refine mk_of I hm (raises_own T.xc.exC T.ty) (g [] M H a none q (Mono.refl _ _) R.mem fun fs e => ?_) (I.hok.gone hm.new)
  rw [hf] at e
  cases e
  exact ⟨by rw [O.mg]; exact T.at_, .inl rfl⟩
theorem sx_cons (O : Okc X k F c W) (hh : k.hot = false) {C : String} {e : Expr} {es : List Expr} {xs : List Ex} {p pos} (hg : k.glo (Str.ofString C) = true) (ha : PA X (e :: es) (tA c W F xs)) (h1 : isStar e = false) (h2 : noStars es = true) (hl : xs.length = es.length + 1) (hl2 : xs.length ≤ 900) :
    PMk X (.Call (.Name (Str.ofString C) p) (e :: es) [] pos) (tX c W F C xs) := by
  intro pins s σ H Q I ⟨ρ, M, Q', E', R, w, g, t⟩
  obtain ⟨fs, hf, w⟩ := ob_some w
  obtain ⟨a, T⟩ := O.xf C fs hf
  obtain ⟨gl, hdb, hn⟩ := O.glo hg
  by_cases f0 : fs = []
  · subst f0
    refine wpAny_Call_Name_kw (ld_glob I gl T.at_ ?_ hdb)
    refine PySem.W.callWith_K (h₀ := X.base) I.ok.mod.kin T.keep (thn (ha.run pos pins s σ H (fun _ _ => False) I (tA_bind R w t fun ds M1 vs H1 hz ⟨hlen, q⟩ m1 R1 rs => ?_)) fun us s1 ⟨vs, H1, I1, r1, q⟩ => q.elim) (star_cons h1) (star_back h2)
    rw [hz] at hlen
    simp at hlen
    omega
  obtain ⟨_, hnd, To, fI, fd, ps, iC, tI', hb, F1⟩ : _ ∧ _ := by
    rcases T.made with h | h
    · exact absurd h.1 f0
    · exact h
  refine pmk_oex (ds := []) (dvs := []) To iC tI' F1 ((O.room hh).mono (by decide)) hb .nil passes_never gl T.at_ ha hdb (star_cons h1) (star_back h2) pins s σ H Q I ?_
  refine tA_bind R w t fun ds M1 vs H1 hz ⟨hlen, q⟩ m1 R1 rs => ?_
  refine ⟨by rw [← rs.length]; omega, fun b hb1 => ⟨b, vs ++ [], rfl, by simp [← rs.length, hlen], upd_same, fun dx H' e1 e2 e3 e4 e5 => ?_⟩⟩
  have hdx : H1 dx = none := by rw [upd_ne e2] at e1; exact e1
  refine ⟨rfl, dx, _, e3, e4, hdx, ?_⟩
  have eH : L2.upd (L2.del H' b) dx (.xd ((fs.map Str.ofString).zip (vs ++ [])).reverse) = L2.upd H1 dx (.xd ((fs.map Str.ofString).zip vs).reverse) := by
    rw [List.append_nil]
    funext z
    by_cases zd : z = dx
    · subst zd; rw [upd_same, upd_same]
    · rw [L2.upd_ne zd, L2.upd_ne zd]
      by_cases zb : z = b
      · subst zb; rw [L2.del_same, hb1]
      · rw [L2.del_ne zb, e5 z zb zd, L2.upd_ne zb]
  rw [eH]
  refine g ds M1 _ a (some dx) q (m1.trans (Mono.new hdx)) (R1.mem.new hdx) fun fs' e6 => ?_
  rw [hf] at e6
  cases e6
  refine ⟨by rw [O.mg]; exact T.at_, .inr ⟨dx, _, rfl, R1.mem.gone hdx, upd_same, fun f x e8 => ?_⟩⟩
  obtain ⟨v, l, r⟩ := fields_rep hnd rs e8
  refine ⟨v, ?_, r.mono (Mono.new hdx)⟩
  rw [lookup_rev (by rw [zip_keys (by rw [List.length_map, ← rs.length, hlen])]; exact hnd)]
  exact l
theorem st_raise (O : Okc X k F c W) (hh : k.hot = false) {C : String} {e : Expr} {xs : List Ex} {pos} (hx : PMk X e (tX c W F C xs)) : PS X (.Raise (some e) none pos) (tS c W F (.raise C xs)) := by
  refine PS.imp (ps_raise (O.calm hh) O.tk hx) fun D σ H ⟨ρ, M, D', R, w, g⟩ => ?_
  obtain ⟨fs, hf, w⟩ := ob_some w
  refine ⟨ρ, M, fun ds M1 => D'.ex ⟨C, fs.zip ds⟩ ρ M1, D'.x ρ, R, by rw [hf]; exact w, fun ds M' H' a d q m mr hr => ?_, g.thr R⟩
  exact g.ex _ ρ M' _ _ σ H' q m (R.mono m mr) (hr fs hf)
/-! ### try -/
theorem Okc.suite (O : Okc X k F c W) {xs : Option (Nat × Str)} {xi : Option (Nat × Addr × Value × Option Addr × Exn)} {cur : Option Exn} {a : Addr} {oe : Obj} {pn : List (Addr × Obj)} (h1 : ∀ j a cls d ε, xi = some (j, a, cls, d, ε) → ∃ nm, xs = some (j, nm))
    (h2 : ∀ ε, cur = some ε → ∃ i a cls d, xi = some (i, a, cls, d, ε)) (h3 : ∀ i a' cls d ε, xi = some (i, a', cls, d, ε) → a' = a ∧ Zc cls d oe ∧ ∃ vs, oe.data = .fields vs) :
    Okc (L2.Cx.suite X a ((a, oe) :: pn)) { k with hot := true, xs := xs } { F with cur := cur } ⟨c.mg, xi⟩ W0 where
  N := O.N
  nd := O.nd
  sc := O.sc
  own := O.own
  calm := fun h => nomatch h
  un := O.un
  mg := O.mg
  blt := O.blt
  tk := fun u s' ⟨a, B, sI, pins, σ, H, cls, d, e, I, nb, up, sky, na, os, ag, w⟩ => w.elim
  xs := h1
  hot0 := fun h => nomatch h
  fns := fun h => nomatch h
  cur := h2
  sui := fun i a' cls d ε e => by
    obtain ⟨e1, hz, hf⟩ := h3 i a' cls d ε e
    subst e1
    exact ⟨X, pn, oe, rfl, hz, hf⟩
  xf := O.xf
  sub := O.sub
  room := fun h => nomatch h
  cat := O.cat
theorem Okc.tr (O : Okc X k F c W) (hh : k.hot = false) {W' : WX} {pn : List (Addr × Obj)} {xe : Value → Shared → Prop} (tk : Takes (L2.Cx.tr X pn xe) W') : Okc (L2.Cx.tr X pn xe) k F c W' where
  N := O.N
  nd := O.nd
  sc := O.sc
  own := O.own
  calm := O.calm
  un := O.un
  mg := O.mg
  blt := O.blt
  tk := tk
  xs := O.xs
  hot0 := O.hot0
  fns := O.fns
  cur := O.cur
  sui := fun i a' cls d ε e => by rw [O.hot0 hh] at e; cases e
  xf := O.xf
  sub := O.sub
  room := O.room
  cat := O.cat
theorem exm_of (O : Okc X k F c W) {M : Mem} {H : Hp} {ε : Exn} {cls : Value} {d : Option Addr} {C : String} {a : Addr} (hr : RepX c M H ε cls d) (hx : (F.xf ε.C).isSome = true) (hC : C ∈ k.cls) (ha : X.mg (Str.ofString C) = some (.ref a)) : PySem.W.exmOne X.K cls (.ref a) = some (F.sub ε.C C) := by
  obtain ⟨fs, hf⟩ := Option.isSome_iff_exists.mp hx
  obtain ⟨a1, a2, e1, e2, e3⟩ := O.sub ε.C fs hf C hC
  have e4 := hr.1
  rw [O.mg, e1] at e4
  rw [ha] at e2
  cases e4
  cases e2
  exact e3
/-- the clauses of a try, without names -/
def HdsR (X : Cx) (F : Sem) (c : LC) (hs : List (String × Option Nat × List St)) (l : List (Value × (Addr → Value → Option Addr → TS))) : Prop :=
  ∀ (Wout : WX) (D' : Dee.Ends) (D : L2.Ends) (M : Mem) (H : Hp) (ρ : Env) (σ : L2.St) (ε : Exn) (cls : Value) (d : Option Addr), wHs F hs ε ρ M D' → Rp c ρ M σ H → RepX c M H ε cls d → EO c Wout M H D' D → wMany X.K Wout D l cls d σ H
theorem hdsR_nil : HdsR X F c [] [] := fun Wout D' D M H ρ σ ε cls d w R hr g => g.ex ε ρ M cls d σ H w (Mono.refl _ _) R hr
theorem hdsR_cons (O : Okc X k F c W) (hh : k.hot = false) {C : String} {b : List St} {hs : List (String × Option Nat × List St)} {l : List (Value × (Addr → Value → Option Addr → TS))} {a2 : Addr} (hC : C ∈ k.cls) (ha : X.mg (Str.ofString C) = some (.ref a2)) (h : HdsR X F c hs l) :
    HdsR X F c ((C, none, b) :: hs) ((.ref a2, fun _ _ _ => tSs ⟨c.mg, none⟩ W0 { F with cur := none } b) :: l) := by
  intro Wout D' D M H ρ σ ε cls d w R hr g
  obtain ⟨hx, w⟩ := w
  refine ⟨_, exm_of O hr hx hC ha, fun e a na => ?_, fun e => ?_⟩
  · rw [e, if_pos rfl] at w
    have xi0 := O.hot0 hh
    have cc : ∀ {ρ : Env} {M : Mem} {σ : L2.St} {H : Hp}, Rp c ρ M σ H → Rp ⟨c.mg, none⟩ ρ M σ H := fun R => ⟨R.len, R.env, R.mem, fun _ _ _ _ _ e => nomatch e⟩
    have cc' : ∀ {ρ : Env} {M : Mem} {σ : L2.St} {H : Hp}, Rp ⟨c.mg, none⟩ ρ M σ H → Rp c ρ M σ H := fun R => ⟨R.len, R.env, R.mem, fun _ _ _ _ _ e => by rw [xi0] at e; cases e⟩
    exact ⟨ρ, M, _, cc R, w, ⟨fun ρ' M' σ' H' q m R' => g.nx ρ' M' σ' H' q m (cc' R'), g.rt, fun ρ' M' σ' H' q m R' => g.bk ρ' M' σ' H' q m (cc' R'), fun ρ' M' σ' H' q m R' => g.ct ρ' M' σ' H' q m (cc' R'), fun _ _ _ _ _ _ _ q => q.elim⟩⟩
  · rw [e, if_neg Bool.false_ne_true] at w
    exact h Wout D' D M H ρ σ ε cls d w R hr g
theorem st_try_many (O : OkS X k F c W) (hh : k.hot = false) {body : List Stmt} {hd : ExceptHandler} {hds : List ExceptHandler} {b : List St} {hs : List (String × Option Nat × List St)} {l : List (Value × (Addr → Value → Option Addr → TS))} {pos}
    (hb : ∀ (W' : WX) (X' : Cx), OkS X' k F c W' → PSs X' body (tSs c W' F b)) (hk : HdsOk X (hd :: hds) l) (hr : HdsR X F c hs l) : PS X (.Try body (hd :: hds) [] [] pos) (tS c W F (.try b hs)) := by
  obtain ⟨s1, s2⟩ := O.stk hh
  refine PS.imp (ps_try_many (tb := fun W' => tSs c W' F b) s1 s2 O.O.tk (fun W' pn xe tk po => hb W' _ ⟨O.O.tr hh tk, O.kind, fun _ => po, O.stk⟩) hk) fun D σ H ⟨ρ, M, D', R, w, g⟩ => ?_
  exact ⟨ρ, M, _, R, w, ⟨g.nx, g.rt, g.bk, g.ct, fun ε ρ' M' cls d σ' H' q m R' rx => hr W D' D M' H' ρ' σ' ε cls d q R' rx (g.mono m)⟩⟩
theorem st_try_as (O : OkS X k F c W) (hh : k.hot = false) {body suite : List Stmt} {b₀ : Stmt} {C : String} {i : Nat} {nm : Str} {b bs : List St} {a2 : Addr} {np p' pos} (hg : k.glo (Str.ofString C) = true) (hC : C ∈ k.cls) (ha : X.mg (Str.ofString C) = some (.ref a2)) (hi : k.sto i nm = true) (hl : locK k nm = true)
    (hb : ∀ (W' : WX) (X' : Cx), OkS X' k F c W' → PSs X' body (tSs c W' F b))
    (hsu : ∀ (X' : Cx) (c' : LC) (ε : Exn), OkS X' { k with hot := true, xs := some (i, nm) } { F with cur := some ε } c' W0 → PSs X' (b₀ :: suite) (tSs c' W0 { F with cur := some ε } bs)) :
    PS X (.Try body [.ExceptHandler (some (.Name (Str.ofString C) np)) (some nm) (b₀ :: suite) p'] [] [] pos) (tS c W F (.try b [(C, some i, bs)])) := by
  obtain ⟨s1, s2⟩ := O.stk hh
  obtain ⟨h1, h2, h3, h4⟩ := O.O.sto hi
  obtain ⟨gl, hdb, hn⟩ := O.O.glo hg
  have hk : X.env.kindOf nm = some .local := by
    show X.env.scope.names.lookup nm = some .local
    rw [O.O.sc]
    unfold locK at hl
    split at hl
    · rename_i e; exact e
    · cases hl
  have xi0 := O.O.hot0 hh
  refine PS.imp (ps_try_as (tb := fun W' => tSs c W' F b) (ts := fun a cls d => fun D σ H => ∃ ε, tSs ⟨c.mg, some (i, a, cls, d, ε)⟩ W0 { F with cur := some ε } bs D σ H) s1 s2 O.O.nd h1 hk ⟨gl, hdb, .inl ha⟩ O.O.tk (fun W' pn xe tk po => hb W' _ ⟨O.O.tr hh tk, O.kind, fun _ => po, O.stk⟩)
    (fun a oe cls d pn hz hf => ⟨fun pins s σ H D I ⟨ε, q⟩ => (hsu _ _ ε ⟨O.O.suite (fun j a' cls' d' ε' e => by cases e; exact ⟨nm, rfl⟩) (fun ε' e => by cases e; exact ⟨i, a, cls, d, rfl⟩) (fun i' a' cls' d' ε' e => by cases e; exact ⟨rfl, hz, hf⟩), O.kind, fun h => (nomatch h), fun h => (nomatch h)⟩).run pins s σ H D I q⟩)) fun D σ H ⟨ρ, M, D', R, w, g⟩ => ?_
  refine ⟨ρ, M, _, R, w, ⟨g.nx, g.rt, g.bk, g.ct, fun ε ρ' M' cls d σ' H' q m R' rx => ?_⟩⟩
  obtain ⟨hx, q⟩ := q
  refine ⟨_, exm_of O.O rx hx hC ha, fun e a na => ?_, fun e => ?_⟩
  · rw [e, if_pos rfl] at q
    obtain ⟨hlen, q⟩ := q
    have R0 := R'.wipe1 (i := i) (o := some (.ref a)) h4
    have R1 : Rp ⟨c.mg, some (i, a, cls, d, ε)⟩ (ρ'.set i none) M' (σ'.set i (some (.ref a))) H' := ⟨R0.len, R0.env, R0.mem, fun j a' cls' d' ε' e => by
      cases e
      exact ⟨List.getElem?_set_self (by rw [← R'.len]; exact hlen), rx⟩⟩
    have back : ∀ {ρ2 : Env} {M2 : Mem} {σ2 : L2.St} {H2 : Hp}, Rp ⟨c.mg, some (i, a, cls, d, ε)⟩ ρ2 M2 σ2 H2 → Rp c (ρ2.set i none) M2 (σ2.set i none) H2 := fun {ρ2 M2 σ2 H2} R => by
      have R' : Rp c ρ2 M2 σ2 H2 := ⟨R.len, R.env, R.mem, fun _ _ _ _ _ e => by rw [xi0] at e; cases e⟩
      exact R'.wipe1 h4
    have gm := g.mono m
    exact ⟨ε, _, M', _, R1, q, ⟨fun ρ2 M2 σ2 H2 q m R => gm.nx _ M2 _ H2 q m (back R), gm.rt, fun ρ2 M2 σ2 H2 q m R => gm.bk _ M2 _ H2 q m (back R), fun ρ2 M2 σ2 H2 q m R => gm.ct _ M2 _ H2 q m (back R), fun _ _ _ _ _ _ _ q => q.elim⟩⟩
  · rw [e, if_neg Bool.false_ne_true] at q
    exact g.ex ε ρ' M' cls d σ' H' q m R' rx
end
end Dee

set_option Elab.async false
set_option linter.all false
set_option autoImplicit false
set_option maxRecDepth 100000
set_option maxHeartbeats 1000000
/-! Dee: every statement. -/
namespace Dee
open PySem PySem.Spec PyProof.Rows L2
section
variable {X : Cx} {k : Ck} {F : Sem} {c : LC} {W : WX}
theorem loc_ok (O : Okc X k F c W) {x : Str} (h : locK k x = true) : X.env.scope.names.lookup x = some .local := by
  rw [O.sc]
  unfold locK at h
  split at h
  · rename_i e; exact e
  · cases h
/-- what the check says of a comprehension -/
theorem comp_chk (O : Okc X k F c W) {x : Ex} {elt : Expr} {gens : List Comprehension} {scope : Scope} {pos : Pos} (h : chkE k x (.ListComp elt gens scope pos) = true) :
    ∃ m e1 t ik es cs tg iter ifs own, x = .comp m e1 t ik es cs ∧ gens = [⟨tg, iter, ifs, 0⟩] ∧ k.hot = false ∧ PI X tg iter (tI c W F ik es) ∧ tgOwn t tg = some own ∧ blkC k.N k.sc scope own = true ∧ isSet iter = false ∧
      (∀ (X' : Cx) (c' : LC), Okc X' (k.blk scope) F c' W0 → PG X' tg (tG c' t) ∧ PTs X' ifs (tCs c' F cs) ∧ PE X' elt (tE c' W0 F e1)) := by
  cases x with
  | comp m e1 t ik es cs =>
    unfold chkE at h
    split at h <;> first | (cases h; done) | skip
    rename_i e1' tg it ifs sc q heq
    cases heq
    obtain ⟨h, h7⟩ := band h
    obtain ⟨h, h6⟩ := band h
    obtain ⟨h, h5⟩ := band h
    obtain ⟨h, h4⟩ := band h
    obtain ⟨h, h3⟩ := band h
    obtain ⟨h1, h2⟩ := band h
    split at h2 <;> first | (cases h2; done) | skip
    rename_i as has
    split at h4 <;> first | (cases h4; done) | skip
    rename_i own hown
    obtain ⟨h8, h9⟩ := band h4
    obtain ⟨p1, p2, p3, p4⟩ := sEs es O h2
    obtain ⟨q1, q2⟩ := sI (t := t) O has h3 p4 p1 p2 p3
    exact ⟨m, e1, t, ik, es, cs, tg, it, ifs, own, rfl, rfl, bnot h1, q1, hown, h8, q2, fun X' c' O' => ⟨sg O' h9, oneCs (sBs cs O' h5) (of_decide_eq_true h6), (sE e1 O' h7).1⟩⟩
  | _ => cases h
theorem st_lc (O : OkS X k F c W) {i : Nat} {y : Str} {x : Ex} {elt : Expr} {gens : List Comprehension} {scope : Scope} {pos py spos : Pos} (hs : k.sto i y = true) (hl : lcSet k (.Name y py) (.ListComp elt gens scope pos) = true) (h : chkE k x (.ListComp elt gens scope pos) = true) :
    PS X (.Assign [.Name y py] (.ListComp elt gens scope pos) spos) (tS c W F (.asg (.nm i) x)) := by
  obtain ⟨m, e1, t, ik, es, cs, tg, iter, ifs, own, rfl, rfl, hh, hi, ho, hb, hset, body⟩ := comp_chk O.O h
  obtain ⟨b1, b2, b3, b4⟩ := comp_ok O.O hh hb body
  have fs : ∀ x, foldedSetIterable iter X.env x = pure x := fun x => by cases iter <;> first | rfl | cases hset
  obtain ⟨h1, h2, h3, h4⟩ := O.O.sto hs
  have hl : (locK k y && py.line == pos.line && !(scope.names.any fun (n, k) => n == y && (k == .local || k == .cell))) = true := hl
  obtain ⟨hl, l3⟩ := band hl
  obtain ⟨l1, l2⟩ := band hl
  have loc := loc_ok O.O l1
  refine PS.imp (ps_setLc (O.O.calm hh) O.O.nd h1 loc (sw_true O.kind loc l2 (bnot l3)) hi b1 b2 b3 b4 fs) fun D σ H ⟨ρ, M, D', R, w, g⟩ => ?_
  have z : tE c W F (.comp m e1 t ik es cs) σ H (fun v H1 => D.nx (σ.set i (some v)) H1) :=
    ⟨ρ, M, _, _, R, w, fun d M' v H' q m mr r => g.nx _ M' _ H' q m ((R.mono m mr).set r h4), g.thr R⟩
  exact comp_read (O.O.hot0 hh) ho z
/-- it no longer changes -/
theorem ss_frz {ss : List Stmt} {i : Nat} {xs : List St} (h : PSs X ss (tSs c W F xs)) : PSs X ss (tSs c W F (.frz i :: xs)) := by
  refine PSs.imp h fun D σ H ⟨ρ, M, D', R, w, g⟩ => ?_
  obtain ⟨d, e1, w1⟩ := ob_some w
  obtain ⟨a, e2, w2⟩ := onR_ref w1
  obtain ⟨o, e3, w3⟩ := ob_some w2
  clear w1 w
  subst e2
  have mi : Mono M H (del M a) H := Mono.ice
  have hn : Un c.mg (del M a) a := ⟨del_same, fun z => by
    have := (R.mem.hid a z).1
    rw [e3] at this; cases this⟩
  obtain ⟨v, ev, rv⟩ := R.env i _ e1
  cases (show v = V.ref a from rv)
  have ro : Rep c.mg (del M a) H o.ice (.ref a) := by
    have st := R.mem.std a o e3
    match o, st with
    | .lst xs, ⟨vs, q, r⟩ => exact ⟨a, vs, rfl, hn, .inl q, r.mono mi⟩
    | .dct false kvs, ⟨ws, q, r⟩ => exact ⟨a, rfl, hn, ws, .inl q, r.mono mi⟩
    | .dct true kvs, ⟨ws, q, r⟩ => exact ⟨a, rfl, hn, ws, .inl q, r.mono mi⟩
    | .ins C fs, ⟨cc, dx, ws, q, gg, r⟩ => exact ⟨a, cc, dx, ws, rfl, hn, .inl q, gg, r.mono mi⟩
  have R1 := R.mono mi R.mem.ice
  have R2 : Rp c (ρ.set i (some o.ice)) (del M a) σ H := by
    refine ⟨by simpa using R1.len, fun j e h => ?_, R1.mem, R1.xi⟩
    by_cases hi : i < ρ.length
    · rw [lk_set hi] at h
      by_cases z : j = i
      · subst z
        rw [if_pos rfl] at h
        cases h
        exact ⟨_, ev, ro⟩
      · rw [if_neg z] at h
        exact R1.env j e h
    · rw [List.set_eq_of_length_le (by omega)] at h
      exact R1.env j e h
  exact ⟨_, _, D', R2, w3, g.mono mi⟩
end
mutual
theorem sS : ∀ (x : St) {X : Cx} {k : Ck} {F : Sem} {c : LC} {W : WX} (_ : OkS X k F c W) {s : Stmt}, chkS k x s = true → PS X s (tS c W F x)
  | .asg t x, X, k, F, c, W, O, s, h => by
    unfold chkS at h
    split at h <;> first | (cases h; done) | skip
    rename_i tg v pos
    have hc : ∀ {t : Tg}, chkTg k t tg = true → ∀ env : PySem.Env, assignEach [tg] env = [(false, assign tg env)] := fun h env => by rw [chkTg_cons h] <;> rfl
    cases t with
    | nm i =>
      obtain ⟨h, h4⟩ := band h
      obtain ⟨h, h3⟩ := band h
      obtain ⟨h1, h2⟩ := band h
      cases hn : noComp v with
      | true => exact st_asg (sg O.O h1) (hc h1) (sE x O.O h2).1 hn h3
      | false =>
        rw [hn, Bool.false_or] at h4
        cases tg <;> first | (cases h1; done) | skip
        cases v <;> first | (cases hn; done) | skip
        · exact st_lc O h1 h4 h2
        · cases h4
        · cases h4
    | tu ts =>
      obtain ⟨h, h4⟩ := band h
      obtain ⟨h, h3⟩ := band h
      obtain ⟨h1, h2⟩ := band h
      exact st_asg (sg O.O h1) (hc h1) (sE x O.O h2).1 h4 h3
  | .asub o i e, X, k, F, c, W, O, s, h => by
    unfold chkS at h
    split at h <;> first | (cases h; done) | skip
    obtain ⟨h, h5⟩ := band h
    obtain ⟨h, h4⟩ := band h
    obtain ⟨h, h3⟩ := band h
    obtain ⟨h1, h2⟩ := band h
    exact st_asub O.O h1 h2 (sE o O.O h3).1 (sE i O.O h4).1 (sE e O.O h5).1
  | .afld _ _ _, X, k, F, c, W, O, s, h => by cases h
  | .aug _ _ _, X, k, F, c, W, O, s, h => by cases h
  | .augs _ _ _ _, X, k, F, c, W, O, s, h => by cases h
  | .augf _ _ _ _, X, k, F, c, W, O, s, h => by cases h
  | .expr e, X, k, F, c, W, O, s, h => by
    unfold chkS at h
    split at h <;> first | (cases h; done) | skip
    obtain ⟨h1, h2⟩ := band h
    exact st_expr (sE e O.O h2).1 h1
  | .ret e, X, k, F, c, W, O, s, h => by
    unfold chkS at h
    split at h <;> first | (cases h; done) | skip
    exact st_ret (sE e O.O h).1
  | .retN, X, k, F, c, W, O, s, h => by
    unfold chkS at h
    split at h <;> first | (cases h; done) | skip
    exact st_retN
  | .ifs d a b, X, k, F, c, W, O, s, h => by
    unfold chkS at h
    split at h <;> first | (cases h; done) | skip
    obtain ⟨h, h4⟩ := band h
    obtain ⟨h, h3⟩ := band h
    obtain ⟨h1, h2⟩ := band h
    exact st_if ((sE d O.O h1).2 (bnot h2)) (sSs a O h3) (sSs b O h4)
  | .for t ik es b, X, k, F, c, W, O, s, h => by
    unfold chkS at h
    split at h <;> first | (cases h; done) | skip
    obtain ⟨h, h5⟩ := band h
    obtain ⟨h, h4⟩ := band h
    obtain ⟨h, h3⟩ := band h
    obtain ⟨h1, h2⟩ := band h
    split at h2 <;> first | (cases h2; done) | skip
    rename_i as has
    obtain ⟨p1, p2, p3, p4⟩ := sEs es O.O h2
    obtain ⟨q1, q2⟩ := sI (t := t) O.O has h3 p4 p1 p2 p3
    exact st_for (O.po (bnot h1)) (O.O.calm (bnot h1)) q1 (sg O.O h4) (sSs b O h5) q2
  | .whl d b, X, k, F, c, W, O, s, h => by
    unfold chkS at h
    split at h <;> first | (cases h; done) | skip
    obtain ⟨h, h4⟩ := band h
    obtain ⟨h, h3⟩ := band h
    obtain ⟨h1, h2⟩ := band h
    exact st_whl (O.po (bnot h1)) ((sE d O.O h2).2 (bnot h3)) (sSs b O h4)
  | .brk, X, k, F, c, W, O, s, h => by
    unfold chkS at h
    split at h <;> first | (cases h; done) | skip
    exact st_brk
  | .cont, X, k, F, c, W, O, s, h => by
    unfold chkS at h
    split at h <;> first | (cases h; done) | skip
    exact st_cont
  | .pass, X, k, F, c, W, O, s, h => by
    unfold chkS at h
    split at h <;> first | (cases h; done) | skip
    exact st_pass
  | .raise C es, X, k, F, c, W, O, s, h => by
    unfold chkS at h
    split at h <;> first | (cases h; done) | skip
    rename_i x q1 es' q2 q3
    obtain ⟨h, h5⟩ := band h
    obtain ⟨h, h4⟩ := band h
    obtain ⟨h, h3⟩ := band h
    obtain ⟨h1, h2⟩ := band h
    cases (beq_iff_eq.mp h3)
    obtain ⟨p1, p2, p3, _⟩ := sEs es O.O h4
    cases es' with
    | nil =>
      cases es with
      | nil => exact st_raise O.O (bnot h1) (sx_nil O.O h2)
      | cons _ _ => simp at p3
    | cons e1 es' =>
      obtain ⟨q1, q2⟩ := band (show (!isStar e1 && noStars es') = true from p2)
      exact st_raise O.O (bnot h1) (sx_cons O.O (bnot h1) h2 p1 (bnot q1) q2 p3 (of_decide_eq_true h5))
  | .try b hs, X, k, F, c, W, O, s, h => by
    unfold chkS at h
    split at h <;> first | (cases h; done) | skip
    rename_i b' hs' pos
    obtain ⟨h, h5⟩ := band h
    obtain ⟨h, h4⟩ := band h
    obtain ⟨h, h3⟩ := band h
    obtain ⟨h1, h2⟩ := band h
    have hh := bnot h1
    have hb : ∀ (W' : WX) (X' : Cx), OkS X' k F c W' → PSs X' b' (tSs c W' F b) := fun W' X' O' => sSs b O' h2
    obtain ⟨z1, z2⟩ := sHs hs O hh h5 hb
    by_cases hn : hs.all (·.2.1.isNone) = true
    · obtain ⟨l, l1, l2⟩ := z1 hn
      cases hs' with
      | nil =>
        cases hs with
        | nil => cases h3
        | cons p _ => obtain ⟨_, _, _⟩ := p; cases h5
      | cons hd hds => exact st_try_many O hh hb l1 l2
    · have hn : hs.all (·.2.1.isNone) = false := by simpa using hn
      rw [hn, Bool.or_false] at h4
      exact z2 hn (of_decide_eq_true h4) pos
  | .frz _, X, k, F, c, W, O, s, h => by cases h
theorem sSs : ∀ (xs : List St) {X : Cx} {k : Ck} {F : Sem} {c : LC} {W : WX} (_ : OkS X k F c W) {ss : List Stmt}, chkSs k xs ss = true → PSs X ss (tSs c W F xs)
  | [], X, k, F, c, W, O, ss, h => by
    unfold chkSs at h
    split at h <;> first | (cases h; done) | skip
    exact ss_nil
  | x :: xs, X, k, F, c, W, O, ss, h => by
    unfold chkSs at h
    split at h
    · obtain ⟨h1, h2⟩ := band h
      exact ss_frz (sSs xs O h2)
    · split at h <;> first | (cases h; done) | skip
      obtain ⟨h1, h2⟩ := band h
      exact ss_cons (sS x O h1) (sSs xs O h2)
theorem sHs : ∀ (hs : List (String × Option Nat × List St)) {X : Cx} {k : Ck} {F : Sem} {c : LC} {W : WX} (_ : OkS X k F c W) (_ : k.hot = false) {hs' : List ExceptHandler} {b : List St} {b' : List Stmt}, chkHs k hs hs' = true → (∀ (W' : WX) (X' : Cx), OkS X' k F c W' → PSs X' b' (tSs c W' F b)) →
    (hs.all (·.2.1.isNone) = true → ∃ l, HdsOk X hs' l ∧ HdsR X F c hs l) ∧ (hs.all (·.2.1.isNone) = false → hs.length = 1 → ∀ pos, PS X (.Try b' hs' [] [] pos) (tS c W F (.try b hs)))
  | [], X, k, F, c, W, O, hh, hs', b, b', h, hb => by
    unfold chkHs at h
    split at h <;> first | (cases h; done) | skip
    exact ⟨fun _ => ⟨[], .nil, hdsR_nil⟩, fun z => nomatch z⟩
  | (C, n, bs) :: r, X, k, F, c, W, O, hh, hs', b, b', h, hb => by
    unfold chkHs at h
    split at h <;> first | (cases h; done) | skip
    rename_i x q1 m su q2 r'
    obtain ⟨h, h6⟩ := band h
    obtain ⟨h, h5⟩ := band h
    obtain ⟨h, h4⟩ := band h
    obtain ⟨h, h3⟩ := band h
    obtain ⟨h1, h2⟩ := band h
    cases (beq_iff_eq.mp h2)
    have hC : C ∈ k.cls := by simpa using h3
    obtain ⟨a2, ha2⟩ := O.O.cat C hC
    obtain ⟨gl, hdb, hnn⟩ := O.O.glo h1
    cases su with
    | nil => cases h4
    | cons b₀ su =>
      cases n with
      | none =>
        cases m with
        | some _ => cases h5
        | none =>
          refine ⟨fun hn => ?_, fun hn hl => ?_⟩
          · obtain ⟨l, l1, l2⟩ := (sHs r O hh h6 hb).1 (by simpa using hn)
            refine ⟨_, .cons ⟨gl, hdb, .inl ha2⟩ (fun a oe cls d pn hz hf => ?_) l1, hdsR_cons O.O hh hC ha2 l2⟩
            exact sSs bs ⟨O.O.suite (xs := k.xs) (xi := none) (cur := none) (fun j a' cls' d' ε' e => nomatch e) (fun ε' e => nomatch e) (fun i' a' cls' d' ε' e => nomatch e), O.kind, fun h => (nomatch h), fun h => (nomatch h)⟩ h5
          · have : r = [] := List.length_eq_zero_iff.mp (by simpa using hl)
            subst this
            simp at hn
      | some i =>
        cases m with
        | none => cases h5
        | some nm =>
          obtain ⟨h5, h9⟩ := band h5
          obtain ⟨h5, h8⟩ := band h5
          obtain ⟨h7, h10⟩ := band h5
          have : r = [] := by simpa using h7
          subst this
          refine ⟨fun hn => by simp at hn, fun _ _ pos => ?_⟩
          unfold chkHs at h6
          split at h6 <;> first | (cases h6; done) | skip
          exact st_try_as O hh h1 hC ha2 h10 h8 hb fun X' c' ε O' => sSs bs O' h9
end
end Dee

set_option Elab.async false
set_option linter.all false
set_option autoImplicit false
set_option maxRecDepth 100000
set_option maxHeartbeats 1000000
/-! Dee: the defs of a program keep their promises, level by level. -/
namespace Dee
open PySem PySem.Spec PyProof.Rows L2
/-- one def of the table: its name, where it stands, its slots' names, its parameters -/
structure Ent where
  nm : Str
  d : He.DefD
  N : List Str
  ps : List Str
def ckOf (es : List Ent) (cls : List String) (e : Ent) : Ck := ⟨e.N, e.d.scope, e.d.scope.names, false, none, fun f => (es[f]?).map fun e => (e.nm, e.ps.length), cls⟩
/-- what the text says of a def -/
structure TextOk (P : Prog) (es : List Ent) (cls : List String) (i : Nat) (e : Ent) : Prop where
  ex : ∃ fn, P.fns[i]? = some fn ∧ fn.ps = e.ps.length ∧ fn.ns = e.N.length ∧ chkSs (ckOf es cls e) fn.body e.d.body = true
  sc : FnScope e.N e.ps e.d.scope
structure PF (prog : Program) (w : World) (K : PySem.W.Frag) (mg : Str → Option Value) (base : Heap) (P : Prog) (es : List Ent) (cls : List String) : Prop where
  text : ∀ (i : Nat) (e : Ent), es[i]? = some e → TextOk P es cls i e
  def_ : ∀ (i : Nat) (e : Ent), es[i]? = some e → ∃ ad fd, mg e.nm = some (.ref ad) ∧ FunD K e.d.name e.d.qual e.d.params e.d.body e.d.scope [] [] ad fd ∧ Binds K fd e.ps []
  blt : ∀ x ∈ blts, mg x = none
  xf : ∀ C fs, P.xf C = some fs → ∃ a, XFact prog w K mg base C fs a
  sub : ∀ C1 fs, P.xf C1 = some fs → ∀ C2 ∈ cls, ∃ a1 a2, mg (Str.ofString C1) = some (.ref a1) ∧ mg (Str.ofString C2) = some (.ref a2) ∧ PySem.W.exmOne K (.ref a1) (.ref a2) = some (P.sub C1 C2)
  cat : ∀ C ∈ cls, ∃ a, mg (Str.ofString C) = some (.ref a)
theorem lk_lt {ds : List D} {n i : Nat} {d : D} (h : lk (ds.map some ++ List.replicate n none) i = some d) : ds[i]? = some d := by
  rw [lk_get] at h
  by_cases hi : i < ds.length
  · rw [List.getElem?_append_left (by simpa using hi), List.getElem?_map] at h
    rw [List.getElem?_eq_getElem hi] at h ⊢
    exact h
  · rw [List.getElem?_append_right (by simpa using hi), List.getElem?_replicate] at h
    split at h <;> cases h
theorem rp_start {g : Gm} {ds : List D} {vs : List V} {M : Mem} {H : Hp} {N : List Str} {n p : Nat} (rs : RepL g M H ds vs) (mr : MRep g M H) (hn : n = N.length) (hp : ds.length = p) : Rp ⟨g, none⟩ (ds.map some ++ List.replicate (n - p) none) M (L2.start N vs) H := by
  have hl := rs.length
  refine ⟨by unfold L2.start; simp; omega, fun i d h => ?_, mr, fun _ _ _ _ _ e => by cases e⟩
  have h := lk_lt h
  obtain ⟨v, e, r⟩ := rs.get h
  refine ⟨v, ?_, r⟩
  unfold L2.start
  have hi : i < vs.length := (List.getElem?_eq_some_iff.mp e).1
  rw [List.getElem?_append_left (by simpa using hi), List.getElem?_map, e]
  rfl
theorem isLoc_ok {sc : Scope} {x : Str} (h : isLoc (sc.names.lookup x) = true) : L2.Loc sc x := by
  unfold isLoc at h
  split at h
  · rename_i q; exact .inl q
  · rename_i q; exact .inr q
  · cases h
section
variable {prog : Program} {w : World} {K : PySem.W.Frag} {mg : Str → Option Value} {base : Heap} {P : Prog} {es : List Ent} {cls : List String}
theorem level (T : PF prog w K mg base P es cls) : ∀ (k i : Nat) (e : Ent), es[i]? = some e → ∀ (ad : Addr) (fd : FuncData), mg e.nm = some (.ref ad) → FunD K e.d.name e.d.qual e.d.params e.d.body e.d.scope [] [] ad fd → ∀ g : Gm, g.mg = mg →
    FnOk prog w K mg base (L2.CX prog w) (k + 3) ad fd e.ps (spF ⟨g, none⟩ (wCall P k i))
  | 0, i, e, he, ad, fd, hm, F, g, hg => ⟨fun vs H Q E ⟨_, _, _, _, _, _, z, _⟩ => z.elim, fun _ _ _ _ _ _ _ _ _ _ _ _ _ ⟨_, _, _, _, _, _, z, _⟩ => z.elim⟩
  | k + 1, i, e, he, ad, fd, hm, F, g, hg => by
    obtain ⟨⟨fn, hfn, hps, hns, hck⟩, S⟩ := T.text i e he
    refine FunD.ok F S (fun vs H Q E ⟨ds, M, Q', E', rs, mr, z, _⟩ => ?_) (fun cdv A outer s H vs Q E hr ⟨ds, M, Q', E', rs, mr, z, gg, tt⟩ => ?_)
    · rw [wCall_succ, hfn] at z
      rw [← rs.length, z.1, hps]
    · rw [wCall_succ, hfn] at z
      obtain ⟨hl, z⟩ := z
      refine ⟨tSs ⟨g, none⟩ (fun cls d _ H => E cls d H) (semAt P k) fn.body, sSs fn.body (k := ckOf es cls e) ⟨?_, S.kind, fun _ => passes_of rfl, fun _ => ⟨rfl, rfl⟩⟩ hck, _, M, _, rp_start rs mr hns hl, z, ?_⟩
      · exact {
          N := rfl
          nd := S.nd
          sc := rfl
          own := fun x h => ⟨isLoc_ok h, .inl rfl⟩
          calm := fun _ => rfl
          un := hr.units
          mg := hg
          blt := T.blt
          tk := takes_of rfl rfl rfl rfl
          xs := fun _ _ _ _ _ z => by cases z
          hot0 := fun _ => rfl
          fns := fun _ f p hp => by
            have hp : (es[f]?).map (fun e => (e.nm, e.ps.length)) = some p := hp
            rw [Option.map_eq_some_iff] at hp
            obtain ⟨e2, he2, rfl⟩ := hp
            obtain ⟨ad2, fd2, m2, F2, B2⟩ := T.def_ f e2 he2
            exact ⟨ad2, fd2, e2.ps, k + 3, m2, F2.kp, B2, hr, fun g' hg' => level T k f e2 he2 ad2 fd2 m2 F2 g' hg'⟩
          cur := fun ε z => by cases z
          sui := fun _ _ _ _ _ z => by cases z
          xf := T.xf
          sub := T.sub
          room := fun _ => hr.mono (by omega)
          cat := T.cat }
      · exact ⟨fun ρ' M' σ' H' q m R' => gg .non M' .non H' q m R'.mem rfl, fun d M' v H' q m mr' r => gg d M' v H' q m mr' r, fun _ _ _ _ q => q.elim, fun _ _ _ _ q => q.elim, fun ε ρ' M' cls d σ' H' q m R' rx => tt ε M' cls d H' q m R'.mem rx⟩
end
end Dee

set_option Elab.async false
set_option linter.all false
set_option autoImplicit false
set_option maxRecDepth 100000
set_option maxHeartbeats 1000000
/-! Dee: the head's facts: defs, free names, exception classes. -/
namespace Dee
open PySem PySem.Spec PyProof.Rows L2 He
/-- an exception class with an __init__ of its own -/
def oexB (K : PySem.W.Frag) (C : Addr) : Bool := (match K.lookup C with
  | some ⟨.type t, _, .cls cd, sl⟩ => decide (t = "type") && (match cd.mro, sl.toList with
    | .ref C' :: bm, [_, _, _, _, some (.builtin n), _] => decide (C' = C) && (decide (n = "ValueError.__new__") && (!cd.hasDel && (cd.hasDict && PySem.HandSPX.refsVE bm)))
    | _, _ => false)
  | _ => false) && decide (PySem.W.findIn K (.ref C) "__setattr__" = some (some (.builtin "object.__setattr__")))
theorem oexB_ok {K : PySem.W.Frag} {C : Addr} (h : oexB K C = true) (exC : PySem.W.subIn K (.ref C) (.type "BaseException") = some true) (tyC : PySem.W.typeIn K (.ref C) = some (.type "type")) (kC : PySem.W.keepIn K (.ref C) = true) : OexC K C := by
  obtain ⟨h, sa⟩ := band h
  refine ⟨?_, of_decide_eq_true sa, exC, tyC, kC⟩
  split at h
  · rename_i t dd cd sl ho
    obtain ⟨h0, h'⟩ := band h
    clear h
    cases (of_decide_eq_true h0)
    split at h'
    · rename_i C' bm k0 k1 k2 k3 n k5 hm hs
      obtain ⟨h1, ha⟩ := band h'
      obtain ⟨h2, hb⟩ := band ha
      obtain ⟨h3, hc⟩ := band hb
      obtain ⟨h4, h5⟩ := band hc
      clear h' ha hb hc
      cases (of_decide_eq_true h1)
      cases (of_decide_eq_true h2)
      have h6 := bnot h3
      clear h3
      obtain ⟨nm, bs, mro, ns, qn, hd, sn, sub, ab, col, del⟩ := cd
      dsimp only at hm h6 h4
      subst hm h6 h4
      have hsl : sl = #[k0, k1, k2, k3, some (.builtin "ValueError.__new__"), k5] := by
        obtain ⟨l⟩ := sl
        simp only at hs
        rw [hs]
      subst hsl
      exact ⟨nm, qn, ns, bs, bm, sn, sub, ab, col, dd, k0, k1, k2, k3, k5, ho, h5⟩
    · cases h'
  · cases h
/-- what is asked of an exception's class -/
def xB (K : PySem.W.Frag) (p : String × List String) : Bool :=
  (Fa.glo (Str.ofString p.1)).ok K && (xfB K (ga K (Str.ofString p.1)) && ((p.2.all fun f => (Fa.noat (Str.ofString p.1) (Str.ofString f)).ok K) && (decide (PySem.W.subIn K (.ref (ga K (Str.ofString p.1))) (.type "ValueError") = some true) &&
    (decide (PySem.W.typeIn K (.ref (ga K (Str.ofString p.1))) = some (.type "type")) && (PySem.W.keepIn K (.ref (ga K (Str.ofString p.1))) &&
      (if p.2.isEmpty then PySem.W.excIn K (ga K (Str.ofString p.1)) veBase "ValueError.__new__"
        else oexB K (ga K (Str.ofString p.1)) && (eqO (PySem.W.findIn K (.ref (ga K (Str.ofString p.1))) "__init__") (some (some (.ref (ma K (ga K (Str.ofString p.1)) "__init__")))) && decide (PySem.W.typeIn K (.ref (ma K (ga K (Str.ofString p.1)) "__init__")) = some (.type "function")))))))))
/-- all that is asked: the defs' names, the free names, the exceptions' classes, which is under which -/
def exK (es : List Ent) (exs : List (String × List String)) (cls : List String) (sub : String → String → Bool) (K : PySem.W.Frag) : Bool :=
  (es.all fun e => (Fa.glo e.nm).ok K) && ((blts.all fun x => (Fa.free x).ok K) && ((exs.all fun p => xB K p) && ((cls.all fun c => (Fa.glo (Str.ofString c)).ok K) && (exs.all fun p => cls.all fun c => (Fa.exm (Str.ofString p.1) (Str.ofString c) (sub p.1 c)).ok K))))
/-- a list's object -/
def isLst (o : Obj) : Bool := match o.cls with
  | .type t => decide (t = "list")
  | _ => false
/-- a part of the heap, no list within -/
def frL (g : Addr → Option Obj) (as : List Addr) : PySem.W.Frag := (frG g as).filter fun q => !isLst q.2
theorem frL_mem {g : Addr → Option Obj} {as : List Addr} {a : Addr} {o : Obj} (h : (frL g as).lookup a = some o) : g a = some o ∧ isLst o = false := by
  have m := lookup_mem h
  unfold frL at m
  obtain ⟨m1, m2⟩ := List.mem_filter.mp m
  exact ⟨frG_mem m1, bnot m2⟩
theorem frL_in {as : List Addr} {h : Heap} : (frL h.get? as).In h := fun _ _ e => (frL_mem e).1
def NoLst (K : PySem.W.Frag) : Prop := ∀ a o, K.lookup a = some o → o.cls ≠ .type "list"
theorem frL_no {g : Addr → Option Obj} {as : List Addr} : NoLst (frL g as) := fun a o e z => by
  have h := (frL_mem e).2
  unfold isLst at h
  rw [z] at h
  simp at h
def obsK (n : Nat) (fn : List DefD) (ex : PySem.W.Frag → Bool) (g : Addr → Option Obj) : AlD := (ex (frL g (asD g n)) && fn.all fun d => d.ok (frL g (asD g n)), fn.map fun d => fnW (frL g (asD g n)) d.at_)
structure SaysK (fn : List DefD) (ex : PySem.W.Frag → Bool) (K : PySem.W.Frag) : Prop where
  ex : ex K = true
  dok : ∀ d ∈ fn, d.ok K = true
  val : ∀ d ∈ fn, fnW K d.at_ = d.val
theorem saysK_of {n : Nat} {fn : List DefD} {ex : PySem.W.Frag → Bool} {g : Addr → Option Obj} (e : obsK n fn ex g = valD fn) : SaysK fn ex (frL g (asD g n)) := by
  have e1 : (ex (frL g (asD g n)) && fn.all fun d => d.ok (frL g (asD g n))) = true := congrArg (fun z : AlD => z.1) e
  have e2 : (fn.map fun d => fnW (frL g (asD g n)) d.at_) = fn.map DefD.val := congrArg (fun z : AlD => z.2) e
  obtain ⟨h1, h2⟩ := band e1
  refine ⟨h1, fun d hd => List.all_eq_true.mp h2 d hd, fun d hd => ?_⟩
  exact List.map_inj_left.mp e2 d hd
def hookK (n : Nat) (fn : List DefD) (ex : PySem.W.Frag → Bool) : PySem.W.Hook where
  α := AlD
  obs := fun s => obsK n fn ex s.heap.get?
  val := fun _ => valD fn
  says := fun _ h => ∃ K : PySem.W.Frag, K.In h ∧ NoLst K ∧ SaysK fn ex K
  of := fun _ _ e => ⟨_, frL_in, frL_no, saysK_of e⟩
  keeps := fun _ _ _ ⟨K, hK, nl, c⟩ k => ⟨K, PySem.W.Frag.In.keeps hK k, nl, c⟩
theorem obsK_eq {n : Nat} {fn : List DefD} {ex : PySem.W.Frag → Bool} {g : Addr → Option Obj} {s : Shared} (h : ∀ a, g a = s.heap.get? a) : obsK n fn ex g = (hookK n fn ex).obs s := by
  have e : g = s.heap.get? := funext h
  rw [e] <;> rfl
/-! ### an exception's __init__ -/
section
variable {P : Program} {w : World} {K : PySem.W.Frag} {mg : Str → Option Value} {base : Heap} {fI C : Addr} {fd : FuncData} {q x y z : Str} {params : Arguments} {scope : Scope}
theorem vis_par {N ps : List Str} (S : FnScope N ps scope) (h : x ∈ ps) : L2.Vis scope x := by
  rcases S.par x h with e | e
  · exact .inl e
  · exact .inr (.inl e)
theorem init1 {f : String} {p1 p2 p3 p4 : Pos} (F : FunD K "__init__" q params [.Assign [.Attribute (.Name "self" p1) (Str.ofString f) p2] (.Name x p3) p4] scope [] [] fI fd) (S : FnScope ["self", x] ["self", x] scope) (T : OexC K C)
    (hno : PySem.W.findIn K (.ref C) (Str.ofString f) = some none) (hx : plainName x = true) : FnOk P w K mg base (L2.CX P w) 1 fI fd ["self", x] (fun vs H Q _ => ∃ e, spI e C [f] vs H Q) := by
  have hx1 : (x == ("__debug__" : Str)) = false ∧ (x == ("__classdict__" : Str)) = false := by
    unfold plainName at hx
    simp only [Bool.and_eq_true, Bool.not_eq_true'] at hx
    exact ⟨hx.1.1, hx.1.2⟩
  refine FunD.ok F S (fun vs H Q E ⟨e, ys, h1, h2, _⟩ => by subst h1; simp [h2]) (fun cdv A outer s H vs Q E hr ⟨e, ys, h1, h2, h3, h4⟩ => ?_)
  match ys, h2 with
  | [y1], _ =>
    subst h1
    refine ⟨_, pss_one (ps_ost (pe_var (i := 0) rfl (vis_par S (by simp))) (pe_var (i := 1) rfl (vis_par S (by simp)) hx1.1 hx1.2)), ?_⟩
    exact ⟨y1, rfl, .ref e, rfl, e, C, rfl, T, hno, .inl ⟨h3, fun dx a1 a2 => h4 dx _ a1 a2 upd_same (by rw [L2.upd_ne a2, upd_same] <;> rfl) fun b b1 b2 => by rw [L2.upd_ne b1, L2.upd_ne b2]⟩⟩
theorem init3 {f g h : String} {a1 a2 a3 a4 b1 b2 b3 b4 c1 c2 c3 c4 : Pos} (F : FunD K "__init__" q params [.Assign [.Attribute (.Name "self" a1) (Str.ofString f) a2] (.Name x a3) a4, .Assign [.Attribute (.Name "self" b1) (Str.ofString g) b2] (.Name y b3) b4, .Assign [.Attribute (.Name "self" c1) (Str.ofString h) c2] (.Name z c3) c4] scope [] [] fI fd)
    (S : FnScope ["self", x, y, z] ["self", x, y, z] scope) (T : OexC K C) (hf : PySem.W.findIn K (.ref C) (Str.ofString f) = some none) (hg : PySem.W.findIn K (.ref C) (Str.ofString g) = some none) (hh : PySem.W.findIn K (.ref C) (Str.ofString h) = some none)
    (hx : plainName x = true) (hy : plainName y = true) (hz : plainName z = true) : FnOk P w K mg base (L2.CX P w) 1 fI fd ["self", x, y, z] (fun vs H Q _ => ∃ e, spI e C [f, g, h] vs H Q) := by
  have pn : ∀ {x : Str}, plainName x = true → (x == ("__debug__" : Str)) = false ∧ (x == ("__classdict__" : Str)) = false := fun {x} hx => by
    unfold plainName at hx
    simp only [Bool.and_eq_true, Bool.not_eq_true'] at hx
    exact ⟨hx.1.1, hx.1.2⟩
  refine FunD.ok F S (fun vs H Q E ⟨e, ys, h1, h2, _⟩ => by subst h1; simp [h2]) (fun cdv A outer s H vs Q E hr ⟨e, ys, h1, h2, h3, h4⟩ => ?_)
  match ys, h2 with
  | [y1, y2, y3], _ =>
    subst h1
    refine ⟨_, pss_cons (ps_ost (pe_var (i := 0) rfl (vis_par S (by simp))) (pe_var (i := 1) rfl (vis_par S (by simp)) (pn hx).1 (pn hx).2)) (pss_cons (ps_ost (pe_var (i := 0) rfl (vis_par S (by simp))) (pe_var (i := 2) rfl (vis_par S (by simp)) (pn hy).1 (pn hy).2))
      (pss_one (ps_ost (pe_var (i := 0) rfl (vis_par S (by simp))) (pe_var (i := 3) rfl (vis_par S (by simp)) (pn hz).1 (pn hz).2)))), ?_⟩
    refine ⟨y1, rfl, .ref e, rfl, e, C, rfl, T, hf, .inl ⟨h3, fun dx n1 n2 => ?_⟩⟩
    refine ⟨y2, rfl, .ref e, rfl, e, C, rfl, T, hg, .inr ⟨dx, _, upd_same, by rw [L2.upd_ne n2, upd_same] <;> rfl, by simp, ?_⟩⟩
    refine ⟨y3, rfl, .ref e, rfl, e, C, rfl, T, hh, .inr ⟨dx, _, by rw [L2.upd_ne (Ne.symm n2), upd_same] <;> rfl, upd_same, by simp, ?_⟩⟩
    exact h4 dx _ n1 n2 (by rw [L2.upd_ne (Ne.symm n2), L2.upd_ne (Ne.symm n2), upd_same]) upd_same fun b m1 m2 => by rw [L2.upd_ne m2, L2.upd_ne m2, L2.upd_ne m1, L2.upd_ne m2]
end
/-! ### all of it -/
theorem pf_of {prog : Program} {w : World} {K : PySem.W.Frag} {mg : Str → Option Value} {base h : Heap} {P : Prog} {es : List Ent} {fn : List DefD} {exs : List (String × List String)} {cls : List String} {sub : String → String → Bool}
    (X : K.In h) (G : h.Ns mainGlobals mg) (c : SaysK fn (exK es exs cls sub) K) (hP : P.xf = fun C => exs.lookup C) (hs : P.sub = sub) (text : ∀ (i : Nat) (e : Ent), es[i]? = some e → TextOk P es cls i e)
    (hes : ∀ e ∈ es, e.d ∈ fn ∧ e.d.at_ = (e.nm, none) ∧ e.d.dfl = [] ∧ e.d.kwd = [])
    (hb : ∀ e ∈ es, ∀ ad fd, FunD K e.d.name e.d.qual e.d.params e.d.body e.d.scope [] [] ad fd → Binds K fd e.ps [])
    (hI : ∀ C fs, (C, fs) ∈ exs → fs ≠ [] → OexC K (ga K (Str.ofString C)) → (∀ f ∈ fs, PySem.W.findIn K (.ref (ga K (Str.ofString C))) (Str.ofString f) = some none) → (fs.map Str.ofString).Nodup ∧ ∃ fd ps, Binds K fd ps [] ∧ FnOk prog w K mg base (L2.CX prog w) 1 (ma K (ga K (Str.ofString C)) "__init__") fd ps (fun vs H Q _ => ∃ e, spI e (ga K (Str.ofString C)) fs vs H Q)) :
    PF prog w K mg base P es cls := by
  obtain ⟨c1, c2⟩ := band (show ((es.all fun e => (Fa.glo e.nm).ok K) && _) = true from c.ex)
  obtain ⟨c2, c3⟩ := band c2
  obtain ⟨c3, c4⟩ := band c3
  obtain ⟨c4, c5⟩ := band c4
  have memx : ∀ {C : String} {fs : List String}, P.xf C = some fs → (C, fs) ∈ exs := fun {C fs} h => by
    rw [hP] at h
    have key : ∀ {l : List (String × List String)}, l.lookup C = some fs → (C, fs) ∈ l := by
      intro l
      induction l with
      | nil => intro h; cases h
      | cons p l ih =>
        intro h
        obtain ⟨p1, p2⟩ := p
        simp only [List.lookup_cons] at h
        cases e : C == p1 with
        | true =>
          rw [e] at h
          cases h
          rw [eq_of_beq e]
          exact List.mem_cons_self
        | false => rw [e] at h; exact List.mem_cons_of_mem _ (ih h)
    exact key h
  refine ⟨text, fun i e he => ?_, fun x hx => free_ok X G (List.all_eq_true.mp c2 x hx), fun C fs hf => ?_, fun C1 fs hf C2 hC => ?_, fun C hC => ⟨_, glo_ok X G (List.all_eq_true.mp c4 C hC)⟩⟩
  · have hm := List.mem_of_getElem? he
    obtain ⟨h1, h2, h3, h4⟩ := hes e hm
    obtain ⟨fd, F⟩ := DefD.funD (c.val _ h1) (c.dok _ h1)
    have e1 : e.d.dvs K = [] := by unfold DefD.dvs; rw [h3] <;> rfl
    have e2 : e.d.kws K = [] := by unfold DefD.kws; rw [h4] <;> rfl
    rw [e1, e2] at F
    have e3 : fAd K e.d.at_ = ga K e.nm := by rw [h2] <;> rfl
    rw [e3] at F
    exact ⟨_, fd, glo_ok X G (List.all_eq_true.mp c1 e hm), F, hb e hm _ fd F⟩
  · have hx := List.all_eq_true.mp c3 _ (memx hf)
    unfold xB at hx
    obtain ⟨x1, hx⟩ := band hx
    obtain ⟨x2, hx⟩ := band hx
    obtain ⟨x3, hx⟩ := band hx
    obtain ⟨x4, hx⟩ := band hx
    obtain ⟨x5, hx⟩ := band hx
    obtain ⟨x6, hx⟩ := band hx
    have hc := xfB_ok x2
    have hty : PySem.W.typeIn K (.ref (ga K (Str.ofString C))) = some (.type "type") := of_decide_eq_true x5
    have hno : ∀ f ∈ fs, PySem.W.findIn K (.ref (ga K (Str.ofString C))) (Str.ofString f) = some none := fun f hf' => eqO_ok (List.all_eq_true.mp x3 f hf')
    refine ⟨ga K (Str.ofString C), ⟨glo_ok X G x1, hc, hno, of_decide_eq_true x4, hty, x6, ?_⟩⟩
    by_cases f0 : fs = []
    · subst f0
      exact .inl ⟨rfl, veBase, hx, PySem.F.excBase_ValueError⟩
    · have fe : fs.isEmpty = false := by simpa using f0
      rw [fe, if_neg Bool.false_ne_true] at hx
      obtain ⟨y1, hx⟩ := band hx
      obtain ⟨y2, y3⟩ := band hx
      have T := oexB_ok y1 hc.exC hty x6
      obtain ⟨nd, fd, ps, B, F⟩ := hI C fs (memx hf) f0 T hno
      exact .inr ⟨f0, nd, T, _, fd, ps, eqO_ok y2, of_decide_eq_true y3, B, F⟩
  · have hx := List.all_eq_true.mp c3 _ (memx hf)
    unfold xB at hx
    obtain ⟨x1, _⟩ := band hx
    have z := List.all_eq_true.mp (List.all_eq_true.mp c5 _ (memx hf)) C2 hC
    rw [hs]
    exact ⟨_, _, glo_ok X G x1, glo_ok X G (List.all_eq_true.mp c4 C2 hC), exm_ok z⟩
/-- the law's promise from what the small language says -/
theorem law_sp {P : Prog} {mg : Str → Option Value} {K : PySem.W.Frag} {k i : Nat} (nl : NoLst K) (hw : ∀ ns : List Int, ns.length ≤ 63 → wCall P k i [.lst (ns.map D.int)] (fun _ => none) (fun d _ => d = .bl true) (fun _ _ => False))
    (H : Hp) (a : Addr) (ns : List Int) (hl : ns.length ≤ 63) (hO : Only H) (hS : SqL K H a (ns.map V.int)) : spF ⟨⟨mg, fun _ => False⟩, none⟩ (wCall P k i) [.ref a] H (fun v _ => v = .bl true) fun _ _ _ => False := by
  have hr : Rd H a (.lst (ns.map V.int)) := by
    rcases hS with h | ⟨o, its, n, e, hc, _⟩
    · exact h
    · exact absurd hc (nl a o e)
  have rl : ∀ ns : List Int, RepL ⟨mg, fun _ => False⟩ (fun _ => none) H (ns.map D.int) (ns.map V.int) := fun ns => by
    induction ns with
    | nil => rfl
    | cons n ns ih => exact ⟨_, _, rfl, rfl, ih⟩
  have r0 : RepL ⟨mg, fun _ => False⟩ (fun _ => none) H [.lst (ns.map D.int)] [.ref a] := ⟨.ref a, [], rfl, ⟨a, ns.map V.int, rfl, ⟨rfl, fun z => z⟩, hr, rl ns⟩, rfl⟩
  have m0 : MRep ⟨mg, fun _ => False⟩ (fun _ => none) H := ⟨fun a o e => (nomatch e), fun a h => False.elim h⟩
  refine ⟨_, _, _, _, r0, m0, hw ns hl, fun d M' v H' q m mr r => ?_, fun _ _ _ _ _ q => q.elim⟩
  subst q
  exact r
/-- a promise that nothing is raised -/
theorem FnOk.never {P : Program} {w : World} {K : PySem.W.Frag} {mg : Str → Option Value} {base : Heap} {k : Nat} {f : Addr} {fd : FuncData} {ps : List Str} {sp : Sp} (F : FnOk P w K mg base (L2.CX P w) k f fd ps sp) :
    FnOk P w K mg base CX0 k f fd ps (fun vs H Q _ => sp vs H Q fun _ _ _ => False) := by
  refine ⟨fun vs H Q E h => F.len vs H Q _ h, fun A outer s H args us vs Q E hr e0 hb r h => ?_⟩
  refine codeAny_mono (F.run A outer s H args us vs Q _ hr e0 hb r h) fun r s' q => ?_
  cases r with
  | ok fl => cases fl <;> exact q
  | error e =>
    obtain ⟨_, _, _, _, _, _, _, _, _, _, _, _, z⟩ := q
    exact z.elim
end Dee

set_option Elab.async false
set_option linter.all false
set_option autoImplicit false
set_option maxRecDepth 100000
set_option maxHeartbeats 2000000
/-! Dee: what the laws' common defs do; plain Lean. -/
namespace DL
open PySem Dee
theorem wSs_cons {F : Dee.Sem} {s : Dee.St} {ss : List Dee.St} {σ : Dee.Env} {M : Mem} {D : Dee.Ends} : wSs F (s :: ss) σ M D = wS F s σ M { D with nx := fun σ1 M1 => wSs F ss σ1 M1 D } := by simp only [wSs]
theorem wSs_nil {F : Dee.Sem} {σ : Dee.Env} {M : Mem} {D : Dee.Ends} : wSs F [] σ M D = D.nx σ M := by simp only [wSs]
theorem ix_nat {n : Nat} {i : Int} (h : 0 ≤ i) (h2 : i < n) : Dee.ixN n i = some i.toNat := by unfold Dee.ixN; rw [if_pos h, if_pos h2]
theorem sub_at {M : Mem} {p : Nat} {xs : List Dee.D} {i : Int} {v : Dee.D} {Q : Dee.D → Prop} (h : M p = some (.lst xs)) (hi : 0 ≤ i) (hx : xs[i.toNat]? = some v) : subop (.ref p) (.int i) M Q = Q v := by
  have hl : i.toNat < xs.length := (List.getElem?_eq_some_iff.mp hx).1
  unfold subop dctM seqM
  simp only [h, onI, ob, ix_nat hi (show i < (xs.length : Int) by omega), hx]
theorem sub_lst {M : Mem} {xs : List Dee.D} {i : Int} {v : Dee.D} {Q : Dee.D → Prop} (hi : 0 ≤ i) (hx : xs[i.toNat]? = some v) : subop (.lst xs) (.int i) M Q = Q v := by
  have hl : i.toNat < xs.length := (List.getElem?_eq_some_iff.mp hx).1
  unfold subop dctM seqM
  simp only [onI, ob, ix_nat hi (show i < (xs.length : Int) by omega), hx]
theorem sub_tup {M : Mem} {xs : List Dee.D} {i : Int} {v : Dee.D} {Q : Dee.D → Prop} (hi : 0 ≤ i) (hx : xs[i.toNat]? = some v) : subop (.tup xs) (.int i) M Q = Q v := by
  have hl : i.toNat < xs.length := (List.getElem?_eq_some_iff.mp hx).1
  unfold subop dctM seqM
  simp only [onI, ob, ix_nat hi (show i < (xs.length : Int) by omega), hx]
theorem set_at {M : Mem} {p : Nat} {xs : List Dee.D} {i : Int} {v : Dee.D} {Q : Mem → Prop} (h : M p = some (.lst xs)) (hi : 0 ≤ i) (hx : i.toNat < xs.length) : setop (.ref p) (.int i) v M Q = Q (up M p (.lst (xs.set i.toNat v))) := by
  unfold setop onR
  simp only [h, onI, ob, ix_nat hi (show i < (xs.length : Int) by omega)]
theorem up_at {M : Mem} {p : Nat} {o : MO} : up M p o p = some o := by unfold up; rw [if_pos rfl]
/-- the pot -/
def Pot (M : Mem) (p : Nat) : Prop := ∃ (cs : List Int) (a b c : Int), M p = some (.lst [.lst (cs.map D.int), .int a, .int b, .int c]) ∧ (∀ x ∈ cs, 0 ≤ x) ∧ 0 ≤ a ∧ 0 ≤ b ∧ b < 2147483647 ∧ 0 ≤ c
/-- _law_draw -/
def drawFn : Fn := ⟨2, 4, [.ifs (.cmp .lt (.var 1) (.int 2)) [.ret (.int 0)] [], .ifs (.cmp .gt (.sub (.var 0) (.int 3)) (.int 0)) [.asg (.nm 3) (.bin .mod (.bi .int false [.sub (.var 0) (.int 3)]) (.var 1)), .asub (.var 0) (.int 3) (.bin .fdiv (.sub (.var 0) (.int 3)) (.var 1)), .ret (.var 3)] [], .asg (.nm 2) (.int 0), .ifs (.cmp .lt (.sub (.var 0) (.int 1)) (.bi .len false [.sub (.var 0) (.int 0)])) [.asg (.nm 2) (.sub (.sub (.var 0) (.int 0)) (.sub (.var 0) (.int 1))), .asub (.var 0) (.int 1) (.bin .add (.sub (.var 0) (.int 1)) (.int 1)), .ifs (.cmp .ge (.var 2) (.bin .pow (.int 10) (.int 18))) [.asub (.var 0) (.int 3) (.bin .fdiv (.var 2) (.var 1)), .ret (.bin .mod (.bi .int false [.var 2]) (.var 1))] []] [], .asub (.var 0) (.int 2) (.bin .mod (.bi .int false [.bin .add (.bin .add (.bin .mul (.sub (.var 0) (.int 2)) (.int 48271)) (.var 2)) (.int 12345)]) (.int 2147483647)), .ret (.bin .mod (.bi .int false [.bin .add (.bin .fdiv (.bin .mul (.sub (.var 0) (.int 2)) (.sub (.var 0) (.int 2))) (.int 64)) (.bin .fdiv (.sub (.var 0) (.int 2)) (.int 7))]) (.var 1))]⟩
theorem draw_tail {F : Dee.Sem} {M : Mem} {p : Nat} {many cell : Int} {x3 : Option Dee.D} {Q : Dee.K} {Dn : Dee.Ends} (hp : Pot M p) (h1 : 2 ≤ many) (h2 : many < 1000) (hD : Dn.rt = Q) (hQ : ∀ r M', 0 ≤ r → r < many → Pot M' p → Q (.int r) M') :
    wSs F [.asub (.var 0) (.int 2) (.bin .mod (.bi .int false [.bin .add (.bin .add (.bin .mul (.sub (.var 0) (.int 2)) (.int 48271)) (.var 2)) (.int 12345)]) (.int 2147483647)), .ret (.bin .mod (.bi .int false [.bin .add (.bin .fdiv (.bin .mul (.sub (.var 0) (.int 2)) (.sub (.var 0) (.int 2))) (.int 64)) (.bin .fdiv (.sub (.var 0) (.int 2)) (.int 7))]) (.var 1))]
      [some (.ref p), some (.int many), some (.int cell), x3] M Dn := by
  obtain ⟨cs, a, b, c, hM, hcs, ha, hb, hb2, hc⟩ := hp
  have big : ∀ x : Int, 0 ≤ x → x < 2147483647 → x.natAbs < 2 ^ 100000 := fun x u v => Nat.lt_of_lt_of_le (show x.natAbs < 2 ^ 31 by omega) (Nat.pow_le_pow_right (by decide) (by decide))
  rw [wSs_cons]
  simp only [wS, wE, wEs, lk, ob, onI, on1, asB, binop, biop, sub_at hM (i := 2) (v := .int b) (by decide) rfl]
  refine ⟨⟨big b hb hb2, big 48271 (by decide) (by decide)⟩, by decide, ?_⟩
  rw [set_at hM (by decide) (by simp)]
  have hz : 0 ≤ (b * 48271 + cell + 12345) % 2147483647 := Int.emod_nonneg _ (by decide)
  have hz2 : (b * 48271 + cell + 12345) % 2147483647 < 2147483647 := Int.emod_lt_of_pos _ (by decide)
  generalize (b * 48271 + cell + 12345) % 2147483647 = z at hz hz2
  have hM' : (up M p (.lst (List.set [.lst (cs.map D.int), .int a, .int b, .int c] (2 : Int).toNat (.int z)))) p = some (.lst [.lst (cs.map D.int), .int a, .int z, .int c]) := up_at
  rw [wSs_cons]
  simp only [wS, wE, wEs, lk, ob, onI, on1, asB, binop, biop, sub_at hM' (i := 2) (v := .int z) (by decide) rfl]
  refine ⟨⟨big z hz hz2, big z hz hz2⟩, by decide, by decide, by omega, ?_⟩
  rw [hD]
  exact hQ _ _ (Int.emod_nonneg _ (by omega)) (Int.emod_lt_of_pos _ (by omega)) ⟨cs, a, z, c, hM', hcs, ha, hz, hz2, hc⟩
theorem draw {P : Prog} {i k : Nat} (hi : P.fns[i]? = some drawFn) {M : Mem} {p : Nat} {many : Int} {Q : Dee.K} {E : Dee.KX} (hp : Pot M p) (h1 : 1 ≤ many) (h2 : many < 1000) (hQ : ∀ r M', 0 ≤ r → r < many → Pot M' p → Q (.int r) M') : wCall P (k + 1) i [.ref p, .int many] M Q E := by
  have hp0 := hp
  obtain ⟨cs, a, b, c, hM, hcs, ha, hb, hb2, hc⟩ := hp
  rw [wCall_succ, hi]
  refine ⟨rfl, ?_⟩
  unfold drawFn
  generalize semAt P k = F
  simp only [List.map, List.replicate, List.cons_append, List.nil_append, Nat.reduceSub]
  rw [wSs_cons]
  simp only [wS, wE, lk, ob, onI, asB, cmpop, plt, D.dep, wSs_nil, decide_eq_true_eq]
  refine ⟨by decide, ?_⟩
  split
  · rw [wSs_cons]
    simp only [wS, wE]
    exact hQ 0 M (by decide) (by omega) hp0
  rename_i hm
  rw [wSs_cons]
  simp only [wS, wE, lk, ob, onI, asB, cmpop, plt, D.dep, wSs_nil, decide_eq_true_eq, sub_at hM (i := 3) (v := .int c) (by decide) rfl]
  split
  · rename_i hc0
    rw [wSs_cons]
    simp only [wS, wE, wEs, lk, ob, onI, on1, binop, biop, wTg, List.set, sub_at hM (i := 3) (v := .int c) (by decide) rfl]
    refine ⟨by omega, ?_⟩
    rw [wSs_cons]
    simp only [wS, wE, wEs, lk, ob, onI, on1, binop, biop, wTg, List.set, sub_at hM (i := 3) (v := .int c) (by decide) rfl]
    refine ⟨by omega, ?_⟩
    rw [set_at hM (by decide) (by simp), wSs_cons]
    simp only [wS, wE, lk, ob]
    exact hQ _ _ (Int.emod_nonneg _ (by omega)) (Int.emod_lt_of_pos _ (by omega)) ⟨cs, a, b, c / many, up_at, hcs, ha, hb, hb2, Int.ediv_nonneg hc (by omega)⟩
  rw [wSs_cons]
  simp only [wS, wE, wTg, List.set]
  rw [wSs_cons]
  simp only [wS, wE, wEs, lk, ob, onI, on1, asB, cmpop, biop, seqM, dctM, plt, D.dep, wSs_nil, decide_eq_true_eq, sub_at hM (i := 1) (v := .int a) (by decide) rfl, sub_at hM (i := 0) (v := .lst (cs.map D.int)) (by decide) rfl]
  refine ⟨by decide, ?_⟩
  split
  · rename_i hlt
    rw [List.length_map] at hlt
    obtain ⟨x, hx⟩ : ∃ x, cs[a.toNat]? = some x := ⟨cs[a.toNat]'(by omega), List.getElem?_eq_getElem _⟩
    have hx0 : 0 ≤ x := hcs x (List.mem_of_getElem? hx)
    have hx' : (cs.map D.int)[a.toNat]? = some (D.int x) := by rw [List.getElem?_map, hx]; rfl
    rw [wSs_cons]
    simp only [wS, wE, lk, ob, onI, wTg, List.set, sub_at hM (i := 1) (v := .int a) (by decide) rfl, sub_at hM (i := 0) (v := .lst (cs.map D.int)) (by decide) rfl, sub_lst ha hx']
    rw [wSs_cons]
    simp only [wS, wE, lk, ob, onI, binop, sub_at hM (i := 1) (v := .int a) (by decide) rfl]
    rw [set_at hM (by decide) (by simp)]
    have hM' : (up M p (.lst (List.set [.lst (cs.map D.int), .int a, .int b, .int c] (1 : Int).toNat (.int (a + 1))))) p = some (.lst [.lst (cs.map D.int), .int (a + 1), .int b, .int c]) := up_at
    generalize up M p (.lst (List.set [.lst (cs.map D.int), .int a, .int b, .int c] (1 : Int).toNat (.int (a + 1)))) = M1 at hM'
    rw [wSs_cons]
    simp only [wS, wE, lk, ob, onI, asB, cmpop, binop, wSs_nil, decide_eq_true_eq]
    refine ⟨by decide, ?_⟩
    split
    · rw [wSs_cons]
      simp only [wS, wE, lk, ob, onI, binop]
      refine ⟨by omega, ?_⟩
      rw [set_at hM' (by decide) (by simp), wSs_cons]
      simp only [wS, wE, wEs, lk, ob, onI, on1, binop, biop]
      refine ⟨by omega, ?_⟩
      exact hQ _ _ (Int.emod_nonneg _ (by omega)) (Int.emod_lt_of_pos _ (by omega)) ⟨cs, a + 1, b, x / many, up_at, hcs, by omega, hb, hb2, Int.ediv_nonneg hx0 (by omega)⟩
    · exact draw_tail ⟨cs, a + 1, b, c, hM', hcs, by omega, hb, hb2, hc⟩ (by omega) h2 rfl hQ
  · exact draw_tail hp0 (by omega) h2 rfl hQ
/-- _law_pick, d the number of _law_draw -/
def pickFn (d : Nat) : Fn := ⟨2, 2, [.ret (.sub (.var 1) (.call d [.var 0, .bi .len false [.var 1]]))]⟩
theorem pick {P : Prog} {d i k : Nat} (hd : P.fns[d]? = some drawFn) (hi : P.fns[i]? = some (pickFn d)) {M : Mem} {p : Nat} {xs : List Dee.D} {Q : Dee.K} {E : Dee.KX} (hp : Pot M p) (h1 : 1 ≤ xs.length) (h2 : xs.length < 1000) (hQ : ∀ v M', v ∈ xs → Pot M' p → Q v M') :
    wCall P (k + 2) i [.ref p, .lst xs] M Q E := by
  rw [wCall_succ, hi]
  refine ⟨rfl, ?_⟩
  unfold pickFn
  simp only [List.map, List.replicate, List.cons_append, List.nil_append, Nat.reduceSub]
  rw [wSs_cons]
  simp only [wS, wE, wEs, lk, ob, on1, biop, dctM, seqM]
  refine draw hd hp (by omega) (by omega) fun r M' r0 r1 hp' => ?_
  have hr : r.toNat < xs.length := by omega
  rw [sub_lst r0 (List.getElem?_eq_getElem hr)]
  exact hQ _ _ (List.getElem_mem hr) hp'
theorem lcL_none {turn : Dee.D → Mem → (Option Dee.D → Mem → Prop) → Prop} {Q : List Dee.D → Mem → Prop} {M : Mem} : ∀ {xs acc : List Dee.D}, (∀ x ∈ xs, ∀ R : Option Dee.D → Mem → Prop, R none M → turn x M R) → Q acc M → lcL turn Q xs acc M
  | [], acc, _, h => h
  | x :: xs, acc, ht, h => ht x (by simp) _ (lcL_none (fun y hy => ht y (by simp [hy])) h)
/-- values of which _law_same can be asked -/
def sv : Nat → Dee.D → Prop
  | _, .non => True
  | _, .bl _ => True
  | _, .int _ => True
  | _, .str _ => True
  | n + 1, .tup xs => xs.length ≤ 1000 ∧ ∀ x ∈ xs, sv n x
  | n + 1, .lst xs => xs.length ≤ 1000 ∧ ∀ x ∈ xs, sv n x
  | _, _ => False
/-- _law_same, i its own number -/
def sameFn (i : Nat) : Fn := ⟨2, 3, [.ifs (.or [.isi (.var 1) [.tuple], .isi (.var 1) [.list]]) [.ifs (.or [.cmp .ne (.isi (.var 1) [.tuple]) (.isi (.var 0) [.tuple]), .cmp .ne (.isi (.var 1) [.list]) (.isi (.var 0) [.list])]) [.ret (.bl false)] [], .ifs (.cmp .ne (.bi .len false [.var 0]) (.bi .len false [.var 1])) [.ret (.bl false)] [], .ret (.cmp .eq (.comp false (.var 2) (.nm 2) .rng [.bi .len false [.var 1]] [.not (.call i [.sub (.var 0) (.var 2), .sub (.var 1) (.var 2)])]) (.lst false []))] [], .ifs (.isN false (.var 1)) [.ret (.isN false (.var 0))] [], .ifs (.isi (.var 1) [.str]) [.ret (.and [.isi (.var 0) [.str], .cmp .eq (.var 0) (.var 1)])] [], .ret (.and [.isi (.var 0) [.int], .cmp .eq (.isi (.var 0) [.bool]) (.isi (.var 1) [.bool]), .cmp .eq (.var 0) (.var 1)])]⟩
theorem peq_bl (b : Bool) : peq (.bl b) (.bl b) = true := by cases b <;> rfl
theorem same_flat {P : Prog} {i : Nat} (hi : P.fns[i]? = some (sameFn i)) (k : Nat) {d : Dee.D} {M : Mem} {Q : Dee.K} {E : Dee.KX} (h : sv 0 d) (hQ : Q (.bl true) M) : wCall P (k + 1) i [d, d] M Q E := by
  rw [wCall_succ, hi]
  refine ⟨rfl, ?_⟩
  unfold sameFn
  generalize semAt P k = F
  simp only [List.map, List.replicate, List.cons_append, List.nil_append, Nat.reduceSub]
  cases d with
  | non =>
    rw [wSs_cons]
    simp only [wS, wE, wOr, lk, ob, asB, isiop, wSs_nil]
    rw [if_neg (by decide), if_neg (by decide), wSs_cons]
    simp only [wS, wE, lk, ob, asB]
    rw [if_pos (by simp), wSs_cons]
    simpa [wS, wE, lk, ob] using hQ
  | bl b =>
    rw [wSs_cons]
    simp only [wS, wE, wOr, lk, ob, asB, isiop, tyOf, wSs_nil]
    rw [if_neg (by decide), if_neg (by decide), wSs_cons]
    simp only [wS, wE, lk, ob, asB, wSs_nil]
    rw [if_neg (by simp), wSs_cons]
    simp only [wS, wE, lk, ob, asB, isiop, tyOf, wSs_nil]
    rw [if_neg (by decide), wSs_cons]
    simp only [wS, wE, wAnd, lk, ob, asB, isiop, tyOf, cmpop, iceL, D.dep]
    rw [if_pos (by decide)]
    refine ⟨by decide, ?_⟩
    rw [if_pos (by decide)]
    refine ⟨by decide, ?_⟩
    rw [peq_bl]
    exact hQ
  | int j =>
    rw [wSs_cons]
    simp only [wS, wE, wOr, lk, ob, asB, isiop, tyOf, wSs_nil]
    rw [if_neg (by decide), if_neg (by decide), wSs_cons]
    simp only [wS, wE, lk, ob, asB, wSs_nil]
    rw [if_neg (by simp), wSs_cons]
    simp only [wS, wE, lk, ob, asB, isiop, tyOf, wSs_nil]
    rw [if_neg (by decide), wSs_cons]
    simp only [wS, wE, wAnd, lk, ob, asB, isiop, tyOf, cmpop, iceL, D.dep]
    rw [if_pos (by decide)]
    refine ⟨by decide, ?_⟩
    rw [if_pos (by decide)]
    refine ⟨by decide, ?_⟩
    simpa only [peq, beq_self_eq_true] using hQ
  | str z =>
    rw [wSs_cons]
    simp only [wS, wE, wOr, lk, ob, asB, isiop, tyOf, wSs_nil]
    rw [if_neg (by decide), if_neg (by decide), wSs_cons]
    simp only [wS, wE, lk, ob, asB, wSs_nil]
    rw [if_neg (by simp), wSs_cons]
    simp only [wS, wE, lk, ob, asB, isiop, tyOf, wSs_nil]
    rw [if_pos (by decide), wSs_cons]
    simp only [wS, wE, wAnd, lk, ob, asB, isiop, tyOf, cmpop, iceL, D.dep]
    rw [if_pos (by decide)]
    refine ⟨by decide, ?_⟩
    simpa only [peq, beq_self_eq_true] using hQ
  | _ => exact h.elim
theorem sv_up : ∀ {n m : Nat} {d : Dee.D}, n ≤ m → sv n d → sv m d
  | _, _, .non, _, _ => by unfold sv; trivial
  | _, _, .bl _, _, _ => by unfold sv; trivial
  | _, _, .int _, _, _ => by unfold sv; trivial
  | _, _, .str _, _, _ => by unfold sv; trivial
  | n + 1, m + 1, .tup xs, h, hs => by
    unfold sv at hs ⊢
    exact ⟨hs.1, fun x hx => sv_up (by omega) (hs.2 x hx)⟩
  | n + 1, m + 1, .lst xs, h, hs => by
    unfold sv at hs ⊢
    exact ⟨hs.1, fun x hx => sv_up (by omega) (hs.2 x hx)⟩
  | _, _, .dct _ _, _, hs => by unfold sv at hs; exact hs.elim
  | _, _, .obj _ _, _, hs => by unfold sv at hs; exact hs.elim
  | _, _, .ref _, _, hs => by unfold sv at hs; exact hs.elim
  | _, _, .clo _ _, _, hs => by unfold sv at hs; exact hs.elim
theorem same {P : Prog} {i : Nat} (hi : P.fns[i]? = some (sameFn i)) : ∀ (n k : Nat) {d : Dee.D} {M : Mem} {Q : Dee.K} {E : Dee.KX}, sv n d → Q (.bl true) M → wCall P (k + n + 1) i [d, d] M Q E := by
  intro n
  induction n with
  | zero => exact fun k => same_flat hi k
  | succ n ih =>
    intro k d M Q E h hQ
    have turn : ∀ (xs : List Dee.D) (d : Dee.D), (∀ (j : Nat) (v : Dee.D) (R : Dee.D → Prop), xs[j]? = some v → R v → subop d (.int j) M R) → (∀ x ∈ xs, sv n x) → ∀ x ∈ rngF xs.length, ∀ R : Option Dee.D → Mem → Prop, R none M →
        (fun (x : Dee.D) (M : Mem) (R : Option Dee.D → Mem → Prop) => wTg (.nm 2) x (wipeD [some d, some d, none] (tgSlots (.nm 2))) fun σ1 => wCs (semAt P (k + (n + 1))) [.not (.call i [.sub (.var 0) (.var 2), .sub (.var 1) (.var 2)])] σ1 M (fun b M2 => if b then wE (semAt P (k + (n + 1))) (.var 2) σ1 M2 (fun y M3 => R (some y) M3) (fun _ _ => False) else R none M2) (fun _ _ => False)) x M R := by
      intro xs d hsub hx x hxm R hR
      unfold rngF at hxm
      obtain ⟨j, hj, rfl⟩ := List.mem_map.mp hxm
      have hj : j < xs.length := by simpa using hj
      simp only [wTg, wipeD, tgSlots, List.set, wCs, wE, wEs, lk, ob, asB]
      refine hsub j xs[j] _ (List.getElem?_eq_getElem hj) ?_
      refine hsub j xs[j] _ (List.getElem?_eq_getElem hj) ?_
      refine ih k (hx _ (List.getElem_mem hj)) ?_
      simpa [asB] using hR
    have fin : ∀ (xs : List Dee.D) (d : Dee.D) (D0 : Dee.Ends), D0.rt = Q → (∀ (j : Nat) (v : Dee.D) (R : Dee.D → Prop), xs[j]? = some v → R v → subop d (.int j) M R) → xs.length ≤ 1000 → (∀ x ∈ xs, sv n x) → (∀ R : Dee.K, R (.int xs.length) M → biop .len false [d] M R) →
        wSs (semAt P (k + (n + 1))) [.ret (.cmp .eq (.comp false (.var 2) (.nm 2) .rng [.bi .len false [.var 1]] [.not (.call i [.sub (.var 0) (.var 2), .sub (.var 1) (.var 2)])]) (.lst false []))] [some d, some d, none] M D0 := by
      intro xs d D0 hD hsub hl hx hlen
      rw [wSs_cons]
      simp only [wS, wE, wEs, lk, ob]
      refine hlen _ ?_
      simp only [itop, onI, line]
      refine ⟨by omega, ?_⟩
      refine lcL_none (turn xs d hsub hx) ?_
      simp only [newL, cmpop, iceL, D.dep, depL, peq, peqL, if_neg Bool.false_ne_true]
      rw [hD]
      exact ⟨by decide, hQ⟩
    have goT : ∀ xs : List Dee.D, d = .tup xs → xs.length ≤ 1000 → (∀ x ∈ xs, sv n x) → wCall P (k + (n + 1) + 1) i [d, d] M Q E := by
      intro xs hd hl hx
      subst hd
      rw [wCall_succ, hi]
      refine ⟨rfl, ?_⟩
      unfold sameFn
      simp only [List.map, List.replicate, List.cons_append, List.nil_append, Nat.reduceSub]
      rw [wSs_cons]
      simp only [wS, wE, wOr, lk, ob, asB, isiop, tyOf, wSs_nil]
      rw [if_pos (by decide), if_pos True.intro, wSs_cons]
      simp only [wS, wE, wOr, lk, ob, asB, isiop, tyOf, cmpop, iceL, D.dep, wSs_nil]
      refine ⟨by decide, ?_⟩
      rw [peq_bl, if_neg (by decide)]
      refine ⟨by decide, ?_⟩
      rw [peq_bl, if_neg (by decide), wSs_cons]
      simp only [wS, wE, wEs, lk, ob, on1, asB, biop, dctM, seqM, cmpop, iceL, D.dep, wSs_nil]
      refine ⟨by decide, ?_⟩
      rw [if_neg (by simp [peq])]
      exact fin xs (.tup xs) _ rfl (fun j v R h r => by rw [sub_tup (by omega) (by simpa using h)]; exact r) hl hx (fun R r => r)
    have goL : ∀ xs : List Dee.D, d = .lst xs → xs.length ≤ 1000 → (∀ x ∈ xs, sv n x) → wCall P (k + (n + 1) + 1) i [d, d] M Q E := by
      intro xs hd hl hx
      subst hd
      rw [wCall_succ, hi]
      refine ⟨rfl, ?_⟩
      unfold sameFn
      simp only [List.map, List.replicate, List.cons_append, List.nil_append, Nat.reduceSub]
      rw [wSs_cons]
      simp only [wS, wE, wOr, lk, ob, asB, isiop, tyOf, wSs_nil]
      rw [if_neg (by decide), if_pos (by decide), wSs_cons]
      simp only [wS, wE, wOr, lk, ob, asB, isiop, tyOf, cmpop, iceL, D.dep, wSs_nil]
      refine ⟨by decide, ?_⟩
      rw [peq_bl, if_neg (by decide)]
      refine ⟨by decide, ?_⟩
      rw [peq_bl, if_neg (by decide), wSs_cons]
      simp only [wS, wE, wEs, lk, ob, on1, asB, biop, dctM, seqM, cmpop, iceL, D.dep, wSs_nil]
      refine ⟨by decide, ?_⟩
      rw [if_neg (by simp [peq])]
      exact fin xs (.lst xs) _ rfl (fun j v R h r => by rw [sub_lst (by omega) (by simpa using h)]; exact r) hl hx (fun R r => r)
    cases d with
    | tup xs => exact goT xs rfl h.1 h.2
    | lst xs => exact goL xs rfl h.1 h.2
    | non => exact same_flat hi _ (by unfold sv; trivial) hQ
    | bl _ => exact same_flat hi _ (by unfold sv; trivial) hQ
    | int _ => exact same_flat hi _ (by unfold sv; trivial) hQ
    | str _ => exact same_flat hi _ (by unfold sv; trivial) hQ
    | _ => exact h.elim
end DL

set_option Elab.async false
set_option linter.all false
set_option autoImplicit false
set_option maxRecDepth 100000
set_option maxHeartbeats 0
/-! The defs of the law in the small language (printed by gen.py). -/
namespace K00
open PySem PySem.Spec PyProof.Rows L2 Dee
def top (i : Nat) : Stmt := PySem.Challenge.pw_bestterms_k00_errors_alone.main.body.getD i (.Pass ⟨0, 0, 0, 0⟩)
def f0 : Fn := ⟨1, 2, [.ret (.lst true [.comp false (.bi .abs false [.var 1]) (.nm 1) .seq [.slc (.var 0) none (some (.int 63))] [], .int 0, .int 20011, .int 0])]⟩
abbrev s0 : Stmt := top 14
def e0 : Ent := ⟨"_law_pot", ⟨("_law_pot", none), "_law_pot", "_law_pot", defArgs s0, defBody s0, defScope s0, [], []⟩, ["script", "cell"], ["script"]⟩
def f1 : Fn := ⟨2, 4, [.ifs (.cmp .lt (.var 1) (.int 2)) [.ret (.int 0)] [], .ifs (.cmp .gt (.sub (.var 0) (.int 3)) (.int 0)) [.asg (.nm 3) (.bin .mod (.bi .int false [.sub (.var 0) (.int 3)]) (.var 1)), .asub (.var 0) (.int 3) (.bin .fdiv (.sub (.var 0) (.int 3)) (.var 1)), .ret (.var 3)] [], .asg (.nm 2) (.int 0), .ifs (.cmp .lt (.sub (.var 0) (.int 1)) (.bi .len false [.sub (.var 0) (.int 0)])) [.asg (.nm 2) (.sub (.sub (.var 0) (.int 0)) (.sub (.var 0) (.int 1))), .asub (.var 0) (.int 1) (.bin .add (.sub (.var 0) (.int 1)) (.int 1)), .ifs (.cmp .ge (.var 2) (.bin .pow (.int 10) (.int 18))) [.asub (.var 0) (.int 3) (.bin .fdiv (.var 2) (.var 1)), .ret (.bin .mod (.bi .int false [.var 2]) (.var 1))] []] [], .asub (.var 0) (.int 2) (.bin .mod (.bi .int false [.bin .add (.bin .add (.bin .mul (.sub (.var 0) (.int 2)) (.int 48271)) (.var 2)) (.int 12345)]) (.int 2147483647)), .ret (.bin .mod (.bi .int false [.bin .add (.bin .fdiv (.bin .mul (.sub (.var 0) (.int 2)) (.sub (.var 0) (.int 2))) (.int 64)) (.bin .fdiv (.sub (.var 0) (.int 2)) (.int 7))]) (.var 1))]⟩
abbrev s1 : Stmt := top 15
def e1 : Ent := ⟨"_law_draw", ⟨("_law_draw", none), "_law_draw", "_law_draw", defArgs s1, defBody s1, defScope s1, [], []⟩, ["pot", "many", "cell", "found"], ["pot", "many"]⟩
def f2 : Fn := ⟨2, 2, [.ret (.sub (.var 1) (.call 1 [.var 0, .bi .len false [.var 1]]))]⟩
abbrev s2 : Stmt := top 16
def e2 : Ent := ⟨"_law_pick", ⟨("_law_pick", none), "_law_pick", "_law_pick", defArgs s2, defBody s2, defScope s2, [], []⟩, ["pot", "row"], ["pot", "row"]⟩
def f3 : Fn := ⟨2, 3, [.ifs (.or [.isi (.var 1) [.tuple], .isi (.var 1) [.list]]) [.ifs (.or [.cmp .ne (.isi (.var 1) [.tuple]) (.isi (.var 0) [.tuple]), .cmp .ne (.isi (.var 1) [.list]) (.isi (.var 0) [.list])]) [.ret (.bl false)] [], .ifs (.cmp .ne (.bi .len false [.var 0]) (.bi .len false [.var 1])) [.ret (.bl false)] [], .ret (.cmp .eq (.comp false (.var 2) (.nm 2) .rng [.bi .len false [.var 1]] [.not (.call 3 [.sub (.var 0) (.var 2), .sub (.var 1) (.var 2)])]) (.lst false []))] [], .ifs (.isN false (.var 1)) [.ret (.isN false (.var 0))] [], .ifs (.isi (.var 1) [.str]) [.ret (.and [.isi (.var 0) [.str], .cmp .eq (.var 0) (.var 1)])] [], .ret (.and [.isi (.var 0) [.int], .cmp .eq (.isi (.var 0) [.bool]) (.isi (.var 1) [.bool]), .cmp .eq (.var 0) (.var 1)])]⟩
abbrev s3 : Stmt := top 17
def e3 : Ent := ⟨"_law_same", ⟨("_law_same", none), "_law_same", "_law_same", defArgs s3, defBody s3, defScope s3, [], []⟩, ["found", "due", "k"], ["found", "due"]⟩
def f4 : Fn := ⟨2, 3, [.ifs (.isi (.var 1) [.int]) [.ret (.call 2 [.var 0, .lst false [.bin .add (.var 1) (.int 1), .bin .sub (.var 1) (.int 1), .int 10, .neg (.int 10), .int 100, .bl true, .non, .bi .str false [.var 1], .tup [.var 1]]])] [], .ifs (.isi (.var 1) [.str]) [.ret (.call 2 [.var 0, .lst false [.bin .add (.var 1) (.str "a"), .slc (.var 1) (some (.int 1)) none, .str "", .str "A", .int 0, .non, .tup [.var 1], .lst false [.var 1], .str "abcdefghi"]])] [], .ifs (.isi (.var 1) [.tuple]) [.asg (.nm 2) (.lst false [.bin .add (.var 1) (.slc (.var 1) (some (.neg (.int 1))) none), .slc (.var 1) (some (.int 1)) none, .bi .list false [.var 1], .tup [], .non, .int 3, .str "x", .tup [.var 1], .slc (.var 1) none (some (.neg (.int 1))), .bin .add (.var 1) (.tup [.int 1])]), .ret (.call 2 [.var 0, .bin .add (.var 2) (.lst false [.rev (.var 1), .bin .add (.slc (.var 1) (some (.int 1)) none) (.slc (.var 1) none (some (.int 1)))])])] [], .ret (.call 2 [.var 0, .lst false [.non, .int 0, .str "ab", .dnew false false [], .bl true]])]⟩
abbrev s4 : Stmt := top 18
def e4 : Ent := ⟨"_law_odd", ⟨("_law_odd", none), "_law_odd", "_law_odd", defArgs s4, defBody s4, defScope s4, [], []⟩, ["pot", "thing", "some"], ["pot", "thing"]⟩
def f5 : Fn := ⟨4, 4, [.ifs (.cmp .eq (.var 0) (.int 0)) [.raise "BadNumber" [.var 1]] [], .ifs (.cmp .eq (.var 0) (.int 1)) [.raise "TooMuch" [.var 1]] [], .ifs (.cmp .eq (.var 0) (.int 2)) [.raise "BadScript" [.var 1, .var 2, .var 3]] [], .ifs (.cmp .eq (.var 0) (.int 3)) [.raise "NoSigns" []] [], .ifs (.cmp .eq (.var 0) (.int 4)) [.raise "NoTerm" []] [], .ifs (.cmp .eq (.var 0) (.int 5)) [.raise "NoEquations" []] [], .ifs (.cmp .eq (.var 0) (.int 6)) [.raise "NoRules" []] [], .ifs (.cmp .eq (.var 0) (.int 7)) [.raise "NoCosts" []] [], .ifs (.cmp .eq (.var 0) (.int 8)) [.raise "NotThere" []] [], .ifs (.cmp .eq (.var 0) (.int 9)) [.raise "AreEqual" []] [], .ifs (.cmp .eq (.var 0) (.int 10)) [.raise "NotEqual" []] [], .ret (.non)]⟩
abbrev s5 : Stmt := top 19
def e5 : Ent := ⟨"_law_make", ⟨("_law_make", none), "_law_make", "_law_make", defArgs s5, defBody s5, defScope s5, [], []⟩, ["number", "value", "other", "third"], ["number", "value", "other", "third"]⟩
def f6 : Fn := ⟨2, 2, [.try [.expr (.call 5 [.var 0, .var 1, .int 1, .int 2])] [("BadNumber", none, [.ret (.int 0)]), ("TooMuch", none, [.ret (.int 1)]), ("BadScript", none, [.ret (.int 2)]), ("NoSigns", none, [.ret (.int 3)]), ("NoTerm", none, [.ret (.int 4)]), ("NoEquations", none, [.ret (.int 5)]), ("NoRules", none, [.ret (.int 6)]), ("NoCosts", none, [.ret (.int 7)]), ("NotThere", none, [.ret (.int 8)]), ("AreEqual", none, [.ret (.int 9)]), ("NotEqual", none, [.ret (.int 10)])], .ret (.neg (.int 1))]⟩
abbrev s6 : Stmt := top 20
def e6 : Ent := ⟨"_law_first", ⟨("_law_first", none), "_law_first", "_law_first", defArgs s6, defBody s6, defScope s6, [], []⟩, ["number", "value"], ["number", "value"]⟩
def f7 : Fn := ⟨2, 2, [.try [.expr (.call 5 [.var 0, .var 1, .int 1, .int 2])] [("NotEqual", none, [.ret (.int 10)]), ("AreEqual", none, [.ret (.int 9)]), ("NotThere", none, [.ret (.int 8)]), ("NoCosts", none, [.ret (.int 7)]), ("NoRules", none, [.ret (.int 6)]), ("NoEquations", none, [.ret (.int 5)]), ("NoTerm", none, [.ret (.int 4)]), ("NoSigns", none, [.ret (.int 3)]), ("BadScript", none, [.ret (.int 2)]), ("TooMuch", none, [.ret (.int 1)]), ("BadNumber", none, [.ret (.int 0)])], .ret (.neg (.int 1))]⟩
abbrev s7 : Stmt := top 21
def e7 : Ent := ⟨"_law_last", ⟨("_law_last", none), "_law_last", "_law_last", defArgs s7, defBody s7, defScope s7, [], []⟩, ["number", "value"], ["number", "value"]⟩
def f8 : Fn := ⟨2, 4, [.asg (.nm 2) (.int 0), .try [.expr (.call 5 [.var 0, .var 1, .int 1, .int 2])] [("TermError", none, [.asg (.nm 2) (.bin .add (.var 2) (.int 1))])], .try [.expr (.call 5 [.var 0, .var 1, .int 1, .int 2])] [("TermError", some 3, [.asg (.nm 2) (.bin .add (.var 2) (.ifx (.xisi) (.int 1) (.int 0)))])], .ret (.cmp .eq (.var 2) (.int 2))]⟩
abbrev s8 : Stmt := top 22
def e8 : Ent := ⟨"_law_is_one", ⟨("_law_is_one", none), "_law_is_one", "_law_is_one", defArgs s8, defBody s8, defScope s8, [], []⟩, ["number", "value", "found", "e"], ["number", "value"]⟩
def f9 : Fn := ⟨1, 2, [.try [.raise "BadNumber" [.var 0]] [("BadNumber", some 1, [.ret (.xfld "value")])]]⟩
abbrev s9 : Stmt := top 23
def e9 : Ent := ⟨"_law_number", ⟨("_law_number", none), "_law_number", "_law_number", defArgs s9, defBody s9, defScope s9, [], []⟩, ["value", "e"], ["value"]⟩
def f10 : Fn := ⟨1, 2, [.try [.raise "TooMuch" [.var 0]] [("TooMuch", some 1, [.ret (.xfld "many")])]]⟩
abbrev s10 : Stmt := top 24
def e10 : Ent := ⟨"_law_many", ⟨("_law_many", none), "_law_many", "_law_many", defArgs s10, defBody s10, defScope s10, [], []⟩, ["value", "e"], ["value"]⟩
def f11 : Fn := ⟨3, 4, [.try [.raise "BadScript" [.var 0, .var 1, .var 2]] [("BadScript", some 3, [.ret (.tup [.xfld "line", .xfld "column", .xfld "what"])])]]⟩
abbrev s11 : Stmt := top 25
def e11 : Ent := ⟨"_law_script", ⟨("_law_script", none), "_law_script", "_law_script", defArgs s11, defBody s11, defScope s11, [], []⟩, ["value", "other", "third", "e"], ["value", "other", "third"]⟩
def f12 : Fn := ⟨1, 7, [.asg (.nm 1) (.call 0 [.var 0]), .for (.nm 2) .rng [.int 5] [.asg (.nm 3) (.call 2 [.var 1, .lst false [.non, .bl true, .call 4 [.var 1, .call 2 [.var 1, .lst false [.int 3, .str "x", .tup [.int 1]]]]]]), .asg (.nm 4) (.call 2 [.var 1, .lst false [.non, .bl false, .call 4 [.var 1, .call 2 [.var 1, .lst false [.int 4, .str "y", .tup [.int 2, .str "z"]]]]]]), .asg (.nm 5) (.call 2 [.var 1, .lst false [.int 0, .str "w", .call 4 [.var 1, .call 2 [.var 1, .lst false [.int 5, .str "v", .tup [.int 3]]]]]]), .for (.nm 6) .rng [.int 11] [.ifs (.or [.cmp .ne (.call 6 [.var 6, .var 3]) (.var 6), .cmp .ne (.call 7 [.var 6, .var 3]) (.var 6)]) [.ret (.bl false)] [], .ifs (.not (.call 8 [.var 6, .var 3])) [.ret (.bl false)] []], .ifs (.not (.call 3 [.tup [.call 9 [.var 3], .call 10 [.var 3]], .tup [.var 3, .var 3]])) [.ret (.bl false)] [], .ifs (.not (.call 3 [.call 11 [.var 3, .var 4, .var 5], .tup [.var 3, .var 4, .var 5]])) [.ret (.bl false)] []], .ret (.bl true)]⟩
abbrev s12 : Stmt := top 26
def e12 : Ent := ⟨"law", ⟨("law", none), "law", "law", defArgs s12, defBody s12, defScope s12, [], []⟩, ["script", "pot", "turn", "value", "other", "third", "number"], ["script"]⟩
def es : List Ent := [e0, e1, e2, e3, e4, e5, e6, e7, e8, e9, e10, e11, e12]
def cls : List String := ["TermError", "BadNumber", "NoSigns", "NoTerm", "NoEquations", "NoRules", "NoCosts", "NotThere", "AreEqual", "NotEqual", "TooMuch", "BadScript"]
def exs : List (String × List String) := [("TermError", []), ("BadNumber", ["value"]), ("NoSigns", []), ("NoTerm", []), ("NoEquations", []), ("NoRules", []), ("NoCosts", []), ("NotThere", []), ("AreEqual", []), ("NotEqual", []), ("TooMuch", ["many"]), ("BadScript", ["line", "column", "what"])]
def ancs : List (String × List String) := [("TermError", ["TermError"]), ("BadNumber", ["BadNumber", "TermError"]), ("NoSigns", ["NoSigns", "TermError"]), ("NoTerm", ["NoTerm", "TermError"]), ("NoEquations", ["NoEquations", "TermError"]), ("NoRules", ["NoRules", "TermError"]), ("NoCosts", ["NoCosts", "TermError"]), ("NotThere", ["NotThere", "TermError"]), ("AreEqual", ["AreEqual", "TermError"]), ("NotEqual", ["NotEqual", "TermError"]), ("TooMuch", ["TooMuch", "TermError"]), ("BadScript", ["BadScript", "TermError"])]
def xsub (a b : String) : Bool := match ancs.lookup a with | some l => l.contains b | none => false
def P : Prog := ⟨[f0, f1, f2, f3, f4, f5, f6, f7, f8, f9, f10, f11, f12], [], fun _ => none, fun _ => none, fun C => exs.lookup C, xsub⟩
theorem c0 : chkSs (ckOf es cls e0) f0.body e0.d.body = true := by decide +kernel
theorem sc0 : FnScope e0.N e0.ps e0.d.scope := ⟨rfl, rfl, rfl, by decide +kernel, rfl, by decide +kernel, by decide +kernel⟩
theorem t0 : TextOk P es cls 0 e0 := ⟨⟨f0, rfl, rfl, rfl, c0⟩, sc0⟩
theorem c1 : chkSs (ckOf es cls e1) f1.body e1.d.body = true := by decide +kernel
theorem sc1 : FnScope e1.N e1.ps e1.d.scope := ⟨rfl, rfl, rfl, by decide +kernel, rfl, by decide +kernel, by decide +kernel⟩
theorem t1 : TextOk P es cls 1 e1 := ⟨⟨f1, rfl, rfl, rfl, c1⟩, sc1⟩
theorem c2 : chkSs (ckOf es cls e2) f2.body e2.d.body = true := by decide +kernel
theorem sc2 : FnScope e2.N e2.ps e2.d.scope := ⟨rfl, rfl, rfl, by decide +kernel, rfl, by decide +kernel, by decide +kernel⟩
theorem t2 : TextOk P es cls 2 e2 := ⟨⟨f2, rfl, rfl, rfl, c2⟩, sc2⟩
theorem c3 : chkSs (ckOf es cls e3) f3.body e3.d.body = true := by decide +kernel
theorem sc3 : FnScope e3.N e3.ps e3.d.scope := ⟨rfl, rfl, rfl, by decide +kernel, rfl, by decide +kernel, by decide +kernel⟩
theorem t3 : TextOk P es cls 3 e3 := ⟨⟨f3, rfl, rfl, rfl, c3⟩, sc3⟩
theorem c4 : chkSs (ckOf es cls e4) f4.body e4.d.body = true := by decide +kernel
theorem sc4 : FnScope e4.N e4.ps e4.d.scope := ⟨rfl, rfl, rfl, by decide +kernel, rfl, by decide +kernel, by decide +kernel⟩
theorem t4 : TextOk P es cls 4 e4 := ⟨⟨f4, rfl, rfl, rfl, c4⟩, sc4⟩
theorem c5 : chkSs (ckOf es cls e5) f5.body e5.d.body = true := by decide +kernel
theorem sc5 : FnScope e5.N e5.ps e5.d.scope := ⟨rfl, rfl, rfl, by decide +kernel, rfl, by decide +kernel, by decide +kernel⟩
theorem t5 : TextOk P es cls 5 e5 := ⟨⟨f5, rfl, rfl, rfl, c5⟩, sc5⟩
theorem c6 : chkSs (ckOf es cls e6) f6.body e6.d.body = true := by decide +kernel
theorem sc6 : FnScope e6.N e6.ps e6.d.scope := ⟨rfl, rfl, rfl, by decide +kernel, rfl, by decide +kernel, by decide +kernel⟩
theorem t6 : TextOk P es cls 6 e6 := ⟨⟨f6, rfl, rfl, rfl, c6⟩, sc6⟩
theorem c7 : chkSs (ckOf es cls e7) f7.body e7.d.body = true := by decide +kernel
theorem sc7 : FnScope e7.N e7.ps e7.d.scope := ⟨rfl, rfl, rfl, by decide +kernel, rfl, by decide +kernel, by decide +kernel⟩
theorem t7 : TextOk P es cls 7 e7 := ⟨⟨f7, rfl, rfl, rfl, c7⟩, sc7⟩
theorem c8 : chkSs (ckOf es cls e8) f8.body e8.d.body = true := by decide +kernel
theorem sc8 : FnScope e8.N e8.ps e8.d.scope := ⟨rfl, rfl, rfl, by decide +kernel, rfl, by decide +kernel, by decide +kernel⟩
theorem t8 : TextOk P es cls 8 e8 := ⟨⟨f8, rfl, rfl, rfl, c8⟩, sc8⟩
theorem c9 : chkSs (ckOf es cls e9) f9.body e9.d.body = true := by decide +kernel
theorem sc9 : FnScope e9.N e9.ps e9.d.scope := ⟨rfl, rfl, rfl, by decide +kernel, rfl, by decide +kernel, by decide +kernel⟩
theorem t9 : TextOk P es cls 9 e9 := ⟨⟨f9, rfl, rfl, rfl, c9⟩, sc9⟩
theorem c10 : chkSs (ckOf es cls e10) f10.body e10.d.body = true := by decide +kernel
theorem sc10 : FnScope e10.N e10.ps e10.d.scope := ⟨rfl, rfl, rfl, by decide +kernel, rfl, by decide +kernel, by decide +kernel⟩
theorem t10 : TextOk P es cls 10 e10 := ⟨⟨f10, rfl, rfl, rfl, c10⟩, sc10⟩
theorem c11 : chkSs (ckOf es cls e11) f11.body e11.d.body = true := by decide +kernel
theorem sc11 : FnScope e11.N e11.ps e11.d.scope := ⟨rfl, rfl, rfl, by decide +kernel, rfl, by decide +kernel, by decide +kernel⟩
theorem t11 : TextOk P es cls 11 e11 := ⟨⟨f11, rfl, rfl, rfl, c11⟩, sc11⟩
theorem c12 : chkSs (ckOf es cls e12) f12.body e12.d.body = true := by decide +kernel
theorem sc12 : FnScope e12.N e12.ps e12.d.scope := ⟨rfl, rfl, rfl, by decide +kernel, rfl, by decide +kernel, by decide +kernel⟩
theorem t12 : TextOk P es cls 12 e12 := ⟨⟨f12, rfl, rfl, rfl, c12⟩, sc12⟩
theorem text (i : Nat) (e : Ent) (h : es[i]? = some e) : TextOk P es cls i e := by
  match i, h with
  | 0, h => cases h; exact t0
  | 1, h => cases h; exact t1
  | 2, h => cases h; exact t2
  | 3, h => cases h; exact t3
  | 4, h => cases h; exact t4
  | 5, h => cases h; exact t5
  | 6, h => cases h; exact t6
  | 7, h => cases h; exact t7
  | 8, h => cases h; exact t8
  | 9, h => cases h; exact t9
  | 10, h => cases h; exact t10
  | 11, h => cases h; exact t11
  | 12, h => cases h; exact t12
  | n + 13, h => simp [es] at h
end K00

set_option Elab.async false
set_option linter.all false
set_option maxRecDepth 100000
set_option maxHeartbeats 0
namespace K00
open PySem PySem.Spec PyProof.Rows L2 Dee
def inCls (s : Stmt) (i : Nat) : Stmt := match s with
  | .ClassDef _ _ _ b _ _ _ _ _ _ _ => b.getD i (.Pass ⟨0, 0, 0, 0⟩)
  | _ => .Pass ⟨0, 0, 0, 0⟩
abbrev i0 : Stmt := inCls (top 2) 0
abbrev i1 : Stmt := inCls (top 11) 0
abbrev i2 : Stmt := inCls (top 12) 0
def dI0 : He.DefD := ⟨("BadNumber", some "__init__"), "__init__", "BadNumber.__init__", defArgs i0, defBody i0, defScope i0, [], []⟩
def dI1 : He.DefD := ⟨("TooMuch", some "__init__"), "__init__", "TooMuch.__init__", defArgs i1, defBody i1, defScope i1, [], []⟩
def dI2 : He.DefD := ⟨("BadScript", some "__init__"), "__init__", "BadScript.__init__", defArgs i2, defBody i2, defScope i2, [], []⟩
def fn : List He.DefD := es.map (·.d) ++ [dI0, dI1, dI2]
abbrev R : PySem.W.OpenRow := PySem.W.OpenLaw.row PySem.Challenge.rw_bestterms_k00_errors_alone
abbrev ex : PySem.W.Frag → Bool := exK es exs cls xsub
abbrev hk : PySem.W.Hook := hookK 6 fn ex
def obs_ (s : PySem.W.SharedT) : He.AlD := obsK 6 fn ex (HandSHeadRun.getT s)
theorem obs_eq (s : PySem.W.SharedT) : obs_ s = hk.obs s.abs := obsK_eq (HandSHeadRun.getT_eq s)
def loose : List PySem.Str := ["TermError", "BadNumber", "NoSigns", "NoTerm", "NoEquations", "NoRules", "NoCosts", "NotThere", "AreEqual", "NotEqual", "TooMuch", "BadScript", "_law_pot", "_law_draw", "_law_pick", "_law_same", "_law_odd", "_law_make", "_law_first", "_law_last", "_law_is_one", "_law_number", "_law_many", "_law_script"]
theorem run (w : World) : HandSHeadRun.RunEq R (PySem.W.view R.prog [26]) hk obs_ 6000 loose w := by
  intro os
  kernel_rfl
end K00

set_option Elab.async false
set_option linter.all false
set_option maxRecDepth 100000
set_option maxHeartbeats 2000000
/-! Law k00, the plain part: what the small language says of the law's defs. -/
namespace K00
open PySem Dee DL
/-- what _law_odd is given -/
def Thing : Dee.D → Prop
  | .int i => i.natAbs ≤ 1000
  | .str s => s.length ≤ 1000
  | .tup xs => 1 ≤ xs.length ∧ xs.length ≤ 100 ∧ ∀ x ∈ xs, sv 1 x
  | _ => False
theorem mem_cut {α : Type} {xs : List α} {lo hi : Option Int} {x : α} (h : x ∈ cutL xs lo hi) : x ∈ xs := List.mem_of_mem_drop (List.mem_of_mem_take h)
theorem len_cut {α : Type} {xs : List α} {lo hi : Option Int} : (cutL xs lo hi).length ≤ xs.length := by
  unfold cutL
  rw [List.length_take, List.length_drop]
  omega
theorem odd {k : Nat} {M : Mem} {p : Nat} {d : Dee.D} {Q : Dee.K} {E : Dee.KX} (hp : Pot M p) (hd : Thing d) (hQ : ∀ v M', sv 4 v → Pot M' p → Q v M') : wCall P (k + 3) 4 [.ref p, d] M Q E := by
  rw [wCall_succ]
  refine ⟨rfl, ?_⟩
  show wSs _ f4.body _ _ _
  unfold f4
  simp only [List.map, List.replicate, List.cons_append, List.nil_append, Nat.reduceSub]
  have pk : ∀ (xs : List Dee.D) (E : Dee.KX), 1 ≤ xs.length → xs.length < 1000 → (∀ v ∈ xs, sv 4 v) → (semAt P (k + 2)).call 2 [.ref p, .lst xs] M Q E := fun xs E h1 h2 h => show wCall P (k + 2) 2 [.ref p, .lst xs] M Q E from pick (P := P) (d := 1) (i := 2) rfl rfl hp h1 h2 fun v M' hv hp' => hQ v M' (h v hv) hp'
  cases d with
  | int i =>
    have hi : i.natAbs ≤ 1000 := hd
    rw [wSs_cons]
    simp only [wS, wE, lk, ob, asB, isiop, tyOf, wSs_nil]
    rw [if_pos (by decide), wSs_cons]
    simp only [wS, wE, wEs, lk, ob, onI, on1, binop, biop, newL, if_neg Bool.false_ne_true]
    refine ⟨Nat.lt_of_le_of_lt (Nat.log2_le_self _) (by omega), ?_⟩
    refine pk _ _ (by simp) (by simp) fun v hv => ?_
    simp only [List.mem_cons, List.not_mem_nil, or_false] at hv
    rcases hv with rfl | rfl | rfl | rfl | rfl | rfl | rfl | rfl | rfl <;> simp [sv]
  | str s =>
    have hs : s.length ≤ 1000 := hd
    rw [wSs_cons]
    simp only [wS, wE, lk, ob, asB, isiop, tyOf, wSs_nil]
    rw [if_neg (by decide), wSs_cons]
    simp only [wS, wE, lk, ob, asB, isiop, tyOf, wSs_nil]
    rw [if_pos (by decide), wSs_cons]
    simp only [wS, wE, wEs, wO, lk, ob, onI, on1, binop, biop, slcop, newL, line, if_neg Bool.false_ne_true]
    refine ⟨Nat.le_trans (Nat.add_le_add_right hs _) (by decide), by omega, ?_⟩
    refine pk _ _ (by simp) (by simp) fun v hv => ?_
    simp only [List.mem_cons, List.not_mem_nil, or_false] at hv
    rcases hv with rfl | rfl | rfl | rfl | rfl | rfl | rfl | rfl | rfl <;> simp [sv]
  | tup xs =>
    obtain ⟨h1, h2, h3⟩ := (show 1 ≤ xs.length ∧ xs.length ≤ 100 ∧ ∀ x ∈ xs, sv 1 x from hd)
    rw [wSs_cons]
    simp only [wS, wE, lk, ob, asB, isiop, tyOf, wSs_nil]
    rw [if_neg (by decide), wSs_cons]
    simp only [wS, wE, lk, ob, asB, isiop, tyOf, wSs_nil]
    rw [if_neg (by decide), wSs_cons]
    simp only [wS, wE, lk, ob, asB, isiop, tyOf, wSs_nil]
    rw [if_pos (by decide), wSs_cons]
    have lc : ∀ lo hi, (cutL xs lo hi).length ≤ 100 := fun lo hi => Nat.le_trans len_cut h2
    simp only [wS, wE, wEs, wO, wTg, lk, ob, onI, on1, binop, biop, slcop, dctM, seqM, newL, line, List.set, if_neg Bool.false_ne_true]
    refine ⟨by have := lc (some (-1)) none; omega, by simp; omega, ?_⟩
    rw [wSs_cons]
    simp only [wS, wE, wEs, wO, wTg, lk, ob, onI, on1, binop, catop, isTup, biop, slcop, revop, dctM, seqM, newL, line, List.set, if_neg Bool.false_ne_true]
    refine ⟨by have := lc (some 1) none; have := lc none (some 1); omega, by decide, by simp, ?_⟩
    have sl : ∀ (ys : List Dee.D), ys.length ≤ 1000 → (∀ y ∈ ys, y ∈ xs ∨ sv 1 y) → ∀ y ∈ ys, sv 3 y := fun ys _ hy y hm => (hy y hm).elim (fun z => sv_up (by decide) (h3 y z)) (fun z => sv_up (by decide) z)
    refine pk _ _ (by simp) (by simp) fun v hv => ?_
    have mk : ∀ ys : List Dee.D, ys.length ≤ 1000 → (∀ y ∈ ys, y ∈ xs ∨ sv 1 y) → sv 4 (.tup ys) ∧ sv 4 (.lst ys) := fun ys hl hy => by
      unfold sv
      exact ⟨⟨hl, sl ys hl hy⟩, ⟨hl, sl ys hl hy⟩⟩
    have cut : ∀ {lo hi : Option Int} {y : Dee.D}, y ∈ cutL xs lo hi → y ∈ xs ∨ sv 1 y := fun h => .inl (mem_cut h)
    simp only [List.cons_append, List.nil_append, List.mem_cons, List.not_mem_nil, or_false] at hv
    rcases hv with rfl | rfl | rfl | rfl | rfl | rfl | rfl | rfl | rfl | rfl | rfl | rfl
    · exact (mk _ (by rw [List.length_append]; have := lc (some (-1)) none; omega) fun y hy => (List.mem_append.mp hy).elim .inl cut).1
    · exact (mk _ (Nat.le_trans (lc _ _) (by decide)) fun y hy => cut hy).1
    · exact (mk _ (by omega) fun y hy => .inl hy).2
    · simp [sv]
    · simp [sv]
    · simp [sv]
    · simp [sv]
    · unfold sv
      refine ⟨by simp, fun y hy => ?_⟩
      simp only [List.mem_cons, List.not_mem_nil, or_false] at hy
      subst hy
      unfold sv
      exact ⟨by omega, fun y hy => sv_up (by decide) (h3 y hy)⟩
    · exact (mk _ (Nat.le_trans (lc _ _) (by decide)) fun y hy => cut hy).1
    · exact (mk _ (by simp; omega) fun y hy => (List.mem_append.mp hy).elim .inl fun z => .inr (by simp at z; subst z; simp [sv])).1
    · exact (mk _ (by simp; omega) fun y hy => .inl (by simpa using hy)).1
    · exact (mk _ (by rw [List.length_append]; have := lc (some 1) none; have := lc none (some 1); omega) fun y hy => (List.mem_append.mp hy).elim cut cut).1
  | _ => exact hd.elim
/-! ### errors -/
theorem ifs_ne {F : Dee.Sem} {σ : Dee.Env} {M : Mem} {Dn : Dee.Ends} {rest b : List Dee.St} {i j : Int} (h0 : lk σ 0 = some (.int i)) (hne : i ≠ j) (h : wSs F rest σ M Dn) : wSs F (.ifs (.cmp .eq (.var 0) (.int j)) b [] :: rest) σ M Dn := by
  rw [wSs_cons]
  simp only [wS, wE, h0, ob, asB, cmpop, iceL, D.dep, peq, wSs_nil]
  exact ⟨by decide, by rw [if_neg (by simpa using hne)]; exact h⟩
theorem ifs_eq {F : Dee.Sem} {σ : Dee.Env} {M : Mem} {Dn : Dee.Ends} {rest b : List Dee.St} {i j : Int} (h0 : lk σ 0 = some (.int i)) (he : i = j) (h : wSs F b σ M { Dn with nx := fun σ1 M1 => wSs F rest σ1 M1 Dn }) : wSs F (.ifs (.cmp .eq (.var 0) (.int j)) b [] :: rest) σ M Dn := by
  rw [wSs_cons]
  simp only [wS, wE, h0, ob, asB, cmpop, iceL, D.dep, peq]
  exact ⟨by decide, by rw [if_pos (by simpa using he)]; exact h⟩
theorem raise0 {F : Dee.Sem} {σ : Dee.Env} {M : Mem} {Dn : Dee.Ends} {rest : List Dee.St} {C : String} (hx : F.xf C = some []) (h : Dn.ex ⟨C, []⟩ σ M) : wSs F (.raise C [] :: rest) σ M Dn := by
  rw [wSs_cons]
  simp only [wS, wEs, hx, ob]
  exact ⟨rfl, h⟩
def xn (v a b : Dee.D) : Nat → Exn
  | 0 => ⟨"BadNumber", [("value", v)]⟩
  | 1 => ⟨"TooMuch", [("many", v)]⟩
  | 2 => ⟨"BadScript", [("line", v), ("column", a), ("what", b)]⟩
  | 3 => ⟨"NoSigns", []⟩
  | 4 => ⟨"NoTerm", []⟩
  | 5 => ⟨"NoEquations", []⟩
  | 6 => ⟨"NoRules", []⟩
  | 7 => ⟨"NoCosts", []⟩
  | 8 => ⟨"NotThere", []⟩
  | 9 => ⟨"AreEqual", []⟩
  | _ => ⟨"NotEqual", []⟩
theorem xf_at {k : Nat} {C : String} {fs : List String} (h : exs.lookup C = some fs) : (semAt P k).xf C = some fs := h
theorem make {k n : Nat} (hn : n < 11) {v a b : Dee.D} {M : Mem} {Q : Dee.K} {E : Dee.KX} (h : E (xn v a b n) M) : wCall P (k + 1) 5 [.int n, v, a, b] M Q E := by
  rw [wCall_succ]
  refine ⟨rfl, ?_⟩
  show wSs _ f5.body _ _ _
  unfold f5
  simp only [List.map, List.replicate, List.cons_append, List.nil_append, Nat.reduceSub]
  match n, hn, h with
  | 0, _, h =>
    refine ifs_eq rfl rfl ?_
    rw [wSs_cons]
    simp only [wS, wE, wEs, lk, ob, xf_at (k := k) (show exs.lookup "BadNumber" = some ["value"] by decide)]
    exact ⟨rfl, h⟩
  | 1, _, h =>
    refine ifs_ne rfl (by decide) (ifs_eq rfl rfl ?_)
    rw [wSs_cons]
    simp only [wS, wE, wEs, lk, ob, xf_at (k := k) (show exs.lookup "TooMuch" = some ["many"] by decide)]
    exact ⟨rfl, h⟩
  | 2, _, h =>
    refine ifs_ne rfl (by decide) (ifs_ne rfl (by decide) (ifs_eq rfl rfl ?_))
    rw [wSs_cons]
    simp only [wS, wE, wEs, lk, ob, xf_at (k := k) (show exs.lookup "BadScript" = some ["line", "column", "what"] by decide)]
    exact ⟨rfl, h⟩
  | 3, _, h =>
    iterate 3 refine ifs_ne rfl (by decide) ?_
    exact ifs_eq rfl rfl (raise0 (xf_at (by decide)) h)
  | 4, _, h =>
    iterate 4 refine ifs_ne rfl (by decide) ?_
    exact ifs_eq rfl rfl (raise0 (xf_at (by decide)) h)
  | 5, _, h =>
    iterate 5 refine ifs_ne rfl (by decide) ?_
    exact ifs_eq rfl rfl (raise0 (xf_at (by decide)) h)
  | 6, _, h =>
    iterate 6 refine ifs_ne rfl (by decide) ?_
    exact ifs_eq rfl rfl (raise0 (xf_at (by decide)) h)
  | 7, _, h =>
    iterate 7 refine ifs_ne rfl (by decide) ?_
    exact ifs_eq rfl rfl (raise0 (xf_at (by decide)) h)
  | 8, _, h =>
    iterate 8 refine ifs_ne rfl (by decide) ?_
    exact ifs_eq rfl rfl (raise0 (xf_at (by decide)) h)
  | 9, _, h =>
    iterate 9 refine ifs_ne rfl (by decide) ?_
    exact ifs_eq rfl rfl (raise0 (xf_at (by decide)) h)
  | 10, _, h =>
    iterate 10 refine ifs_ne rfl (by decide) ?_
    exact ifs_eq rfl rfl (raise0 (xf_at (by decide)) h)
  | n + 11, hn, h => exact absurd hn (by omega)
theorem hs_no {k : Nat} {C : String} {n : Option Nat} {b : List Dee.St} {hs : List (String × Option Nat × List Dee.St)} {e : Exn} {σ : Dee.Env} {M : Mem} {Dn : Dee.Ends} (h1 : (exs.lookup e.C).isSome = true) (h2 : xsub e.C C = false) (h : wHs (semAt P k) hs e σ M Dn) : wHs (semAt P k) ((C, n, b) :: hs) e σ M Dn := by
  unfold wHs
  refine ⟨h1, ?_⟩
  rw [if_neg (by show ¬ (xsub e.C C = true); rw [h2]; exact Bool.false_ne_true)]
  exact h
theorem hs_yes {k : Nat} {C : String} {b : List Dee.St} {hs : List (String × Option Nat × List Dee.St)} {e : Exn} {σ : Dee.Env} {M : Mem} {Dn : Dee.Ends} (h1 : (exs.lookup e.C).isSome = true) (h2 : xsub e.C C = true) (h : wSs { semAt P k with cur := none } b σ M { Dn with ex := fun _ _ _ => False }) :
    wHs (semAt P k) ((C, none, b) :: hs) e σ M Dn := by
  unfold wHs
  refine ⟨h1, ?_⟩
  have h3 : (semAt P k).sub e.C C = true := h2
  rw [if_pos h3]
  exact h
theorem hs_as {k i : Nat} {C : String} {b : List Dee.St} {hs : List (String × Option Nat × List Dee.St)} {e : Exn} {σ : Dee.Env} {M : Mem} {Dn : Dee.Ends} (h1 : (exs.lookup e.C).isSome = true) (h2 : xsub e.C C = true) (hi : i < σ.length)
    (h : wSs { semAt P k with cur := some e } b (σ.set i none) M { nx := fun σ1 M1 => Dn.nx (σ1.set i none) M1, rt := Dn.rt, bk := fun σ1 M1 => Dn.bk (σ1.set i none) M1, ct := fun σ1 M1 => Dn.ct (σ1.set i none) M1, ex := fun _ _ _ => False }) :
    wHs (semAt P k) ((C, some i, b) :: hs) e σ M Dn := by
  unfold wHs
  refine ⟨h1, ?_⟩
  have h3 : (semAt P k).sub e.C C = true := h2
  rw [if_pos h3]
  exact ⟨hi, h⟩
theorem ret_int {F : Dee.Sem} {σ : Dee.Env} {M : Mem} {Dn : Dee.Ends} {i : Int} (h : Dn.rt (.int i) M) : wSs F [.ret (.int i)] σ M Dn := by
  rw [wSs_cons]
  simpa only [wS, wE] using h
theorem first {k n : Nat} (hn : n < 11) {v : Dee.D} {M : Mem} {Q : Dee.K} {E : Dee.KX} (h : Q (.int n) M) : wCall P (k + 2) 6 [.int n, v] M Q E := by
  rw [wCall_succ]
  refine ⟨rfl, ?_⟩
  show wSs _ f6.body _ _ _
  unfold f6
  simp only [List.map, List.replicate, List.cons_append, List.nil_append, Nat.reduceSub]
  rw [wSs_cons]
  simp only [wS]
  rw [wSs_cons]
  simp only [wS, wE, wEs, lk, ob]
  refine make (k := k) hn ?_
  show wHs (semAt P (k + 1)) _ _ _ _ _
  match n, hn, h with
  | 0, _, h => exact hs_yes (by simp only [xn]; decide) (by simp only [xn]; decide) (ret_int h)
  | 1, _, h => iterate 1 refine hs_no (by simp only [xn]; decide) (by simp only [xn]; decide) ?_
               exact hs_yes (by simp only [xn]; decide) (by simp only [xn]; decide) (ret_int h)
  | 2, _, h => iterate 2 refine hs_no (by simp only [xn]; decide) (by simp only [xn]; decide) ?_
               exact hs_yes (by simp only [xn]; decide) (by simp only [xn]; decide) (ret_int h)
  | 3, _, h => iterate 3 refine hs_no (by simp only [xn]; decide) (by simp only [xn]; decide) ?_
               exact hs_yes (by simp only [xn]; decide) (by simp only [xn]; decide) (ret_int h)
  | 4, _, h => iterate 4 refine hs_no (by simp only [xn]; decide) (by simp only [xn]; decide) ?_
               exact hs_yes (by simp only [xn]; decide) (by simp only [xn]; decide) (ret_int h)
  | 5, _, h => iterate 5 refine hs_no (by simp only [xn]; decide) (by simp only [xn]; decide) ?_
               exact hs_yes (by simp only [xn]; decide) (by simp only [xn]; decide) (ret_int h)
  | 6, _, h => iterate 6 refine hs_no (by simp only [xn]; decide) (by simp only [xn]; decide) ?_
               exact hs_yes (by simp only [xn]; decide) (by simp only [xn]; decide) (ret_int h)
  | 7, _, h => iterate 7 refine hs_no (by simp only [xn]; decide) (by simp only [xn]; decide) ?_
               exact hs_yes (by simp only [xn]; decide) (by simp only [xn]; decide) (ret_int h)
  | 8, _, h => iterate 8 refine hs_no (by simp only [xn]; decide) (by simp only [xn]; decide) ?_
               exact hs_yes (by simp only [xn]; decide) (by simp only [xn]; decide) (ret_int h)
  | 9, _, h => iterate 9 refine hs_no (by simp only [xn]; decide) (by simp only [xn]; decide) ?_
               exact hs_yes (by simp only [xn]; decide) (by simp only [xn]; decide) (ret_int h)
  | 10, _, h => iterate 10 refine hs_no (by simp only [xn]; decide) (by simp only [xn]; decide) ?_
                exact hs_yes (by simp only [xn]; decide) (by simp only [xn]; decide) (ret_int h)
  | n + 11, hn, h => exact absurd hn (by omega)
theorem last {k n : Nat} (hn : n < 11) {v : Dee.D} {M : Mem} {Q : Dee.K} {E : Dee.KX} (h : Q (.int n) M) : wCall P (k + 2) 7 [.int n, v] M Q E := by
  rw [wCall_succ]
  refine ⟨rfl, ?_⟩
  show wSs _ f7.body _ _ _
  unfold f7
  simp only [List.map, List.replicate, List.cons_append, List.nil_append, Nat.reduceSub]
  rw [wSs_cons]
  simp only [wS]
  rw [wSs_cons]
  simp only [wS, wE, wEs, lk, ob]
  refine make (k := k) hn ?_
  show wHs (semAt P (k + 1)) _ _ _ _ _
  match n, hn, h with
  | 0, _, h =>
    iterate 10 refine hs_no (by simp only [xn]; decide) (by simp only [xn]; decide) ?_
    exact hs_yes (by simp only [xn]; decide) (by simp only [xn]; decide) (ret_int h)
  | 1, _, h =>
    iterate 9 refine hs_no (by simp only [xn]; decide) (by simp only [xn]; decide) ?_
    exact hs_yes (by simp only [xn]; decide) (by simp only [xn]; decide) (ret_int h)
  | 2, _, h =>
    iterate 8 refine hs_no (by simp only [xn]; decide) (by simp only [xn]; decide) ?_
    exact hs_yes (by simp only [xn]; decide) (by simp only [xn]; decide) (ret_int h)
  | 3, _, h =>
    iterate 7 refine hs_no (by simp only [xn]; decide) (by simp only [xn]; decide) ?_
    exact hs_yes (by simp only [xn]; decide) (by simp only [xn]; decide) (ret_int h)
  | 4, _, h =>
    iterate 6 refine hs_no (by simp only [xn]; decide) (by simp only [xn]; decide) ?_
    exact hs_yes (by simp only [xn]; decide) (by simp only [xn]; decide) (ret_int h)
  | 5, _, h =>
    iterate 5 refine hs_no (by simp only [xn]; decide) (by simp only [xn]; decide) ?_
    exact hs_yes (by simp only [xn]; decide) (by simp only [xn]; decide) (ret_int h)
  | 6, _, h =>
    iterate 4 refine hs_no (by simp only [xn]; decide) (by simp only [xn]; decide) ?_
    exact hs_yes (by simp only [xn]; decide) (by simp only [xn]; decide) (ret_int h)
  | 7, _, h =>
    iterate 3 refine hs_no (by simp only [xn]; decide) (by simp only [xn]; decide) ?_
    exact hs_yes (by simp only [xn]; decide) (by simp only [xn]; decide) (ret_int h)
  | 8, _, h =>
    iterate 2 refine hs_no (by simp only [xn]; decide) (by simp only [xn]; decide) ?_
    exact hs_yes (by simp only [xn]; decide) (by simp only [xn]; decide) (ret_int h)
  | 9, _, h =>
    iterate 1 refine hs_no (by simp only [xn]; decide) (by simp only [xn]; decide) ?_
    exact hs_yes (by simp only [xn]; decide) (by simp only [xn]; decide) (ret_int h)
  | 10, _, h =>
    exact hs_yes (by simp only [xn]; decide) (by simp only [xn]; decide) (ret_int h)
  | n + 11, hn, h => exact absurd hn (by omega)
theorem number {k : Nat} {v : Dee.D} {M : Mem} {Q : Dee.K} {E : Dee.KX} (h : Q v M) : wCall P (k + 1) 9 [v] M Q E := by
  rw [wCall_succ]
  refine ⟨rfl, ?_⟩
  show wSs _ f9.body _ _ _
  unfold f9
  simp only [List.map, List.replicate, List.cons_append, List.nil_append, Nat.reduceSub]
  rw [wSs_cons]
  simp only [wS]
  rw [wSs_cons]
  simp only [wS, wE, wEs, lk, ob, xf_at (k := k) (show exs.lookup "BadNumber" = some ["value"] by decide)]
  refine ⟨rfl, ?_⟩
  refine hs_as (by simp only; decide) (by simp only; decide) (by simp) ?_
  rw [wSs_cons]
  simp only [wS, wE, ob, xf_at (k := k) (show exs.lookup "BadNumber" = some ["value"] by decide)]
  exact ⟨by simp, h⟩
theorem many {k : Nat} {v : Dee.D} {M : Mem} {Q : Dee.K} {E : Dee.KX} (h : Q v M) : wCall P (k + 1) 10 [v] M Q E := by
  rw [wCall_succ]
  refine ⟨rfl, ?_⟩
  show wSs _ f10.body _ _ _
  unfold f10
  simp only [List.map, List.replicate, List.cons_append, List.nil_append, Nat.reduceSub]
  rw [wSs_cons]
  simp only [wS]
  rw [wSs_cons]
  simp only [wS, wE, wEs, lk, ob, xf_at (k := k) (show exs.lookup "TooMuch" = some ["many"] by decide)]
  refine ⟨rfl, ?_⟩
  refine hs_as (by simp only; decide) (by simp only; decide) (by simp) ?_
  rw [wSs_cons]
  simp only [wS, wE, ob, xf_at (k := k) (show exs.lookup "TooMuch" = some ["many"] by decide)]
  exact ⟨by simp, h⟩
theorem script {k : Nat} {u v w : Dee.D} {M : Mem} {Q : Dee.K} {E : Dee.KX} (h : Q (.tup [u, v, w]) M) : wCall P (k + 1) 11 [u, v, w] M Q E := by
  rw [wCall_succ]
  refine ⟨rfl, ?_⟩
  show wSs _ f11.body _ _ _
  unfold f11
  simp only [List.map, List.replicate, List.cons_append, List.nil_append, Nat.reduceSub]
  rw [wSs_cons]
  simp only [wS]
  rw [wSs_cons]
  simp only [wS, wE, wEs, lk, ob, xf_at (k := k) (show exs.lookup "BadScript" = some ["line", "column", "what"] by decide)]
  refine ⟨rfl, ?_⟩
  refine hs_as (by simp only; decide) (by simp only; decide) (by simp) ?_
  rw [wSs_cons]
  simp only [wS, wE, wEs, ob, xf_at (k := k) (show exs.lookup "BadScript" = some ["line", "column", "what"] by decide)]
  exact ⟨by simp, by simp, by simp, h⟩
theorem iso1 {F : Dee.Sem} {x v : Dee.D} {M : Mem} {Dn : Dee.Ends} (h : Dn.nx [some x, some v, some (.int 1), none] M) : wSs F [.asg (.nm 2) (.bin .add (.var 2) (.int 1))] [some x, some v, some (.int 0), none] M Dn := by
  rw [wSs_cons]
  simp only [wS, wE, wTg, lk, ob, binop, List.set, wSs_nil]
  exact h
theorem iso2 {F : Dee.Sem} {e : Exn} {x v : Dee.D} {M : Mem} {Dn : Dee.Ends} (hc : F.cur = some e) (hx : (F.xf e.C).isSome = true) (h : Dn.nx [some x, some v, some (.int 2), none] M) : wSs F [.asg (.nm 2) (.bin .add (.var 2) (.ifx (.xisi) (.int 1) (.int 0)))] [some x, some v, some (.int 1), none] M Dn := by
  rw [wSs_cons]
  simp only [wS, wE, wTg, lk, ob, asB, binop, List.set, wSs_nil, hc]
  exact ⟨hx, by rw [if_pos True.intro]; exact h⟩
theorem iso3 {F : Dee.Sem} {x v : Dee.D} {M : Mem} {Dn : Dee.Ends} (h : Dn.rt (.bl true) M) : wSs F [.ret (.cmp .eq (.var 2) (.int 2))] [some x, some v, some (.int 2), none] M Dn := by
  rw [wSs_cons]
  simp only [wS, wE, lk, ob, cmpop, iceL, D.dep, peq]
  exact ⟨by decide, h⟩
/-- one try that calls _law_make -/
theorem tryMake {k n : Nat} (hn : n < 11) {v : Dee.D} {x2 x3 : Option Dee.D} {M : Mem} {Dn : Dee.Ends} {hs : List (String × Option Nat × List Dee.St)} {ss : List Dee.St}
    (h : wHs (semAt P (k + 1)) hs (xn v (.int 1) (.int 2) n) [some (.int n), some v, x2, x3] M { Dn with nx := fun σ1 M1 => wSs (semAt P (k + 1)) ss σ1 M1 Dn }) :
    wSs (semAt P (k + 1)) (.try [.expr (.call 5 [.var 0, .var 1, .int 1, .int 2])] hs :: ss) [some (.int n), some v, x2, x3] M Dn := by
  rw [wSs_cons]
  generalize ({ Dn with nx := fun σ1 M1 => wSs (semAt P (k + 1)) ss σ1 M1 Dn } : Dee.Ends) = D1 at h
  simp only [wS]
  rw [wSs_cons]
  simp only [wS, wE, wEs, lk, ob]
  exact make (k := k) hn h
theorem isone {k n : Nat} (hn : n < 11) {v : Dee.D} {M : Mem} {Q : Dee.K} {E : Dee.KX} (h : Q (.bl true) M) : wCall P (k + 2) 8 [.int n, v] M Q E := by
  have hx : ∀ (a b : Dee.D), (exs.lookup (xn v a b n).C).isSome = true ∧ xsub (xn v a b n).C "TermError" = true := fun a b => by
    match n, hn with
    | 0, _ => simp only [xn]; decide
    | 1, _ => simp only [xn]; decide
    | 2, _ => simp only [xn]; decide
    | 3, _ => simp only [xn]; decide
    | 4, _ => simp only [xn]; decide
    | 5, _ => simp only [xn]; decide
    | 6, _ => simp only [xn]; decide
    | 7, _ => simp only [xn]; decide
    | 8, _ => simp only [xn]; decide
    | 9, _ => simp only [xn]; decide
    | 10, _ => simp only [xn]; decide
    | n + 11, hn => exact absurd hn (by omega)
  rw [wCall_succ]
  refine ⟨rfl, ?_⟩
  show wSs _ f8.body _ _ _
  unfold f8
  simp only [List.map, List.replicate, List.cons_append, List.nil_append, Nat.reduceSub]
  rw [wSs_cons]
  simp only [wS, wE, wTg, List.set]
  refine tryMake hn (hs_yes (hx _ _).1 (hx _ _).2 (iso1 ?_))
  refine tryMake hn (hs_as (hx _ _).1 (hx _ _).2 (by simp) (iso2 rfl (hx _ _).1 ?_))
  exact iso3 (x := .int n) (v := v) h
theorem lcL_map {turn : Dee.D → Mem → (Option Dee.D → Mem → Prop) → Prop} {Q : List Dee.D → Mem → Prop} {M : Mem} {f : Dee.D → Dee.D} : ∀ {xs acc : List Dee.D}, (∀ x ∈ xs, ∀ R : Option Dee.D → Mem → Prop, R (some (f x)) M → turn x M R) → Q (acc ++ xs.map f) M → lcL turn Q xs acc M
  | [], acc, _, h => by simpa [lcL] using h
  | x :: xs, acc, ht, h => ht x (by simp) _ (lcL_map (fun y hy => ht y (by simp [hy])) (by simpa using h))
theorem potf {k : Nat} {ns : List Int} {M : Mem} {Q : Dee.K} {E : Dee.KX} (h : ∀ a M', Pot M' a → Q (.ref a) M') : wCall P (k + 1) 0 [.lst (ns.map Dee.D.int)] M Q E := by
  rw [wCall_succ]
  refine ⟨rfl, ?_⟩
  show wSs _ f0.body _ _ _
  unfold f0
  generalize semAt P k = F
  simp only [List.map, List.replicate, List.cons_append, List.nil_append, Nat.reduceSub]
  rw [wSs_cons]
  have hc : cutL (ns.map Dee.D.int) none (some 63) = (cutL ns none (some 63)).map Dee.D.int := by
    unfold cutL
    simp only [List.length_map, List.map_take, List.map_drop]
  simp only [wS, wE, wEs, wO, lk, ob, onI, slcop, seqM, itop, on1, still, hc]
  refine lcL_map (f := fun d => match d with | .int i => .int (if i < 0 then -i else i) | d => d) (fun x hx R hR => ?_) ?_
  · obtain ⟨i, _, rfl⟩ := List.mem_map.mp hx
    simp only [wTg, wipeD, tgSlots, List.set, wCs, wE, wEs, lk, ob, on1, onI, biop]
    exact hR
  · simp only [newL, List.nil_append, if_neg Bool.false_ne_true]
    intro a _
    refine h a _ ⟨(cutL ns none (some 63)).map fun i => if i < 0 then -i else i, 0, 20011, 0, ?_, fun x hx => ?_, by decide, by decide, by decide, by decide⟩
    · rw [up_at]
      simp [List.map_map, Function.comp_def]
    · obtain ⟨i, _, rfl⟩ := List.mem_map.mp hx
      split <;> omega
end K00

set_option Elab.async false
set_option linter.all false
set_option maxRecDepth 100000
set_option maxHeartbeats 400000
namespace K00
open PySem Dee DL
theorem forL_inv {turn : Dee.D → Dee.Env → Mem → (Dee.Env → Mem → Prop) → Prop} {Q : Dee.Env → Mem → Prop} (I : Dee.Env → Mem → Prop) (hQ : ∀ σ M, I σ M → Q σ M) : ∀ {xs : List Dee.D} {σ : Dee.Env} {M : Mem}, (∀ x ∈ xs, ∀ σ M, ∀ R : Dee.Env → Mem → Prop, I σ M → (∀ σ' M', I σ' M' → R σ' M') → turn x σ M R) → I σ M → forL turn Q xs σ M
  | [], σ, M, _, h => hQ σ M h
  | x :: xs, σ, M, ht, h => ht x (by simp) σ M _ h fun σ' M' h' => forL_inv I hQ (fun y hy => ht y (by simp [hy])) h'
/-- one drawn value -/
theorem value {p : Nat} {M : Mem} {Q : Dee.K} {E : Dee.KX} {a b c d e : Dee.D} (hp : Pot M p) (ha : sv 4 a) (hb : sv 4 b) (hc : Thing c) (hd : Thing d) (he : Thing e) {σ : Dee.Env} {ea eb ec ed ee : Dee.Ex}
    (hσ : lk σ 1 = some (.ref p)) (h : ∀ v M', sv 4 v → Pot M' p → Q v M')
    (wa : ∀ M (R : Dee.K), R a M → wE (semAt P 19) ea σ M R E) (wb : ∀ M (R : Dee.K), R b M → wE (semAt P 19) eb σ M R E) (wc : ∀ M (R : Dee.K), R c M → wE (semAt P 19) ec σ M R E) (wd : ∀ M (R : Dee.K), R d M → wE (semAt P 19) ed σ M R E) (we : ∀ M (R : Dee.K), R e M → wE (semAt P 19) ee σ M R E) :
    wE (semAt P 19) (.call 2 [.var 1, .lst false [ea, eb, .call 4 [.var 1, .call 2 [.var 1, .lst false [ec, ed, ee]]]]]) σ M Q E := by
  simp only [wE, wEs, hσ, ob, newL, if_neg Bool.false_ne_true]
  refine wa _ _ (wb _ _ (wc _ _ (wd _ _ (we _ _ ?_))))
  refine pick (P := P) (d := 1) (i := 2) (k := 17) rfl rfl hp (by simp) (by simp) fun v M1 hv hp1 => ?_
  have tv : Thing v := by
    simp only [List.mem_cons, List.not_mem_nil, or_false] at hv
    rcases hv with rfl | rfl | rfl <;> assumption
  refine odd (k := 16) hp1 tv fun v2 M2 hv2 hp2 => ?_
  refine pick (P := P) (d := 1) (i := 2) (k := 17) rfl rfl hp2 (by simp) (by simp) fun v3 M3 hv3 hp3 => h v3 M3 ?_ hp3
  simp only [List.mem_cons, List.not_mem_nil, or_false] at hv3
  rcases hv3 with rfl | rfl | rfl <;> assumption
/-- the inner loop's turn -/
theorem inner {F : Dee.Sem} (hF : F = semAt P 19) {n : Nat} (hn : n < 11) {x0 x1 x2 x4 x5 : Option Dee.D} {v : Dee.D} {M : Mem} {Dn : Dee.Ends} (h : Dn.nx [x0, x1, x2, some v, x4, x5, some (.int n)] M) :
    wSs F [.ifs (.or [.cmp .ne (.call 6 [.var 6, .var 3]) (.var 6), .cmp .ne (.call 7 [.var 6, .var 3]) (.var 6)]) [.ret (.bl false)] [], .ifs (.not (.call 8 [.var 6, .var 3])) [.ret (.bl false)] []] [x0, x1, x2, some v, x4, x5, some (.int n)] M Dn := by
  subst hF
  have ne : (!peq (.int (n : Int)) (.int (n : Int))) = false := by simp [peq]
  rw [wSs_cons]
  generalize hD : ({ Dn with nx := fun σ1 M1 => wSs (semAt P 19) [.ifs (.not (.call 8 [.var 6, .var 3])) [.ret (.bl false)] []] σ1 M1 Dn } : Dee.Ends) = D1
  simp only [wS, wE, wEs, wOr, lk, ob, asB, cmpop, iceL, D.dep, wSs_nil]
  refine first (k := 17) hn ⟨⟨Nat.zero_le _, Nat.zero_le _⟩, ?_⟩
  rw [ne, if_neg Bool.false_ne_true]
  refine last (k := 17) hn ⟨⟨Nat.zero_le _, Nat.zero_le _⟩, ?_⟩
  rw [ne, if_neg Bool.false_ne_true, ← hD]
  show wSs _ _ _ _ _
  rw [wSs_cons]
  simp only [wS, wE, wEs, lk, ob, asB, wSs_nil]
  refine isone (k := 17) hn ?_
  simpa [asB] using h
theorem asB_not {A B : Mem → Prop} {M : Mem} (h : B M) : asB (fun b M1 => if (!b) = true then A M1 else B M1) (.bl true) M := by
  show (if (!true) = true then A M else B M)
  rw [if_neg (by decide)]
  exact h
theorem same5 {F : Dee.Sem} (hF : F = semAt P 19) {d : Dee.D} {M : Mem} {Q : Dee.K} {E : Dee.KX} (h : sv 5 d) (hQ : Q (.bl true) M) : F.call 3 [d, d] M Q E := by
  subst hF
  exact same (P := P) (i := 3) rfl 5 13 h hQ
/-- the turn's last two tests -/
theorem fin6 {x0 x1 x2 x6 : Option Dee.D} {v v2 v3 : Dee.D} {M : Mem} {Dn : Dee.Ends} (hs : sv 4 v ∧ sv 4 v2 ∧ sv 4 v3) (h : Dn.nx [x0, x1, x2, some v, some v2, some v3, x6] M) :
    wSs (semAt P 19) [.ifs (.not (.call 3 [.tup [.call 9 [.var 3], .call 10 [.var 3]], .tup [.var 3, .var 3]])) [.ret (.bl false)] [], .ifs (.not (.call 3 [.call 11 [.var 3, .var 4, .var 5], .tup [.var 3, .var 4, .var 5]])) [.ret (.bl false)] []] [x0, x1, x2, some v, some v2, some v3, x6] M Dn := by
  have t1 : sv 5 (.tup [v, v]) := by
    unfold sv
    exact ⟨by simp, fun x hx => by simp at hx; subst hx; exact hs.1⟩
  have t2 : sv 5 (.tup [v, v2, v3]) := by
    unfold sv
    refine ⟨by simp, fun x hx => ?_⟩
    simp only [List.mem_cons, List.not_mem_nil, or_false] at hx
    rcases hx with rfl | rfl | rfl
    · exact hs.1
    · exact hs.2.1
    · exact hs.2.2
  rw [wSs_cons]
  generalize hD : ({ Dn with nx := fun σ1 M1 => wSs (semAt P 19) [.ifs (.not (.call 3 [.call 11 [.var 3, .var 4, .var 5], .tup [.var 3, .var 4, .var 5]])) [.ret (.bl false)] []] σ1 M1 Dn } : Dee.Ends) = D1
  simp only [wS, wE, wEs, lk, ob, asB, wSs_nil]
  refine number (k := 18) (many (k := 18) (same5 rfl t1 ?_))
  have g1 : D1.nx [x0, x1, x2, some v, some v2, some v3, x6] M := by
    rw [← hD]
    show wSs _ _ _ _ _
    rw [wSs_cons]
    simp only [wS, wE, wEs, lk, ob, asB, wSs_nil]
    refine script (k := 18) (same5 rfl t2 ?_)
    exact asB_not h
  exact asB_not g1
theorem spec (ns : List Int) (h : ns.length ≤ 63) : wCall P 20 12 [.lst (ns.map Dee.D.int)] (fun _ => none) (fun d _ => d = .bl true) (fun _ _ => False) := by
  rw [wCall_succ]
  refine ⟨rfl, ?_⟩
  show wSs _ f12.body _ _ _
  unfold f12
  simp only [List.map, List.replicate, List.cons_append, List.nil_append, Nat.reduceSub]
  rw [wSs_cons]
  simp only [wS, wE, wEs, lk, ob, wTg, List.set]
  refine potf (k := 18) fun p M hp => ?_
  rw [wSs_cons]
  simp only [wS, wEs, wE, itop, onI]
  refine ⟨by decide, ?_⟩
  refine forL_inv (fun σ M => (∃ x0 x2 x3 x4 x5 x6, σ = [x0, some (.ref p), x2, x3, x4, x5, x6]) ∧ Pot M p) (fun σ M hI => ?_) (fun x _ σ M R hI hR => ?_) ⟨⟨_, _, _, _, _, _, rfl⟩, hp⟩
  · rw [wSs_cons]
    simp only [wS, wE]
  · obtain ⟨⟨x0, x2, x3, x4, x5, x6, rfl⟩, hp⟩ := hI
    simp only [wTg, List.set]
    rw [wSs_cons]
    unfold wS
    refine value hp (a := .non) (b := .bl true) (c := .int 3) (d := .str "x") (e := .tup [.int 1]) (by simp [sv]) (by simp [sv]) (by simp [Thing]) (by simp only [Thing]; decide) (by simp [Thing, sv]) rfl (fun v M1 sv1 hp1 => ?_) (fun _ _ r => by simpa only [wE] using r) (fun _ _ r => by simpa only [wE] using r) (fun _ _ r => by simpa only [wE] using r) (fun _ _ r => by simpa only [wE] using r) (fun _ _ r => by simpa only [wE, wEs] using r)
    simp only [wTg, List.set]
    rw [wSs_cons]
    unfold wS
    refine value hp1 (a := .non) (b := .bl false) (c := .int 4) (d := .str "y") (e := .tup [.int 2, .str "z"]) (by simp [sv]) (by simp [sv]) (by simp [Thing]) (by simp only [Thing]; decide) (by simp [Thing, sv]) rfl (fun v2 M2 sv2 hp2 => ?_) (fun _ _ r => by simpa only [wE] using r) (fun _ _ r => by simpa only [wE] using r) (fun _ _ r => by simpa only [wE] using r) (fun _ _ r => by simpa only [wE] using r) (fun _ _ r => by simpa only [wE, wEs] using r)
    simp only [wTg, List.set]
    rw [wSs_cons]
    unfold wS
    refine value hp2 (a := .int 0) (b := .str "w") (c := .int 5) (d := .str "v") (e := .tup [.int 3]) (by simp [sv]) (by simp [sv]) (by simp [Thing]) (by simp only [Thing]; decide) (by simp [Thing, sv]) rfl (fun v3 M3 sv3 hp3 => ?_) (fun _ _ r => by simpa only [wE] using r) (fun _ _ r => by simpa only [wE] using r) (fun _ _ r => by simpa only [wE] using r) (fun _ _ r => by simpa only [wE] using r) (fun _ _ r => by simpa only [wE, wEs] using r)
    simp only [wTg, List.set]
    rw [wSs_cons]
    simp only [wS, wEs, wE, itop, onI]
    refine ⟨by decide, ?_⟩
    refine forL_inv (fun σ M => (∃ x0 x2 x6, σ = [x0, some (.ref p), x2, some v, some v2, some v3, x6]) ∧ Pot M p) (fun σ M hI => ?_) (fun x hx σ M R hI hR => ?_) ⟨⟨_, _, _, rfl⟩, hp3⟩
    · obtain ⟨⟨x0, x2, x6, rfl⟩, hp⟩ := hI
      refine fin6 ⟨sv1, sv2, sv3⟩ (hR _ _ ⟨⟨_, _, _, _, _, _, rfl⟩, hp⟩)
    · obtain ⟨⟨x0, x2, x6, rfl⟩, hp⟩ := hI
      unfold rngF at hx
      obtain ⟨j, hj, rfl⟩ := List.mem_map.mp hx
      have hj : j < 11 := by simpa using hj
      simp only [wTg, List.set]
      exact inner rfl hj (hR _ _ ⟨⟨_, _, _, rfl⟩, hp⟩)
end K00

set_option Elab.async false
set_option linter.all false
set_option maxRecDepth 100000
set_option maxHeartbeats 0
namespace K00
open PySem PySem.Spec PyProof.Rows L2 Dee
theorem bnd (K : PySem.W.Frag) : ∀ e ∈ es, ∀ ad fd, FunD K e.d.name e.d.qual e.d.params e.d.body e.d.scope [] [] ad fd → Binds K fd e.ps [] := by
  intro e he ad fd F
  simp only [es, List.mem_cons, List.not_mem_nil, or_false] at he
  rcases he with rfl | rfl | rfl | rfl | rfl | rfl | rfl | rfl | rfl | rfl | rfl | rfl | rfl
  · exact F.bindsN fun _ _ _ _ _ _ us hl => match us, hl with | [_], _ => rfl
  · exact F.bindsN fun _ _ _ _ _ _ us hl => match us, hl with | [_, _], _ => rfl
  · exact F.bindsN fun _ _ _ _ _ _ us hl => match us, hl with | [_, _], _ => rfl
  · exact F.bindsN fun _ _ _ _ _ _ us hl => match us, hl with | [_, _], _ => rfl
  · exact F.bindsN fun _ _ _ _ _ _ us hl => match us, hl with | [_, _], _ => rfl
  · exact F.bindsN fun _ _ _ _ _ _ us hl => match us, hl with | [_, _, _, _], _ => rfl
  · exact F.bindsN fun _ _ _ _ _ _ us hl => match us, hl with | [_, _], _ => rfl
  · exact F.bindsN fun _ _ _ _ _ _ us hl => match us, hl with | [_, _], _ => rfl
  · exact F.bindsN fun _ _ _ _ _ _ us hl => match us, hl with | [_, _], _ => rfl
  · exact F.bindsN fun _ _ _ _ _ _ us hl => match us, hl with | [_], _ => rfl
  · exact F.bindsN fun _ _ _ _ _ _ us hl => match us, hl with | [_], _ => rfl
  · exact F.bindsN fun _ _ _ _ _ _ us hl => match us, hl with | [_, _, _], _ => rfl
  · exact F.bindsN fun _ _ _ _ _ _ us hl => match us, hl with | [_], _ => rfl
theorem sI0 : FnScope ["self", "value"] ["self", "value"] (defScope i0) := ⟨rfl, rfl, rfl, by decide +kernel, rfl, by decide +kernel, by decide +kernel⟩
theorem sI1 : FnScope ["self", "many"] ["self", "many"] (defScope i1) := ⟨rfl, rfl, rfl, by decide +kernel, rfl, by decide +kernel, by decide +kernel⟩
theorem sI2 : FnScope ["self", "line", "column", "what"] ["self", "line", "column", "what"] (defScope i2) := ⟨rfl, rfl, rfl, by decide +kernel, rfl, by decide +kernel, by decide +kernel⟩
theorem esok : ∀ e ∈ es, e.d ∈ fn ∧ e.d.at_ = (e.nm, none) ∧ e.d.dfl = [] ∧ e.d.kwd = [] := by
  intro e he
  refine ⟨List.mem_append_left _ (List.mem_map_of_mem he), ?_⟩
  simp only [es, List.mem_cons, List.not_mem_nil, or_false] at he
  rcases he with rfl | rfl | rfl | rfl | rfl | rfl | rfl | rfl | rfl | rfl | rfl | rfl | rfl <;> exact ⟨rfl, rfl, rfl⟩
theorem inits {prog : Program} {w : World} {K : PySem.W.Frag} {mg : Str → Option Value} {base : Heap} (c : SaysK fn ex K) : ∀ C fs, (C, fs) ∈ exs → fs ≠ [] → OexC K (He.ga K (Str.ofString C)) → (∀ f ∈ fs, PySem.W.findIn K (.ref (He.ga K (Str.ofString C))) (Str.ofString f) = some none) →
    (fs.map Str.ofString).Nodup ∧ ∃ fd ps, Binds K fd ps [] ∧ FnOk prog w K mg base (L2.CX prog w) 1 (He.ma K (He.ga K (Str.ofString C)) "__init__") fd ps (fun vs H Q _ => ∃ e, spI e (He.ga K (Str.ofString C)) fs vs H Q) := by
  intro C fs hm hne T hno
  simp only [exs, List.mem_cons, Prod.mk.injEq, List.not_mem_nil, or_false] at hm
  rcases hm with ⟨rfl, rfl⟩ | ⟨rfl, rfl⟩ | ⟨rfl, rfl⟩ | ⟨rfl, rfl⟩ | ⟨rfl, rfl⟩ | ⟨rfl, rfl⟩ | ⟨rfl, rfl⟩ | ⟨rfl, rfl⟩ | ⟨rfl, rfl⟩ | ⟨rfl, rfl⟩ | ⟨rfl, rfl⟩ | ⟨rfl, rfl⟩ <;> first | exact absurd rfl hne | skip
  · have hd : dI0 ∈ fn := by simp [fn]
    obtain ⟨fd, F⟩ := He.DefD.funD (c.val _ hd) (c.dok _ hd)
    exact ⟨by decide +kernel, fd, ["self", "value"], F.bindsN fun _ _ _ _ _ _ us hl => match us, hl with | [_, _], _ => rfl, init1 (f := "value") F sI0 T (hno _ (by simp)) rfl⟩
  · have hd : dI1 ∈ fn := by simp [fn]
    obtain ⟨fd, F⟩ := He.DefD.funD (c.val _ hd) (c.dok _ hd)
    exact ⟨by decide +kernel, fd, ["self", "many"], F.bindsN fun _ _ _ _ _ _ us hl => match us, hl with | [_, _], _ => rfl, init1 (f := "many") F sI1 T (hno _ (by simp)) rfl⟩
  · have hd : dI2 ∈ fn := by simp [fn]
    obtain ⟨fd, F⟩ := He.DefD.funD (c.val _ hd) (c.dok _ hd)
    exact ⟨by decide +kernel, fd, ["self", "line", "column", "what"], F.bindsN fun _ _ _ _ _ _ us hl => match us, hl with | [_, _, _, _], _ => rfl, init3 (f := "line") (g := "column") (h := "what") F sI2 T (hno _ (by simp)) (hno _ (by simp)) (hno _ (by simp)) rfl rfl rfl⟩
theorem facts {w : World} {K : PySem.W.Frag} {h : Heap} {mg : Str → Option Value} {f : Addr} (X : K.In h) (G : h.Ns mainGlobals mg) (hfa : mg ("law" : Str) = some (.ref f)) (c : SaysK fn ex K) :
    ∃ fd : FuncData, (∀ (s : Shared) (v : Value), BindsTo s fd ⟨[v], []⟩ [("script", v)]) ∧ ∀ base : Heap, K.In base → base.Ns mainGlobals mg → FnOk R.prog w K mg base CX0 23 f fd ["script"] (fun vs H Q _ => spF ⟨⟨mg, fun _ => False⟩, none⟩ (wCall P 20 12) vs H Q fun _ _ _ => False) := by
  have pf : ∀ base : Heap, PF R.prog w K mg base P es cls := fun base => pf_of X G c rfl rfl text esok (bnd K) (inits c)
  obtain ⟨ad, fd, m, F, B⟩ := (pf h).def_ 12 e12 rfl
  have e : f = ad := by
    have z := hfa.symm.trans m
    injection z with z
    injection z
  subst e
  exact ⟨fd, fun s v => FunD.bindsA (ps := ["script"]) F (fun _ _ _ _ _ _ us hl => match us, hl with | [_], _ => rfl) s [v] rfl, fun base _ _ => FnOk.never (level (pf base) 20 12 e12 rfl f fd m F ⟨mg, fun _ => False⟩ rfl)⟩
end K00
open PySem PySem.W PySem.Calls PyProof.Rows
theorem PySem.Challenge.cw_bestterms_k00_errors_alone_holds : PySem.Challenge.rw_bestterms_k00_errors_alone.Holds := by
  w_on; o_law
  refine HandSHeadRun.head_any (r := OpenLaw.row PySem.Challenge.rw_bestterms_k00_errors_alone) (q := view (OpenLaw.row PySem.Challenge.rw_bestterms_k00_errors_alone).prog [26]) (H := K00.hk) (ob := K00.obs_) (M := 6000) (loose := K00.loose) (d := HandSHeadRun.topDef (OpenLaw.row PySem.Challenge.rw_bestterms_k00_errors_alone).prog 26) (kwd := []) K00.obs_eq
    (by kernel_rfl) (fun s => by kernel_rfl) K00.run (by kernel_rfl) (by kernel_rfl) (by kernel_rfl) (by rfl) (by first | assumption | decide +kernel) (by decide +kernel) ⟨rfl, rfl, rfl, rfl, rfl, by decide +kernel⟩ ?hw ?hc
  case hw => w_witness2
  case hc =>
    refine L2.walk_ofE (l := PySem.Challenge.rw_bestterms_k00_errors_alone) (n := 63) (k := 23) (x := "script") (CX := L2.CX0) rfl (by decide) (by kernel_rfl) ⟨rfl, by decide, by decide⟩ ?F (fun _ _ _ _ z => z)
    intro w mg fa h Y G hmg0
    obtain ⟨K, KX, nl, c⟩ := Y
    have hmg : mg ("law" : PySem.Str) = some (.ref fa) := by
      have e : (HandSHeadRun.topDef (OpenLaw.row PySem.Challenge.rw_bestterms_k00_errors_alone).prog 26).name = ("law" : PySem.Str) := by kernel_rfl
      rw [← e]
      exact hmg0
    obtain ⟨fd, hb, hF⟩ := K00.facts (w := w) KX G hmg c
    exact ⟨K, fd, fun vs H Q _ => Dee.spF ⟨⟨mg, fun _ => False⟩, none⟩ (Dee.wCall K00.P 20 12) vs H Q fun _ _ _ => False, KX, hb, fun H a ns hl hO hS => Dee.law_sp nl K00.spec H a ns hl hO hS, hF⟩

