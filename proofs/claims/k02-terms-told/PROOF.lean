import PyProof.Rows.All
import Wide.All
import OpenK.AllK
import Wide.FinOn
import PySem.Str
import HandS.Base
import HandS.Call
import HandS.List
import HandS.Comp
import HandS.Dict
import HandS.Iter
import HandS.Text
import HandS.Exc
import HandS.ExcOwn
import HandS.TryMany
import HandS.IsInst
import HandS.ExcInit
import HandS.ExcField
import HandS.Conv
import HandS.TupAny
import HandS.Lambda
import HandS.Style
import HandS.TupLe
import PyProof.EqAt
import PyProof.EqKinds
import PyProof.NeKinds
import HandS.Wide
import HandS.TupMul
import HandS.TupSets
import KE.KeyNested
import KE.KDictPairs
import HandS.Deep
import HandS.Strs
import HandS.Zip
import KE.GoesEnum
import HandS.Defaults
import HandS.HeadHook4
import HandS.HeadEnd
import HandS.Words
import HandS.WordsExc
import HandS.Head2
import KE.KNestM
import HandS.HeadWalk
import HandS.Head0
import HandS.Head1
import KE.KStateDown
import PySem.Challenge.RW_bestterms_k02_terms_told
set_option linter.all false
set_option autoImplicit false
/-! Dee: data, programs over data, and what such a program wants (a plain small language; no model of Python in sight). -/
namespace Dee
open PySem

/-- data: what a value is, with all that hangs below it; `ref` is something that may still change -/
inductive D where
  | non | bl (b : Bool) | int (i : Int) | str (s : Str)
  | tup (xs : List D) | lst (xs : List D) | dct (t : Bool) (kvs : List (D × D)) | obj (C : String) (fs : List (String × D))
  | ref (a : Nat)
  | clo (l : Nat) (σ : List (Option D))
noncomputable instance : DecidableEq D := fun _ _ => Classical.propDecidable _
instance : Inhabited D := ⟨.non⟩

abbrev Env := List (Option D)
/-- what may still change -/
inductive MO where
  | lst (xs : List D) | dct (t : Bool) (kvs : List (D × D)) | ins (C : String) (fs : List (String × D))
  /-- a tuple without names of its own -/
  | tup (xs : List D)
abbrev Mem := Nat → Option MO
structure Exn where
  C : String
  fs : List (String × D)
def up (M : Mem) (a : Nat) (o : MO) : Mem := fun b => if b = a then some o else M b
def del (M : Mem) (a : Nat) : Mem := fun b => if b = a then none else M b
def MO.ice : MO → D
  | .lst xs => .lst xs | .dct t kvs => .dct t kvs | .ins C fs => .obj C fs | .tup xs => .tup xs

/-! ### the language -/
inductive Bop where | add | sub | mul | fdiv | mod | pow
  deriving DecidableEq
inductive Cop where | eq | ne | lt | le | gt | ge | isin | notin
  deriving DecidableEq
inductive Bi where | len | abs | int | str | list | tuple | dict | all | any | sum | max2 | min2 | max1 | min1 | sorted | lenset | sortset
  deriving DecidableEq
inductive Mt where | append | extend | pop | get | index | count | join | split
  deriving DecidableEq
inductive Ty where | int | bool | str | tuple | list | dict
  deriving DecidableEq
inductive Ik where | seq | rng | enm | zip
  deriving DecidableEq
inductive Tg where | nm (i : Nat) | tu (ts : List Tg)
inductive Ex where
  | var (i : Nat) | int (i : Int) | str (s : Str) | bl (b : Bool) | non | glb (x : String)
  | tup (es : List Ex) | lst (m : Bool) (es : List Ex) | dnew (m t : Bool) (kvs : List (Ex × Ex))
  | bin (o : Bop) (a b : Ex) | neg (a : Ex)
  | cmp (o : Cop) (a b : Ex) | chain (o o' : Cop) (a b c : Ex) | isN (n : Bool) (a : Ex)
  | and (es : List Ex) | or (es : List Ex) | not (a : Ex) | ifx (c a b : Ex)
  | sub (a i : Ex) | slc (a : Ex) (lo hi : Option Ex) | rev (a : Ex) | fld (a : Ex) (f : String)
  | call (f : Nat) (es : List Ex) | mk (C : String) (es : List Ex)
  | bi (b : Bi) (m : Bool) (es : List Ex) | mth (m : Mt) (a : Ex) (es : List Ex) | omth (C : String) (f : Nat) (a : Ex) (es : List Ex)
  | isi (a : Ex) (ts : List Ty)
  | comp (m : Bool) (e : Ex) (t : Tg) (k : Ik) (es : List Ex) (c : List Ex)
  | lam (l : Nat) | clo (i : Nat)
  | xfld (f : String) | xisi
  | fstr (es : List Ex)
  | lcall (f l : Nat) (ss : List Str) | rep (m : Bool) (a b : Ex) | lens (a : Ex) | srts (m : Bool) (a : Ex)
inductive St where
  | asg (t : Tg) (e : Ex) | asub (o i e : Ex) | afld (o : Ex) (f : String) (e : Ex)
  | aug (i : Nat) (op : Bop) (e : Ex) | augs (o i : Ex) (op : Bop) (e : Ex) | augf (o : Ex) (f : String) (op : Bop) (e : Ex)
  | expr (e : Ex) | ret (e : Ex) | retN
  | ifs (c : Ex) (a b : List St)
  | for (t : Tg) (k : Ik) (es : List Ex) (b : List St) | whl (c : Ex) (b : List St) | brk | cont | pass
  | raise (C : String) (es : List Ex)
  | try (b : List St) (hs : List (String × Option Nat × List St))
  | frz (i : Nat)

/-! ### by values -/
def lk : Env → Nat → Option D
  | [], _ => none
  | x :: _, 0 => x
  | _ :: σ, i + 1 => lk σ i
/-- a number as such: True is 1 -/
def b2i (b : Bool) : Int := if b then 1 else 0
mutual
/-- how deep a thing is -/
def D.dep : D → Nat
  | .tup xs => depL xs + 1 | .lst xs => depL xs + 1
  | .non => 0 | .bl _ => 0 | .int _ => 0 | .str _ => 0 | .dct _ _ => 1000 | .obj _ _ => 1000 | .ref _ => 1000 | .clo _ _ => 1000
def depL : List D → Nat
  | [] => 0
  | x :: xs => max x.dep (depL xs)
end
mutual
/-- Python's == on data -/
def peq : D → D → Bool
  | .non, y => match y with | .non => true | _ => false
  | .bl a, y => match y with | .bl b => a == b | .int j => b2i a == j | _ => false
  | .int i, y => match y with | .int j => i == j | .bl b => i == b2i b | _ => false
  | .str s, y => match y with | .str t => s == t | _ => false
  | .tup xs, y => match y with | .tup ys => peqL xs ys | _ => false
  | .lst xs, y => match y with | .lst ys => peqL xs ys | _ => false
  | .dct _ _, _ => false | .obj _ _, _ => false | .ref _, _ => false | .clo _ _, _ => false
def peqL : List D → List D → Bool
  | [], ys => match ys with | [] => true | _ :: _ => false
  | x :: xs, ys => match ys with | [] => false | y :: ys => peq x y && peqL xs ys
end
mutual
/-- Python's < on data of one shape (numbers, texts, tuples of such) -/
def plt : D → D → Option Bool
  | .int i, y => match y with | .int j => some (decide (i < j)) | _ => none
  | .str s, y => match y with | .str t => some (decide (s.cps.toList < t.cps.toList)) | _ => none
  | .tup xs, y => match y with | .tup ys => pltL xs ys | _ => none
  | .non, _ => none | .bl _, _ => none | .lst _, _ => none | .dct _ _, _ => none | .obj _ _, _ => none | .ref _, _ => none | .clo _ _, _ => none
def pltL : List D → List D → Option Bool
  | [], ys => match ys with | [] => some false | _ :: _ => some true
  | x :: xs, ys => match ys with | [] => some false | y :: ys => match pltL xs ys with | none => none | some r => if peq x y then some r else plt x y
end
/-- an item's place, from the front or from the back -/
def ixN (n : Nat) (i : Int) : Option Nat := if 0 ≤ i then (if i < n then some i.toNat else none) else if -(n : Int) ≤ i then some (i + n).toNat else none
/-- a slice's end -/
def sIx (n d : Nat) : Option Int → Nat
  | none => d
  | some i => if i < 0 then (i + n).toNat else min i.toNat n
def cutL {α : Type} (xs : List α) (lo hi : Option Int) : List α := (xs.drop (sIx xs.length 0 lo)).take (sIx xs.length xs.length hi - sIx xs.length 0 lo)
def flatK : D → Bool | .int _ => true | .str _ => true | _ => false
def isKey (t : Bool) (d : D) : Bool := match d with
  | .int _ => !t
  | .str _ => !t
  | .tup xs => t && xs.all flatK
  | _ => false
noncomputable def look (kvs : List (D × D)) (k : D) : Option D := (kvs.find? fun p => decide (p.1 = k)).map (·.2)
noncomputable def put (kvs : List (D × D)) (k v : D) : List (D × D) := if (look kvs k).isSome then kvs.map fun p => if p.1 = k then (p.1, v) else p else kvs ++ [(k, v)]
noncomputable def putAll (kvs ps : List (D × D)) : List (D × D) := ps.foldl (fun acc p => put acc p.1 p.2) kvs
noncomputable def lookF (fs : List (String × D)) (f : String) : Option D := fs.lookup f
/-- a field stored: in its place, or behind -/
def putF (fs : List (String × D)) (f : String) (v : D) : List (String × D) := match fs with
  | [] => [(f, v)]
  | p :: r => if p.1 = f then (f, v) :: r else p :: putF r f v

/-- the items of a list or a tuple -/
def seqM (M : Mem) : D → Option (List D)
  | .tup xs => some xs
  | .lst xs => some xs
  | .ref a => match M a with | some (.lst xs) => some xs | _ => none
  | _ => none
def dctM (M : Mem) : D → Option (Bool × List (D × D))
  | .dct t kvs => some (t, kvs)
  | .ref a => match M a with | some (.dct t kvs) => some (t, kvs) | _ => none
  | _ => none
def insM (M : Mem) : D → Option (String × List (String × D))
  | .obj C fs => some (C, fs)
  | .ref a => match M a with | some (.ins C fs) => some (C, fs) | _ => none
  | _ => none
/-- a list that may still change is read as one that may not -/
def iceL (M : Mem) (d : D) : D := match d with
  | .ref a => match M a with | some (.lst xs) => .lst xs | _ => d
  | _ => d

abbrev K := D → Mem → Prop
abbrev KX := Exn → Mem → Prop
/-- a new list: one that may change, or not -/
def newL (m : Bool) (xs : List D) (M : Mem) (Q : K) : Prop := if m then ∀ a, M a = none → Q (.ref a) (up M a (.lst xs)) else Q (.lst xs) M
/-- a new tuple: one that is known to be plain, or not -/
def newT (m : Bool) (xs : List D) (M : Mem) (Q : K) : Prop := if m then ∀ a, M a = none → Q (.ref a) (up M a (.tup xs)) else Q (.tup xs) M
def newD (m t : Bool) (kvs : List (D × D)) (M : Mem) (Q : K) : Prop := if m then ∀ a, M a = none → Q (.ref a) (up M a (.dct t kvs)) else Q (.dct t kvs) M

def line : Nat := 2 ^ 24
/-- with what is there -/
def ob {α : Type} (o : Option α) (f : α → Prop) : Prop := match o with | some a => f a | none => False
def on1 (ds : List D) (f : D → Prop) : Prop := match ds with | [d] => f d | _ => False
def on2 (ds : List D) (f : D → D → Prop) : Prop := match ds with | [d, e] => f d e | _ => False
def onI (d : D) (f : Int → Prop) : Prop := match d with | .int i => f i | _ => False
def onS (d : D) (f : Str → Prop) : Prop := match d with | .str i => f i | _ => False
def onR (d : D) (f : Nat → Prop) : Prop := match d with | .ref i => f i | _ => False
def isTup : D → Bool | .tup _ => true | _ => false
/-- a plain tuple's items -/
def plnM (M : Mem) : D → Option (List D)
  | .ref a => match M a with | some (.tup xs) => some xs | _ => none
  | _ => none
/-- what may be held fast -/
def iceOk : MO → Prop | .tup xs => xs.all flatK = false | _ => True
def isStr : D → Bool | .str _ => true | _ => false
/-- what stands in memory: a list, a dict, an instance -/
def atL (M : Mem) (a : Nat) : Option (List D) := match M a with | some (.lst xs) => some xs | _ => none
def atD (M : Mem) (a : Nat) : Option (Bool × List (D × D)) := match M a with | some (.dct t kvs) => some (t, kvs) | _ => none
def atN (M : Mem) (a : Nat) : Option (String × List (String × D)) := match M a with | some (.ins C fs) => some (C, fs) | _ => none
def catop (a b : D) (M : Mem) (Q : K) : Prop :=
  (isTup a = false ∧ isTup b = false) ∧ ob (seqM M a) fun xs => ob (seqM M b) fun ys => xs.length + ys.length ≤ line ∧ Q (.lst (xs ++ ys)) M
def binop (o : Bop) (a b : D) (M : Mem) (Q : K) : Prop := match o with
  | .add => match a, b with
    | .int i, .int j => Q (.int (i + j)) M
    | .str s, .str t => s.length + t.length ≤ line ∧ Q (.str (s ++ t)) M
    | .tup xs, .tup ys => xs.length + ys.length ≤ line ∧ Q (.tup (xs ++ ys)) M
    | a, b => catop a b M Q
  | .sub => onI a fun i => onI b fun j => Q (.int (i - j)) M
  | .mul => match a with
    | .lst xs => onI b fun j => (0 ≤ j ∧ j ≤ line ∧ xs.length * j.toNat ≤ line) ∧ Q (.lst (List.replicate j.toNat xs).flatten) M
    | a => onI a fun i => onI b fun j => (i.natAbs < 2 ^ 100000 ∧ j.natAbs < 2 ^ 100000) ∧ Q (.int (i * j)) M
  | .fdiv => onI a fun i => onI b fun j => (0 < j ∧ j < 1073741824) ∧ Q (.int (i / j)) M
  | .mod => onI a fun i => onI b fun j => 0 < j ∧ Q (.int (i % j)) M
  | .pow => onI a fun i => onI b fun j => (0 ≤ j ∧ j ≤ 1000 ∧ i.natAbs < 2 ^ 64) ∧ Q (.int (i ^ j.toNat)) M
/-- one sign -/
def onC (d : D) (f : Nat → Prop) : Prop := match d with | .str t => (match t.cps.toList with | [c] => f c | _ => False) | _ => False
/-- x in y -/
noncomputable def inop (a b : D) (M : Mem) (Q : Bool → Prop) : Prop := match b with
  | .str s => onC a fun c => Q (decide (c ∈ s.cps.toList))
  | b => match dctM M b with
    | some p => isKey p.1 a = true ∧ Q (look p.2 a).isSome
    | none => ob (seqM M b) fun xs => (a.dep ≤ 60 ∧ depL xs ≤ 60) ∧ Q (xs.any fun x => peq x a)
/-- comparisons that give True or False -/
noncomputable def cmpop (o : Cop) (a b : D) (M : Mem) (Q : Bool → Prop) : Prop := match o with
  | .eq => ((iceL M a).dep ≤ 60 ∧ (iceL M b).dep ≤ 60) ∧ Q (peq (iceL M a) (iceL M b))
  | .ne => ((iceL M a).dep ≤ 60 ∧ (iceL M b).dep ≤ 60) ∧ Q (!peq (iceL M a) (iceL M b))
  | .lt => (a.dep ≤ 60 ∧ b.dep ≤ 60) ∧ ob (plt a b) Q
  | .le => onI a fun i => onI b fun j => Q (decide (i ≤ j))
  | .gt => onI a fun i => onI b fun j => Q (decide (j < i))
  | .ge => onI a fun i => onI b fun j => Q (decide (j ≤ i))
  | .isin => inop a b M Q
  | .notin => inop a b M fun r => Q (!r)
/-- o[i] -/
noncomputable def subop (o i : D) (M : Mem) (Q : D → Prop) : Prop := match dctM M o with
  | some p => isKey p.1 i = true ∧ ob (look p.2 i) Q
  | none => match o with
    | .str s => onI i fun k => ob (ixN s.cps.toList.length k) fun j => ob s.cps.toList[j]? fun c => s.length ≤ line ∧ Q (.str ⟨#[c]⟩)
    | o => onI i fun k => ob (seqM M o) fun xs => ob (ixN xs.length k) fun j => ob xs[j]? Q
/-- o[lo:hi] -/
def slcop (o : D) (l h : Option Int) (M : Mem) (Q : D → Prop) : Prop := match o with
  | .str s => s.length ≤ line ∧ Q (.str ⟨(cutL s.cps.toList l h).toArray⟩)
  | .tup xs => Q (.tup (cutL xs l h))
  | o => ob (seqM M o) fun xs => Q (.lst (cutL xs l h))
/-- o[::-1] -/
def revop (o : D) (M : Mem) (Q : D → Prop) : Prop := match o with
  | .tup xs => Q (.tup xs.reverse)
  | o => ob (seqM M o) fun xs => Q (.lst xs.reverse)
noncomputable def fldop (o : D) (f : String) (M : Mem) (Q : D → Prop) : Prop := ob (insM M o) fun p => ob (lookF p.2 f) Q
def tyOf (M : Mem) : D → Option Ty
  | .bl _ => some .bool | .int _ => some .int | .str _ => some .str | .tup _ => some .tuple | .lst _ => some .list | .dct false _ => some .dict
  | .ref a => match M a with | some (.lst _) => some .list | some (.dct _ _) => some .dict | _ => none
  | _ => none
def isiop (ts : List Ty) (M : Mem) (d : D) (Q : Bool → Prop) : Prop := match d with
  | .non => Q false
  | d => ob (tyOf M d) fun t => Q (ts.any fun x => x == t || (x == .int && t == .bool))
def dInts : List D → Option (List Int)
  | [] => some []
  | .int i :: r => (dInts r).map (i :: ·)
  | _ => none
def dBools : List D → Option (List Bool)
  | [] => some []
  | .bl i :: r => (dBools r).map (i :: ·)
  | _ => none
def dTexts : List D → Option (List Str)
  | [] => some []
  | .str i :: r => (dTexts r).map (i :: ·)
  | _ => none
def dPairs : List D → Option (List (D × D))
  | [] => some []
  | .tup [a, b] :: r => (dPairs r).map ((a, b) :: ·)
  | _ => none
/-- the first of each, in the order of coming -/
noncomputable def firsts : List D → List D → List D
  | acc, [] => acc
  | acc, x :: xs => if x ∈ acc then firsts acc xs else firsts (acc ++ [x]) xs
mutual
/-- numbers, texts, tuples of such -/
def pure_ : D → Bool
  | .int _ => true
  | .str _ => true
  | .tup xs => pureL xs
  | _ => false
def pureL : List D → Bool
  | [] => true
  | x :: xs => pure_ x && pureL xs
end
/-- what can be sorted -/
structure Sortd (ds : List D) : Prop where
  pure : ∀ d ∈ ds, pure_ d = true
  cmp : ∀ d ∈ ds, ∀ e ∈ ds, (plt d e).isSome = true
/-- the tuples' first items -/
def fsts : List D → Option (List D)
  | [] => some []
  | .tup (x :: _) :: ds => (fsts ds).map (x :: ·)
  | _ => none
/-- one kind of first items: numbers, texts, or tuples -/
def oneKind (ds : List D) : Prop := ∃ fs, fsts ds = some fs ∧ ((∀ f ∈ fs, ∃ j, f = .int j) ∨ (∀ f ∈ fs, ∃ t, f = .str t) ∨ ∀ f ∈ fs, ∃ xs, f = .tup xs)
/-- what sorted asks -/
def SortOk (ds : List D) : Prop := ds.length < 64 ∧ Sortd ds ∧ oneKind ds ∧ depL ds ≤ 60
/-- one kind of first items -/
def kinds (ds : List D) : Prop := (∀ d ∈ ds, ∃ j xs, d = .tup (.int j :: xs)) ∨ (∀ d ∈ ds, ∃ t xs, d = .tup (.str t :: xs)) ∨ ∀ d ∈ ds, ∃ zs xs, d = .tup (.tup zs :: xs)
mutual
/-- numbers, and tuples of such -/
def pureI : D → Bool
  | .int _ => true
  | .tup xs => pureIL xs
  | _ => false
def pureIL : List D → Bool
  | [] => true
  | x :: xs => pureI x && pureIL xs
end
/-- what sorted(set(..)) asks -/
structure SetOk (ds : List D) : Prop where
  few : ds.length < 64
  srt : Sortd ds
  kind : kinds ds
  dep : depL ds ≤ 7
  nums : ∀ d ∈ ds, pureI d = true
def strOf (c : Nat) : D := .str ⟨#[c]⟩
def rngF (j : Int) : List D := (List.range j.toNat).map fun n => .int (n : Nat)
def rngA (i j : Int) : List D := (List.range (j - i).toNat).map fun n => .int (i + (n : Nat))
def rngB (i j : Int) : List D := (List.range (i - j).toNat).map fun n => .int (i - (n : Nat))
def enmL (xs : List D) : List D := xs.zipIdx.map fun p => .tup [.int p.2, p.1]
def zipL (xs ys : List D) : List D := (xs.zip ys).map fun p => .tup [p.1, p.2]
/-- the items of what is not to change -/
def still : D → Option (List D)
  | .str s => if s.length ≤ line then some (s.cps.toList.map strOf) else none
  | .tup xs => some xs
  | .lst xs => some xs
  | .dct false kvs => some (kvs.map (·.1))
  | _ => none
def stillS : D → Option (Bool × List D)
  | .tup xs => some (true, xs)
  | .lst xs => some (false, xs)
  | _ => none
/-- what is walked -/
def itop (k : Ik) (ds : List D) (Q : List D → Prop) : Prop := match k with
  | .seq => on1 ds fun d => ob (still d) Q
  | .rng => match ds with
    | [a] => onI a fun j => (-(2 ^ 60) ≤ j ∧ j ≤ line) ∧ Q (rngF j)
    | [a, b] => onI a fun i => onI b fun j => (-(2 ^ 60) ≤ i ∧ i ≤ 2 ^ 60 ∧ -(2 ^ 60) ≤ j ∧ j ≤ 2 ^ 60 ∧ j - i ≤ line) ∧ Q (rngA i j)
    | [a, b, c] => onI a fun i => onI b fun j => onI c fun k => (k = -1 ∧ -(2 ^ 60) ≤ i ∧ i ≤ 2 ^ 60 ∧ -(2 ^ 60) ≤ j ∧ j ≤ 2 ^ 60 ∧ i - j ≤ line) ∧ Q (rngB i j)
    | _ => False
  | .enm => on1 ds fun d => ob (stillS d) fun p => Q (enmL p.2)
  | .zip => on2 ds fun a b => ob (stillS a) fun p => ob (stillS b) fun q => p.1 = q.1 ∧ Q (zipL p.2 q.2)
/-- the items as numbers .. -/
def lsI (M : Mem) (d : D) (f : List Int → Prop) : Prop := isTup d = false ∧ ob (seqM M d) fun xs => ob (dInts xs) f
def lsB (M : Mem) (d : D) (f : List Bool → Prop) : Prop := isTup d = false ∧ ob (seqM M d) fun xs => ob (dBools xs) f
def lsS (M : Mem) (d : D) (f : List Str → Prop) : Prop := ob (seqM M d) fun xs => ob (dTexts xs) f
/-- how many different texts -/
def distS (ts : List Str) : Nat := (ts.foldl (fun acc t => if acc.any (· == t) then acc else acc ++ [t]) []).length
def lensop (d : D) (M : Mem) (Q : K) : Prop := isTup d = false ∧ lsS M d fun ts => ts.length ≤ 4000 ∧ Q (.int (distS ts)) M
noncomputable def biop (b : Bi) (m : Bool) (ds : List D) (M : Mem) (Q : K) : Prop := match b with
  | .len => on1 ds fun d => match d with
    | .str s => s.length ≤ line ∧ Q (.int s.length) M
    | d => match dctM M d with
      | some p => p.1 = false ∧ Q (.int p.2.length) M
      | none => ob (seqM M d) fun xs => Q (.int xs.length) M
  | .abs => on1 ds fun d => onI d fun i => Q (.int (if i < 0 then -i else i)) M
  | .int => on1 ds fun d => onI d fun i => Q (.int i) M
  | .str => on1 ds fun d => onI d fun i => i.natAbs.log2 < 1920 ∧ Q (.str (toString i)) M
  | .list => on1 ds fun d => match dctM M d with
      | some _ => False
      | none => ob (seqM M d) fun xs => newL m xs M Q
  | .tuple => on1 ds fun d => ob (seqM M d) fun xs => newT (m && !isTup d) xs M Q
  | .dict => on1 ds fun d => match dctM M d with
      | some _ => False
      | none => ob (match plnM M d with | some xs => some xs | none => if isTup d then none else seqM M d) fun xs => ob (dPairs xs) fun ps => (∀ p ∈ ps, isKey false p.1 = true) ∧ newD m false (putAll [] ps) M Q
  | .all => on1 ds fun d => lsB M d fun bs => Q (.bl (bs.all id)) M
  | .any => on1 ds fun d => lsB M d fun bs => Q (.bl (bs.any id)) M
  | .sum => on1 ds fun d => lsI M d fun ns => Q (.int ns.sum) M
  | .max2 => on2 ds fun a b => onI a fun i => onI b fun j => Q (.int (if j > i then j else i)) M
  | .min2 => on2 ds fun a b => onI a fun i => onI b fun j => Q (.int (if j < i then j else i)) M
  | .max1 => on1 ds fun d => lsI M d fun ns => 0 < ns.length ∧ ∀ k, k ∈ ns → (∀ y, y ∈ ns → y ≤ k) → Q (.int k) M
  | .min1 => on1 ds fun d => lsI M d fun ns => 0 < ns.length ∧ ∀ k, k ∈ ns → (∀ y, y ∈ ns → k ≤ y) → Q (.int k) M
  | .sorted => on1 ds fun d => isTup d = false ∧ ob (seqM M d) fun xs => SortOk xs ∧ ∀ ys, ys.Perm xs → ys.Pairwise (fun a b => plt b a = some false) → newL m ys M Q
  | .lenset => on1 ds fun d => ob (seqM M d) fun xs => (∃ t, xs.all (isKey t) = true) ∧ Q (.int (firsts [] xs).length) M
  | .sortset => False
noncomputable def mthop (x : Mt) (o : D) (ds : List D) (M : Mem) (Q : K) : Prop := match x with
  | .append => onR o fun a => ob (atL M a) fun xs => on1 ds fun d => xs.length < line ∧ Q .non (up M a (.lst (xs ++ [d])))
  | .extend => onR o fun a => ob (atL M a) fun xs => on1 ds fun d => ob (seqM M d) fun ys => (∀ b, d = .ref b → b ≠ a) ∧ xs.length + ys.length ≤ line ∧ Q .non (up M a (.lst (xs ++ ys)))
  | .pop => onR o fun a => ob (atL M a) fun xs => ds = [] ∧ ob xs.getLast? fun v => Q v (up M a (.lst xs.dropLast))
  | .get => ob (dctM M o) fun p => on2 ds fun k d => isKey p.1 k = true ∧ Q ((look p.2 k).getD d) M
  | .index => ob (seqM M o) fun xs => on1 ds fun d => (d.dep ≤ 60 ∧ depL xs ≤ 60 ∧ isTup o = false) ∧ ob (xs.findIdx? fun x => peq x d) fun j => Q (.int j) M
  | .count => on1 ds fun d => match o with
    | .tup xs => (d.dep ≤ 60 ∧ depL xs ≤ 60) ∧ Q (.int (xs.countP fun x => peq x d)) M
    | _ => False
  | .join => onS o fun s => on1 ds fun d => lsS M d fun ts =>
      (ts.map (·.length)).sum + ts.length * s.length ≤ 16777216 ∧ Q (.str (Str.join s ts)) M
  | .split => False

/-- that there is such a method -/
def mtIs (x : Mt) (o : D) (M : Mem) : Prop := match x with
  | .get => (dctM M o).isSome = true
  | .count => isTup o = true
  | .join => isStr o = true
  | .split => isStr o = true
  | _ => isTup o = false ∧ (seqM M o).isSome = true

/-- where a target's values go -/
def onT (d : D) (f : List D → Prop) : Prop := match d with | .tup xs => f xs | _ => False
mutual
def wTg : Tg → D → Env → (Env → Prop) → Prop
  | .nm i, d, σ, Q => Q (σ.set i (some d))
  | .tu ts, d, σ, Q => onT d fun xs => wTgs ts xs σ Q
def wTgs : List Tg → List D → Env → (Env → Prop) → Prop
  | [], xs, σ, Q => (match xs with | [] => Q σ | _ :: _ => False)
  | t :: ts, xs, σ, Q => (match xs with | [] => False | x :: xs => wTg t x σ fun σ1 => wTgs ts xs σ1 Q)
end

mutual
def tgSlots : Tg → List Nat
  | .nm i => [i]
  | .tu ts => tgsSlots ts
def tgsSlots : List Tg → List Nat
  | [] => []
  | t :: ts => tgSlots t ++ tgsSlots ts
end
def wipeD (σ : Env) : List Nat → Env
  | [] => σ
  | v :: vs => (wipeD σ vs).set v none
/-- what calls do -/
structure Sem where
  call : Nat → List D → Mem → K → KX → Prop
  init : Nat → List D → Mem → K → KX → Prop
  lam : Nat → Env → Mem → K → KX → Prop
  glo : String → Option D
  ini : String → Option Nat
  xf : String → Option (List String)
  sub : String → String → Bool
  cur : Option Exn

/-- the turns of a comprehension -/
def lcL (turn : D → Mem → (Option D → Mem → Prop) → Prop) (Q : List D → Mem → Prop) : List D → List D → Mem → Prop
  | [], acc, M => Q acc M
  | x :: xs, acc, M => turn x M fun r M1 => match r with | some y => lcL turn Q xs (acc ++ [y]) M1 | none => lcL turn Q xs acc M1
/-- the turns of a for -/
def forL (turn : D → Env → Mem → (Env → Mem → Prop) → Prop) (Q : Env → Mem → Prop) : List D → Env → Mem → Prop
  | [], σ, M => Q σ M
  | x :: xs, σ, M => turn x σ M fun σ1 M1 => forL turn Q xs σ1 M1
/-- at most so many turns of a while -/
def whlL (test : Env → Mem → (Bool → Mem → Prop) → Prop) (turn : Env → Mem → (Env → Mem → Prop) → Prop) (Q : Env → Mem → Prop) : Nat → Env → Mem → Prop
  | 0, _, _ => False
  | n + 1, σ, M => test σ M fun b M1 => if b then turn σ M1 fun σ2 M2 => whlL test turn Q n σ2 M2 else Q σ M1
def asB (Q : Bool → Mem → Prop) : K := fun d M => match d with | .bl b => Q b M | _ => False

mutual
noncomputable def wE (F : Sem) : Ex → Env → Mem → K → KX → Prop
  | .var i, σ, M, Q, _ => ob (lk σ i) fun d => Q d M
  | .int i, _, M, Q, _ => Q (.int i) M
  | .str s, _, M, Q, _ => Q (.str s) M
  | .bl b, _, M, Q, _ => Q (.bl b) M
  | .non, _, M, Q, _ => Q .non M
  | .glb x, _, M, Q, _ => ob (F.glo x) fun d => Q d M
  | .tup es, σ, M, Q, E => wEs F es σ M (fun ds M1 => Q (.tup ds) M1) E
  | .lst m es, σ, M, Q, E => wEs F es σ M (fun ds M1 => newL m ds M1 Q) E
  | .dnew m t kvs, σ, M, Q, E => wKv F kvs σ M (fun ps M1 => (∀ p ∈ ps, isKey t p.1 = true) ∧ newD m t (putAll [] ps) M1 Q) E
  | .bin o a b, σ, M, Q, E => wE F a σ M (fun x M1 => wE F b σ M1 (fun y M2 => binop o x y M2 Q) E) E
  | .neg a, σ, M, Q, E => wE F a σ M (fun x M1 => onI x fun i => Q (.int (-i)) M1) E
  | .cmp o a b, σ, M, Q, E => wE F a σ M (fun x M1 => wE F b σ M1 (fun y M2 => cmpop o x y M2 (fun r => Q (.bl r) M2)) E) E
  | .chain o o' a b c, σ, M, Q, E => wE F a σ M (fun x M1 => wE F b σ M1 (fun y M2 => cmpop o x y M2 (fun r => if r then wE F c σ M2 (fun z M3 => cmpop o' y z M3 (fun r => Q (.bl r) M3)) E else Q (.bl false) M2)) E) E
  | .isN n a, σ, M, Q, E => wE F a σ M (fun x M1 => Q (.bl (if x = .non then !n else n)) M1) E
  | .and es, σ, M, Q, E => wAnd F es σ M Q E
  | .or es, σ, M, Q, E => wOr F es σ M Q E
  | .not a, σ, M, Q, E => wE F a σ M (asB fun b M1 => Q (.bl (!b)) M1) E
  | .ifx c a b, σ, M, Q, E => wE F c σ M (asB fun r M1 => if r then wE F a σ M1 Q E else wE F b σ M1 Q E) E
  | .sub a i, σ, M, Q, E => wE F a σ M (fun x M1 => wE F i σ M1 (fun y M2 => subop x y M2 fun v => Q v M2) E) E
  | .slc a lo hi, σ, M, Q, E => wE F a σ M (fun x M1 => wO F lo σ M1 (fun l M2 => wO F hi σ M2 (fun h M3 => slcop x l h M3 fun v => Q v M3) E) E) E
  | .rev a, σ, M, Q, E => wE F a σ M (fun x M1 => revop x M1 fun v => Q v M1) E
  | .fld a f, σ, M, Q, E => wE F a σ M (fun x M1 => fldop x f M1 fun v => Q v M1) E
  | .call f es, σ, M, Q, E => wEs F es σ M (fun ds M1 => F.call f ds M1 Q E) E
  | .mk C es, σ, M, Q, E => wEs F es σ M (fun ds M1 => ob (F.ini C) fun f => ∀ a, M1 a = none → F.init f (.ref a :: ds) (up M1 a (.ins C [])) (fun r M2 => r = .non ∧ Q (.ref a) M2) E) E
  | .bi b m es, σ, M, Q, E => wEs F es σ M (fun ds M1 => biop b m ds M1 Q) E
  | .mth x a es, σ, M, Q, E => wE F a σ M (fun o M1 => mtIs x o M1 ∧ wEs F es σ M1 (fun ds M2 => mthop x o ds M2 Q) E) E
  | .omth C f a es, σ, M, Q, E => wE F a σ M (fun o M1 => (∃ fs, insM M1 o = some (C, fs)) ∧ wEs F es σ M1 (fun ds M2 => F.call f (o :: ds) M2 Q E) E) E
  | .isi a ts, σ, M, Q, E => wE F a σ M (fun x M1 => isiop ts M1 x fun b => Q (.bl b) M1) E
  | .comp m e t k es c, σ, M, Q, E => wEs F es σ M (fun ds M1 => itop k ds fun xs =>
      lcL (fun x M R => wTg t x (wipeD σ (tgSlots t)) fun σ1 => wCs F c σ1 M (fun b M2 => if b then wE F e σ1 M2 (fun y M3 => R (some y) M3) (fun _ _ => False) else R none M2) (fun _ _ => False))
        (fun acc M2 => newL m acc M2 Q) xs [] M1) E
  | .lam l, σ, M, Q, _ => Q (.clo l σ) M
  | .clo i, σ, M, Q, E => match lk σ i with | some (.clo l ρ) => F.lam l ρ M Q E | _ => False
  | .xfld f, _, M, Q, _ => ob F.cur fun e => ob (F.xf e.C) fun fs => f ∈ fs ∧ ob (lookF e.fs f) fun d => Q d M
  | .xisi, _, M, Q, _ => ob F.cur fun e => (F.xf e.C).isSome = true ∧ Q (.bl true) M
  | .fstr es, σ, M, Q, E => wEs F es σ M (fun ds M1 => False) E
  | .lcall f l ss, σ, M, Q, _ => F.call f (.clo l σ :: ss.map D.str) M Q (fun _ _ => False)
  | .lens a, σ, M, Q, E => wE F a σ M (fun x M1 => lensop x M1 Q) E
  | .srts m a, σ, M, Q, E => wE F a σ M (fun d M1 => isTup d = false ∧ ob (seqM M1 d) fun xs => SetOk xs ∧ ∀ ys, (∀ y, y ∈ ys ↔ y ∈ xs) → ys.Nodup → ys.Pairwise (fun a b => plt b a = some false) → newL m ys M1 Q) E
  | .rep m a b, σ, M, Q, E => wE F a σ M (fun x M1 => wE F b σ M1 (fun y M2 => onI y fun j => ob (seqM M2 x) fun xs => (isTup x = false ∧ 0 ≤ j ∧ j ≤ line ∧ xs.length * j.toNat ≤ line) ∧ newL m (List.replicate j.toNat xs).flatten M2 Q) E) E
noncomputable def wEs (F : Sem) : List Ex → Env → Mem → (List D → Mem → Prop) → KX → Prop
  | [], _, M, Q, _ => Q [] M
  | e :: es, σ, M, Q, E => wE F e σ M (fun d M1 => wEs F es σ M1 (fun ds M2 => Q (d :: ds) M2) E) E
noncomputable def wKv (F : Sem) : List (Ex × Ex) → Env → Mem → (List (D × D) → Mem → Prop) → KX → Prop
  | [], _, M, Q, _ => Q [] M
  | (k, v) :: es, σ, M, Q, E => wE F k σ M (fun x M1 => wE F v σ M1 (fun y M2 => wKv F es σ M2 (fun ps M3 => Q ((x, y) :: ps) M3) E) E) E
noncomputable def wO (F : Sem) : Option Ex → Env → Mem → (Option Int → Mem → Prop) → KX → Prop
  | none, _, M, Q, _ => Q none M
  | some e, σ, M, Q, E => wE F e σ M (fun d M1 => onI d fun i => Q (some i) M1) E
noncomputable def wAnd (F : Sem) : List Ex → Env → Mem → K → KX → Prop
  | [], _, _, _, _ => False
  | e :: es, σ, M, Q, E => wE F e σ M (asB fun b M1 => match es with
      | [] => Q (.bl b) M1
      | _ :: _ => if b then wAnd F es σ M1 Q E else Q (.bl false) M1) E
noncomputable def wOr (F : Sem) : List Ex → Env → Mem → K → KX → Prop
  | [], _, _, _, _ => False
  | e :: es, σ, M, Q, E => wE F e σ M (asB fun b M1 => match es with
      | [] => Q (.bl b) M1
      | _ :: _ => if b then Q (.bl true) M1 else wOr F es σ M1 Q E) E
noncomputable def wCs (F : Sem) : List Ex → Env → Mem → (Bool → Mem → Prop) → KX → Prop
  | [], _, M, Q, _ => Q true M
  | e :: es, σ, M, Q, E => wE F e σ M (asB fun b M1 => if b then wCs F es σ M1 Q E else Q false M1) E
end

structure Ends where
  nx : Env → Mem → Prop
  rt : K
  bk : Env → Mem → Prop
  ct : Env → Mem → Prop
  ex : Exn → Env → Mem → Prop
abbrev Ends.x (D : Ends) (σ : Env) : KX := fun e M => D.ex e σ M

/-- o[i] = v -/
noncomputable def setop (o i v : D) (M : Mem) (Q : Mem → Prop) : Prop := onR o fun a => match M a with
  | some (.lst xs) => onI i fun k => ob (ixN xs.length k) fun j => Q (up M a (.lst (xs.set j v)))
  | some (.dct t kvs) => isKey t i = true ∧ kvs.length < line ∧ Q (up M a (.dct t (put kvs i v)))
  | _ => False
/-- o.f = v -/
def putop (o : D) (f : String) (v : D) (M : Mem) (Q : Mem → Prop) : Prop := onR o fun a => ob (atN M a) fun p => p.2.length < 100 ∧ Q (up M a (.ins p.1 (putF p.2 f v)))
/-- two numbers -/
def augop (op : Bop) (x y : D) (M : Mem) (Q : K) : Prop := onI x fun i => onI y fun j => binop op (.int i) (.int j) M Q
mutual
noncomputable def wS (F : Sem) : St → Env → Mem → Ends → Prop
  | .asg t e, σ, M, D => wE F e σ M (fun d M1 => wTg t d σ fun σ1 => D.nx σ1 M1) (D.x σ)
  | .asub o i e, σ, M, D => wE F e σ M (fun v M1 => wE F o σ M1 (fun x M2 => wE F i σ M2 (fun y M3 => setop x y v M3 fun M4 => D.nx σ M4) (D.x σ)) (D.x σ)) (D.x σ)
  | .afld o f e, σ, M, D => wE F e σ M (fun v M1 => wE F o σ M1 (fun x M2 => putop x f v M2 fun M3 => D.nx σ M3) (D.x σ)) (D.x σ)
  | .aug i op e, σ, M, D => ob (lk σ i) fun x => wE F e σ M (fun y M1 => augop op x y M1 fun z M2 => D.nx (σ.set i (some z)) M2) (D.x σ)
  | .augs o i op e, σ, M, D => wE F o σ M (fun x M1 => wE F i σ M1 (fun y M2 => onR x fun a => ob (atL M2 a) fun xs => onI y fun n => ob (ixN xs.length n) fun j => ob xs[j]? fun v => wE F e σ M2 (fun w M3 => augop op v w M3 fun z M4 => setop x y z M4 fun M5 => D.nx σ M5) (D.x σ)) (D.x σ)) (D.x σ)
  | .augf o f op e, σ, M, D => wE F o σ M (fun x M1 => fldop x f M1 fun v => wE F e σ M1 (fun w M2 => augop op v w M2 fun z M3 => putop x f z M3 fun M4 => D.nx σ M4) (D.x σ)) (D.x σ)
  | .expr e, σ, M, D => wE F e σ M (fun _ M1 => D.nx σ M1) (D.x σ)
  | .ret e, σ, M, D => wE F e σ M D.rt (D.x σ)
  | .retN, _, M, D => D.rt .non M
  | .ifs c a b, σ, M, D => wE F c σ M (asB fun r M1 => if r then wSs F a σ M1 D else wSs F b σ M1 D) (D.x σ)
  | .for t k es b, σ, M, D => wEs F es σ M (fun ds M1 => itop k ds fun xs =>
      forL (fun x σ M R => wTg t x σ fun σ1 => wSs F b σ1 M { D with nx := R, ct := R, bk := D.nx }) D.nx xs σ M1) (D.x σ)
  | .whl c b, σ, M, D => ∃ n, whlL (fun σ M R => wE F c σ M (asB R) (D.x σ)) (fun σ M R => wSs F b σ M { D with nx := R, ct := R, bk := D.nx }) D.nx n σ M
  | .brk, σ, M, D => D.bk σ M
  | .cont, σ, M, D => D.ct σ M
  | .pass, σ, M, D => D.nx σ M
  | .raise C es, σ, M, D => ob (F.xf C) fun fs => wEs F es σ M (fun ds M1 => fs.length = ds.length ∧ D.ex ⟨C, fs.zip ds⟩ σ M1) (D.x σ)
  | .try b hs, σ, M, D => wSs F b σ M { D with ex := fun e σ1 M1 => wHs F hs e σ1 M1 D }
  | .frz i, σ, M, D => ob (lk σ i) fun d => onR d fun a => ob (M a) fun o => iceOk o ∧ D.nx (σ.set i (some o.ice)) (del M a)
noncomputable def wSs (F : Sem) : List St → Env → Mem → Ends → Prop
  | [], σ, M, D => D.nx σ M
  | s :: ss, σ, M, D => wS F s σ M { D with nx := fun σ1 M1 => wSs F ss σ1 M1 D }
/-- the first clause that takes the exception; in its suite nothing is raised -/
noncomputable def wHs (F : Sem) : List (String × Option Nat × List St) → Exn → Env → Mem → Ends → Prop
  | [], e, σ, M, D => D.ex e σ M
  | (C, n, b) :: hs, e, σ, M, D => (F.xf e.C).isSome = true ∧ if F.sub e.C C then
      (match n with
        | none => wSs { F with cur := none } b σ M { D with ex := fun _ _ _ => False }
        | some i => i < σ.length ∧ wSs { F with cur := some e } b (σ.set i none) M { nx := fun σ1 M1 => D.nx (σ1.set i none) M1, rt := D.rt, bk := fun σ1 M1 => D.bk (σ1.set i none) M1, ct := fun σ1 M1 => D.ct (σ1.set i none) M1, ex := fun _ _ _ => False })
    else wHs F hs e σ M D
end

/-- a def: how many parameters, how many names, its body -/
structure Fn where
  ps : Nat
  ns : Nat
  body : List St
structure Prog where
  fns : List Fn
  lams : List Ex
  glo : String → Option D
  ini : String → Option Nat
  xf : String → Option (List String)
  sub : String → String → Bool
/-- what calls do at a depth of at most so much -/
noncomputable def semOf (P : Prog) (c c1 : Nat → List D → Mem → K → KX → Prop) (l : Nat → Env → Mem → K → KX → Prop) : Sem := ⟨c, c1, l, P.glo, P.ini, P.xf, P.sub, none⟩
noncomputable def lamOf (P : Prog) (c c1 : Nat → List D → Mem → K → KX → Prop) (l : Nat) (ρ : Env) (M : Mem) (Q : K) (E : KX) : Prop := ob P.lams[l]? fun e => wE (semOf P c c1 fun _ _ _ _ _ => False) e ρ M Q E
noncomputable def runFn (F : Sem) (fn : Fn) (ds : List D) (M : Mem) (Q : K) (E : KX) : Prop :=
  ds.length = fn.ps ∧ wSs F fn.body (ds.map some ++ List.replicate (fn.ns - fn.ps) none) M ⟨fun _ M => Q .non M, Q, fun _ _ => False, fun _ _ => False, fun e _ M => E e M⟩
/-- a def called at a depth of at most so much; the one less, and the next one less -/
noncomputable def call3 (P : Prog) : Nat → (Nat → List D → Mem → K → KX → Prop) × (Nat → List D → Mem → K → KX → Prop) × (Nat → List D → Mem → K → KX → Prop)
  | 0 => (fun _ _ _ _ _ => False, fun _ _ _ _ _ => False, fun _ _ _ _ _ => False)
  | k + 1 => let c := call3 P k
    (fun f ds M Q E => ob P.fns[f]? fun fn => runFn (semOf P c.1 c.2.1 (lamOf P c.2.1 c.2.2)) fn ds M Q E, c.1, c.2.1)
noncomputable def wCall (P : Prog) (k : Nat) : Nat → List D → Mem → K → KX → Prop := (call3 P k).1
noncomputable def semAt (P : Prog) (k : Nat) : Sem := semOf P (wCall P k) (wCall P (k - 1)) (lamOf P (wCall P (k - 1)) (wCall P (k - 2)))
theorem call3_2 (P : Prog) (k : Nat) : (call3 P k).2.1 = wCall P (k - 1) := by cases k <;> rfl
theorem call3_3 (P : Prog) (k : Nat) : (call3 P k).2.2 = wCall P (k - 2) := by
  cases k with
  | zero => rfl
  | succ k => exact call3_2 P k
theorem wCall_zero (P : Prog) (f : Nat) (ds : List D) (M : Mem) (Q : K) (E : KX) : wCall P 0 f ds M Q E = False := rfl
theorem wCall_succ (P : Prog) (k f : Nat) (ds : List D) (M : Mem) (Q : K) (E : KX) : wCall P (k + 1) f ds M Q E = ob P.fns[f]? fun fn => runFn (semAt P k) fn ds M Q E := by
  show (ob P.fns[f]? fun fn => runFn (semOf P (call3 P k).1 (call3 P k).2.1 (lamOf P (call3 P k).2.1 (call3 P k).2.2)) fn ds M Q E) = _
  rw [call3_2, call3_3]
  rfl
end Dee

set_option Elab.async false
set_option linter.all false
set_option autoImplicit false
set_option maxRecDepth 100000
/-! Dee: how data stand in the model's memory. -/
namespace Dee
open PySem PySem.Spec PyProof.Rows L2

/-- not locked -/
def NF : HO → Prop
  | .frz _ _ => False
  | .tbl _ => False
  | _ => True
/-- tuples, lists, and what is locked -/
def OwnT : HO → Prop
  | .tup _ => True
  | .lst _ => True
  | .xd _ => True
  | .frz _ _ => True
  | .ext _ => True
  | _ => False
/-- what may stand hidden -/
def HidOk : HO → Prop
  | .tbl _ => False
  | .ext _ => False
  | _ => True
/-- what stood still stands -/
structure Mono (M : Mem) (H : Hp) (M' : Mem) (H' : Hp) : Prop where
  keep : ∀ a u, NF u → M a = none → Rd H a u → M' a = none ∧ Rd H' a u
  tup : ∀ a u, OwnT u → M a = none → H a = some u → M' a = none ∧ H' a = some u
theorem Mono.refl (M : Mem) (H : Hp) : Mono M H M H := ⟨fun _ _ _ h r => ⟨h, r⟩, fun _ _ _ n h => ⟨n, h⟩⟩
theorem Mono.trans {M M1 M2 : Mem} {H H1 H2 : Hp} (a : Mono M H M1 H1) (b : Mono M1 H1 M2 H2) : Mono M H M2 H2 :=
  ⟨fun c u n h r => let ⟨h1, r1⟩ := a.keep c u n h r; b.keep c u n h1 r1, fun c u o h e => let ⟨h1, e1⟩ := a.tup c u o h e; b.tup c u o h1 e1⟩
/-- something new is laid -/
theorem Mono.new {M : Mem} {H : Hp} {p : Addr} {o : HO} (hp : H p = none) : Mono M H M (upd H p o) where
  keep := fun a u _ h r => ⟨h, by
    rcases r with e | ⟨ob, e⟩
    · exact .inl (by rw [upd_ne (ne_of_none e hp)]; exact e)
    · exact .inr ⟨ob, by rw [upd_ne (ne_of_none e hp)]; exact e⟩⟩
  tup := fun a u _ n e => ⟨n, by rw [upd_ne (ne_of_none e hp)]; exact e⟩
/-- something that may change is laid, or changed -/
theorem Mono.put {M : Mem} {H : Hp} {p : Addr} {o : HO} {x : MO} (hp : H p = none ∨ ∃ y, M p = some y) : Mono M H (up M p x) (upd H p o) where
  keep := fun a u _ h r => by
    have ne : a ≠ p := by
      rintro rfl
      rcases hp with hp | ⟨y, hp⟩
      · rcases r with e | ⟨ob, e⟩ <;> (rw [hp] at e; cases e)
      · rw [h] at hp; cases hp
    refine ⟨by unfold up; rw [if_neg ne]; exact h, ?_⟩
    rcases r with e | ⟨ob, e⟩
    · exact .inl (by rw [upd_ne ne]; exact e)
    · exact .inr ⟨ob, by rw [upd_ne ne]; exact e⟩
  tup := fun a u _ h e => by
    have ne : a ≠ p := by
      rintro rfl
      rcases hp with hp | ⟨y, hp⟩
      · rw [hp] at e; cases e
      · rw [h] at hp; cases hp
    exact ⟨by unfold up; rw [if_neg ne]; exact h, by rw [upd_ne ne]; exact e⟩
/-- it no longer changes -/
theorem Mono.ice {M : Mem} {H : Hp} {p : Addr} : Mono M H (del M p) H where
  keep := fun a u _ h r => ⟨by unfold Dee.del; by_cases e : a = p; rw [if_pos e]; rw [if_neg e]; exact h, r⟩
  tup := fun a _ _ n e => ⟨by unfold Dee.del; by_cases e : a = p; rw [if_pos e]; rw [if_neg e]; exact n, e⟩
/-- something young changes -/
theorem Mono.young {M M' : Mem} {H H' : Hp} {p : Addr} {o : HO} (m : Mono M H M' H') (hp : H p = none) : Mono M H M' (upd H' p o) where
  keep := fun a u n h r => by
    have ne : a ≠ p := by
      rintro rfl
      rcases r with e | ⟨ob, e⟩ <;> (rw [hp] at e; cases e)
    obtain ⟨h1, r1⟩ := m.keep a u n h r
    refine ⟨h1, ?_⟩
    rcases r1 with e | ⟨ob, e⟩
    · exact .inl (by rw [upd_ne ne]; exact e)
    · exact .inr ⟨ob, by rw [upd_ne ne]; exact e⟩
  tup := fun a u t n e => by
    have ne : a ≠ p := by
      rintro rfl
      rw [hp] at e; cases e
    obtain ⟨h1, e1⟩ := m.tup a u t n e
    exact ⟨h1, by rw [upd_ne ne]; exact e1⟩

/-- the module's names: classes -/
structure Gm where
  mg : Str → Option Value
  /-- what stands hidden: new lists of comprehensions -/
  hid : Addr → Prop
  /-- the tables of code objects, each with the name of what it tells -/
  T : List (Addr × Str) := []
/-- a lambda that is handed to a def -/
structure CloI where
  a : Addr
  c : Addr
  q : Str
  l : Nat
  ρ : Env
  σ : L2.St
  tl : XK → Hp → VK → Prop
structure LC where
  mg : Gm
  /-- the suite's exception: its slot, where it stands, its class, its dict -/
  xi : Option (Nat × Addr × Value × Option Addr × Exn)
  /-- the lambda that the def got in its first slot -/
  lam : Option CloI := none
/-- the slot may be stored -/
def LC.Fr (c : LC) (i : Nat) : Prop := (∀ j a cls d ε, c.xi = some (j, a, cls, d, ε) → i ≠ j) ∧ (c.lam.isSome = true → i ≠ 0)

def Un (mg : Gm) (M : Mem) (a : Addr) : Prop := M a = none ∧ ¬ mg.hid a
/-- a tuple stands there -/
def TupAt (H : Hp) (a : Addr) (vs : List V) (ds : List D) : Prop := H a = some (.tup vs) ∨ (ds.all flatK = false ∧ ∃ o, H a = some (.frz o (.tup vs)))
theorem TupAt.rd {H : Hp} {a : Addr} {vs : List V} {ds : List D} (h : TupAt H a vs ds) : Rd H a (.tup vs) := by
  rcases h with h | ⟨_, o, h⟩
  · exact .inl h
  · exact .inr ⟨o, h⟩
def keyD : Key → D | .inl i => .int i | .inr s => .str s
mutual
def Rep (mg : Gm) (M : Mem) (H : Hp) : D → V → Prop
  | .non, v => v = .non
  | .bl b, v => v = .bl b
  | .int i, v => v = .int i
  | .str s, v => v = .str s
  | .tup ds, v => ∃ a vs, v = .ref a ∧ Un mg M a ∧ TupAt H a vs ds ∧ RepL mg M H ds vs
  | .lst ds, v => ∃ a vs, v = .ref a ∧ Un mg M a ∧ Rd H a (.lst vs) ∧ RepL mg M H ds vs
  | .dct t kvs, v => ∃ a, v = .ref a ∧ Un mg M a ∧ match t with
    | false => ∃ ws, Rd H a (.dK ws) ∧ RepK mg M H kvs ws
    | true => ∃ ws, Rd H a (.dT ws) ∧ RepT mg M H kvs ws
  | .obj C fs, v => ∃ a c dx ws, v = .ref a ∧ Un mg M a ∧ Rd H a (.ins c dx ws) ∧ mg.mg C = some (.ref c) ∧ RepF mg M H fs ws
  | .ref a, v => v = .ref a
  | .clo _ _, v => ∃ a, v = .ref a
def RepL (mg : Gm) (M : Mem) (H : Hp) : List D → List V → Prop
  | [], vs => vs = []
  | d :: ds, vs => ∃ v r, vs = v :: r ∧ Rep mg M H d v ∧ RepL mg M H ds r
def RepK (mg : Gm) (M : Mem) (H : Hp) : List (D × D) → List (Key × V) → Prop
  | [], ws => ws = []
  | (k, d) :: ds, ws => ∃ j v r, ws = (j, v) :: r ∧ k = keyD j ∧ Rep mg M H d v ∧ RepK mg M H ds r
def RepT (mg : Gm) (M : Mem) (H : Hp) : List (D × D) → List (List Key × V) → Prop
  | [], ws => ws = []
  | (k, d) :: ds, ws => ∃ j v r, ws = (j, v) :: r ∧ k = .tup (j.map keyD) ∧ Rep mg M H d v ∧ RepT mg M H ds r
def RepF (mg : Gm) (M : Mem) (H : Hp) : List (String × D) → List (Str × V) → Prop
  | [], ws => ws = []
  | (f, d) :: ds, ws => ∃ v r, ws = (Str.ofString f, v) :: r ∧ Rep mg M H d v ∧ RepF mg M H ds r
end

/-- what is not hidden stands -/
structure Keeps (mg mg' : Gm) (M : Mem) (H : Hp) (M' : Mem) (H' : Hp) : Prop where
  cl : mg'.mg = mg.mg
  keep : ∀ a u, NF u → Un mg M a → Rd H a u → Un mg' M' a ∧ Rd H' a u
  tup : ∀ a vs, Un mg M a → H a = some (.tup vs) → H' a = some (.tup vs)
  frz : ∀ a o u, NF u → Un mg M a → H a = some (.frz o u) → H' a = some (.frz o u)
theorem Keeps.refl {mg : Gm} {M : Mem} {H : Hp} : Keeps mg mg M H M H := ⟨rfl, fun _ _ _ n r => ⟨n, r⟩, fun _ _ _ e => e, fun _ _ _ _ _ e => e⟩
theorem Keeps.trans {g g1 g2 : Gm} {M M1 M2 : Mem} {H H1 H2 : Hp} (a : Keeps g g1 M H M1 H1) (b : Keeps g1 g2 M1 H1 M2 H2) : Keeps g g2 M H M2 H2 :=
  ⟨b.cl.trans a.cl, fun x u n h r => let ⟨h1, r1⟩ := a.keep x u n h r; b.keep x u n h1 r1, fun x vs h e => b.tup x vs (a.keep x (.tup vs) True.intro h (.inl e)).1 (a.tup x vs h e),
    fun x o u n h e => b.frz x o u n (a.keep x u n h (.inr ⟨o, e⟩)).1 (a.frz x o u n h e)⟩
theorem Mono.keeps {mg : Gm} {M M' : Mem} {H H' : Hp} (m : Mono M H M' H') : Keeps mg mg M H M' H' :=
  ⟨rfl, fun a u n h r => let ⟨x, y⟩ := m.keep a u n h.1 r; ⟨⟨x, h.2⟩, y⟩, fun a vs n e => (m.tup a (.tup vs) True.intro n.1 e).2, fun a o u _ n e => (m.tup a (.frz o u) True.intro n.1 e).2⟩
section
variable {mg mg' : Gm} {M M' : Mem} {H H' : Hp}
mutual
theorem Rep.keeps (m : Keeps mg mg' M H M' H') : ∀ {d : D} {v : V}, Rep mg M H d v → Rep mg' M' H' d v
  | .non, _, h => h
  | .bl _, _, h => h
  | .int _, _, h => h
  | .str _, _, h => h
  | .tup ds, _, ⟨a, vs, e, n, h, r⟩ => by
    obtain ⟨n', _⟩ := m.keep a (.tup vs) True.intro n h.rd
    refine ⟨a, vs, e, n', ?_, RepL.keeps m r⟩
    rcases h with h | ⟨h1, o, h⟩
    · exact .inl (m.tup a vs n h)
    · exact .inr ⟨h1, o, m.frz a o (.tup vs) True.intro n h⟩
  | .lst ds, _, ⟨a, vs, e, n, h, r⟩ => by
    obtain ⟨n', h'⟩ := m.keep a (.lst vs) True.intro n h
    exact ⟨a, vs, e, n', h', RepL.keeps m r⟩
  | .dct false kvs, _, ⟨a, e, n, ws, h, r⟩ => by
    obtain ⟨n', h'⟩ := m.keep a (.dK ws) True.intro n h
    exact ⟨a, e, n', ws, h', RepK.keeps m r⟩
  | .dct true kvs, _, ⟨a, e, n, ws, h, r⟩ => by
    obtain ⟨n', h'⟩ := m.keep a (.dT ws) True.intro n h
    exact ⟨a, e, n', ws, h', RepT.keeps m r⟩
  | .obj C fs, _, ⟨a, c, dx, ws, e, n, h, g, r⟩ => by
    obtain ⟨n', h'⟩ := m.keep a (.ins c dx ws) True.intro n h
    exact ⟨a, c, dx, ws, e, n', h', by rw [m.cl]; exact g, RepF.keeps m r⟩
  | .ref _, _, h => h
  | .clo _ _, _, h => h
theorem RepL.keeps (m : Keeps mg mg' M H M' H') : ∀ {ds : List D} {vs : List V}, RepL mg M H ds vs → RepL mg' M' H' ds vs
  | [], _, h => h
  | _ :: _, _, ⟨v, r, e, h, hr⟩ => ⟨v, r, e, Rep.keeps m h, RepL.keeps m hr⟩
theorem RepK.keeps (m : Keeps mg mg' M H M' H') : ∀ {ds : List (D × D)} {vs : List (Key × V)}, RepK mg M H ds vs → RepK mg' M' H' ds vs
  | [], _, h => h
  | (_, _) :: _, _, ⟨j, v, r, e, k, h, hr⟩ => ⟨j, v, r, e, k, Rep.keeps m h, RepK.keeps m hr⟩
theorem RepT.keeps (m : Keeps mg mg' M H M' H') : ∀ {ds : List (D × D)} {vs : List (List Key × V)}, RepT mg M H ds vs → RepT mg' M' H' ds vs
  | [], _, h => h
  | (_, _) :: _, _, ⟨j, v, r, e, k, h, hr⟩ => ⟨j, v, r, e, k, Rep.keeps m h, RepT.keeps m hr⟩
theorem RepF.keeps (m : Keeps mg mg' M H M' H') : ∀ {ds : List (String × D)} {vs : List (Str × V)}, RepF mg M H ds vs → RepF mg' M' H' ds vs
  | [], _, h => h
  | (_, _) :: _, _, ⟨v, r, e, h, hr⟩ => ⟨v, r, e, Rep.keeps m h, RepF.keeps m hr⟩
end
theorem Rep.mono (m : Mono M H M' H') {d : D} {v : V} (h : Rep mg M H d v) : Rep mg M' H' d v := h.keeps m.keeps
theorem RepL.mono (m : Mono M H M' H') {d : List D} {v : List V} (h : RepL mg M H d v) : RepL mg M' H' d v := h.keeps m.keeps
theorem RepK.mono (m : Mono M H M' H') {d : List (D × D)} {v : List (Key × V)} (h : RepK mg M H d v) : RepK mg M' H' d v := h.keeps m.keeps
theorem RepT.mono (m : Mono M H M' H') {d : List (D × D)} {v : List (List Key × V)} (h : RepT mg M H d v) : RepT mg M' H' d v := h.keeps m.keeps
theorem RepF.mono (m : Mono M H M' H') {d : List (String × D)} {v : List (Str × V)} (h : RepF mg M H d v) : RepF mg M' H' d v := h.keeps m.keeps

theorem RepL.length : ∀ {ds : List D} {vs : List V}, RepL mg M H ds vs → ds.length = vs.length
  | [], _, h => by cases h; rfl
  | _ :: _, _, ⟨v, r, e, h, hr⟩ => by cases e; simp [RepL.length hr]
theorem RepL.append : ∀ {ds es : List D} {vs us : List V}, RepL mg M H ds vs → RepL mg M H es us → RepL mg M H (ds ++ es) (vs ++ us)
  | [], _, _, _, h, h2 => by cases h; exact h2
  | _ :: _, _, _, _, ⟨v, r, e, h, hr⟩, h2 => by cases e; exact ⟨v, _, rfl, h, RepL.append hr h2⟩
theorem RepL.get : ∀ {ds : List D} {vs : List V} {i : Nat} {d : D}, RepL mg M H ds vs → ds[i]? = some d → ∃ v, vs[i]? = some v ∧ Rep mg M H d v
  | [], _, _, _, _, e => by simp at e
  | _ :: _, _, 0, _, ⟨v, r, e, h, hr⟩, q => by cases e; simp at q; subst q; exact ⟨v, rfl, h⟩
  | _ :: _, _, i + 1, _, ⟨v, r, e, h, hr⟩, q => by cases e; simpa using RepL.get hr (by simpa using q)
theorem RepL.get' : ∀ {ds : List D} {vs : List V} {i : Nat} {v : V}, RepL mg M H ds vs → vs[i]? = some v → ∃ d, ds[i]? = some d ∧ Rep mg M H d v
  | [], _, _, _, h, e => by cases h; simp at e
  | d :: _, _, 0, _, ⟨v, r, e, h, hr⟩, q => by cases e; simp at q; subst q; exact ⟨d, rfl, h⟩
  | _ :: _, _, i + 1, _, ⟨v, r, e, h, hr⟩, q => by cases e; simpa using RepL.get' hr (by simpa using q)
theorem RepL.take : ∀ {ds : List D} {vs : List V} (n : Nat), RepL mg M H ds vs → RepL mg M H (ds.take n) (vs.take n)
  | _, _, 0, _ => by simp [RepL]
  | [], _, _ + 1, h => by cases h; simp [RepL]
  | _ :: _, _, n + 1, ⟨v, r, e, h, hr⟩ => by cases e; exact ⟨v, _, rfl, h, RepL.take n hr⟩
theorem RepL.drop : ∀ {ds : List D} {vs : List V} (n : Nat), RepL mg M H ds vs → RepL mg M H (ds.drop n) (vs.drop n)
  | _, _, 0, h => h
  | [], _, _ + 1, h => by cases h; simp [RepL]
  | _ :: _, _, n + 1, ⟨v, r, e, h, hr⟩ => by cases e; exact RepL.drop n hr
theorem RepL.set {d : D} {v : V} (r : Rep mg M H d v) : ∀ {ds : List D} {vs : List V} (i : Nat), RepL mg M H ds vs → RepL mg M H (ds.set i d) (vs.set i v)
  | [], _, _, h => by cases h; simp [RepL]
  | _ :: _, _, 0, ⟨v, r', e, h, hr⟩ => by cases e; exact ⟨_, _, rfl, r, hr⟩
  | _ :: _, _, i + 1, ⟨v, r', e, h, hr⟩ => by cases e; exact ⟨_, _, rfl, h, RepL.set r i hr⟩
theorem RepL.reverse : ∀ {ds : List D} {vs : List V}, RepL mg M H ds vs → RepL mg M H ds.reverse vs.reverse
  | [], _, h => by cases h; simp [RepL]
  | d :: ds, _, ⟨v, r, e, h, hr⟩ => by
    cases e
    rw [List.reverse_cons, List.reverse_cons]
    exact RepL.append (RepL.reverse hr) ⟨v, [], rfl, h, rfl⟩
theorem RepL.flat {ds : List D} {vs : List V} (h : RepL mg M H ds vs) : ∀ n : Nat, RepL mg M H (List.replicate n ds).flatten (List.replicate n vs).flatten
  | 0 => by simp [RepL]
  | n + 1 => by
    rw [List.replicate_succ, List.replicate_succ, List.flatten_cons, List.flatten_cons]
    exact RepL.append h (RepL.flat h n)

/-- what may change stands as it is told -/
def ORep (mg : Gm) (M : Mem) (H : Hp) (a : Addr) : MO → Prop
  | .lst xs => ∃ vs, H a = some (.lst vs) ∧ RepL mg M H xs vs
  | .dct false kvs => ∃ ws, H a = some (.dK ws) ∧ RepK mg M H kvs ws
  | .dct true kvs => ∃ ws, H a = some (.dT ws) ∧ RepT mg M H kvs ws
  | .ins C fs => ∃ c dx ws, H a = some (.ins c dx ws) ∧ mg.mg C = some (.ref c) ∧ RepF mg M H fs ws
  | .tup xs => ∃ o vs, H a = some (.frz o (.tup vs)) ∧ o.dict = none ∧ RepL mg M H xs vs
structure MRep (mg : Gm) (M : Mem) (H : Hp) : Prop where
  std : ∀ a o, M a = some o → ORep mg M H a o
  hid : ∀ a, mg.hid a → M a = none ∧ ∃ u, H a = some u ∧ HidOk u
  tab : LamX.Tabs mg.T H
theorem ORep.at {a : Addr} {o : MO} (h : ORep mg M H a o) : ∃ u, H a = some u := by
  match o, h with
  | .lst _, ⟨_, e, _⟩ => exact ⟨_, e⟩
  | .dct false _, ⟨_, e, _⟩ => exact ⟨_, e⟩
  | .dct true _, ⟨_, e, _⟩ => exact ⟨_, e⟩
  | .ins _ _, ⟨_, _, _, e, _⟩ => exact ⟨_, e⟩
  | .tup _, ⟨_, _, e, _⟩ => exact ⟨_, e⟩
theorem MRep.nil {p : Addr} (m : MRep mg M H) (hp : H p = none) : M p = none := by
  cases e : M p with
  | none => rfl
  | some o =>
    obtain ⟨u, q⟩ := (m.std p o e).at
    rw [hp] at q; cases q
theorem MRep.gone {p : Addr} (m : MRep mg M H) (hp : H p = none) : Un mg M p := ⟨m.nil hp, fun h => by
  obtain ⟨_, u, e, _⟩ := m.hid p h
  rw [hp] at e; cases e⟩
theorem ORep.at2 {a : Addr} {o : MO} (h : ORep mg M H a o) : ∃ u, H a = some u ∧ HidOk u := by
  match o, h with
  | .lst _, ⟨_, e, _⟩ => exact ⟨_, e, True.intro⟩
  | .dct false _, ⟨_, e, _⟩ => exact ⟨_, e, True.intro⟩
  | .dct true _, ⟨_, e, _⟩ => exact ⟨_, e, True.intro⟩
  | .ins _ _, ⟨_, _, _, e, _⟩ => exact ⟨_, e, True.intro⟩
  | .tup _, ⟨_, _, e, _⟩ => exact ⟨_, e, True.intro⟩
/-- the tables stay where they and the code objects stay -/
theorem tabs_of {T : List (Addr × Str)} {H H' : Hp} (t : LamX.Tabs T H) (e : ∀ b o, H b = some o → ¬ HidOk o → H' b = some o) : LamX.Tabs T H' := fun p hp => by
  obtain ⟨ps, h1, h2, h3⟩ := t p hp
  refine ⟨ps, e _ _ h1 (fun z => z), h2, fun pos cv hc => ?_⟩
  obtain ⟨c, e1, e2⟩ := h3 pos cv hc
  exact ⟨c, e1, e _ _ e2 (fun z => z)⟩
theorem ORep.keeps {a : Addr} {o : MO} (m : Keeps mg mg' M H M' H') (e : H' a = H a) (h : ORep mg M H a o) : ORep mg' M' H' a o := by
  match o, h with
  | .lst _, ⟨vs, q, r⟩ => exact ⟨vs, e.trans q, r.keeps m⟩
  | .dct false _, ⟨vs, q, r⟩ => exact ⟨vs, e.trans q, r.keeps m⟩
  | .dct true _, ⟨vs, q, r⟩ => exact ⟨vs, e.trans q, r.keeps m⟩
  | .ins _ _, ⟨c, dx, ws, q, g, r⟩ => exact ⟨c, dx, ws, e.trans q, by rw [m.cl]; exact g, r.keeps m⟩
  | .tup _, ⟨o, vs, q, hd, r⟩ => exact ⟨o, vs, e.trans q, hd, r.keeps m⟩
theorem ORep.mono {a : Addr} {o : MO} (m : Mono M H M' H') (e : H' a = H a) (h : ORep mg M H a o) : ORep mg M' H' a o := h.keeps m.keeps e
theorem MRep.new {p : Addr} {o : HO} (m : MRep mg M H) (hp : H p = none) : MRep mg M (upd H p o) := ⟨fun a x e => by
  obtain ⟨u, q⟩ := (m.std a x e).at
  exact (m.std a x e).mono (Mono.new hp) (upd_ne (ne_of_none q hp)), fun a h => by
  obtain ⟨n, u, q, ok⟩ := m.hid a h
  exact ⟨n, u, by rw [upd_ne (ne_of_none q hp)]; exact q, ok⟩, tabs_of m.tab fun b o e _ => by rw [upd_ne (ne_of_none e hp)]; exact e⟩
theorem MRep.put {p : Addr} {o : HO} {x : MO} (m : MRep mg M H) (hp : H p = none ∨ ∃ y, M p = some y) (h : ORep mg (up M p x) (upd H p o) p x) : MRep mg (up M p x) (upd H p o) := ⟨fun a y e => by
  by_cases ha : a = p
  · subst ha
    unfold up at e
    rw [if_pos rfl] at e
    cases e
    exact h
  · unfold up at e
    rw [if_neg ha] at e
    exact (m.std a y e).mono (Mono.put hp) (upd_ne ha), fun a h => by
  obtain ⟨n, u, q, ok⟩ := m.hid a h
  have ne : a ≠ p := by
    rintro rfl
    rcases hp with hp | ⟨y, hp⟩
    · rw [hp] at q; cases q
    · rw [n] at hp; cases hp
  exact ⟨by unfold up; rw [if_neg ne]; exact n, u, by rw [upd_ne ne]; exact q, ok⟩, tabs_of m.tab fun b o e no => by
  have ne : b ≠ p := by
    rintro rfl
    rcases hp with hp | ⟨y, hp⟩
    · rw [hp] at e; cases e
    · obtain ⟨u, q, ok⟩ := (m.std b y hp).at2
      rw [q] at e; cases e
      exact no ok
  rw [upd_ne ne]; exact e⟩
theorem MRep.ice {p : Addr} (m : MRep mg M H) : MRep mg (del M p) H := ⟨fun a y e => by
  by_cases ha : a = p
  · subst ha
    unfold del at e
    rw [if_pos rfl] at e
    cases e
  · unfold del at e
    rw [if_neg ha] at e
    exact (m.std a y e).mono Mono.ice rfl, fun a h => by
  obtain ⟨n, q⟩ := m.hid a h
  refine ⟨?_, q⟩
  unfold del
  by_cases ha : a = p
  · rw [if_pos ha]
  · rw [if_neg ha]; exact n, m.tab⟩
theorem up_same {a : Addr} {o : MO} : up M a o a = some o := by unfold up; rw [if_pos rfl]
theorem up_ne {a b : Addr} {o : MO} (h : b ≠ a) : up M a o b = M b := by unfold up; rw [if_neg h]
theorem del_same {a : Addr} : Dee.del M a a = none := by unfold Dee.del; rw [if_pos rfl]
theorem del_ne {a b : Addr} (h : b ≠ a) : Dee.del M a b = M b := by unfold Dee.del; rw [if_neg h]

/-- the items of a list or tuple -/
theorem seq_of (m : MRep mg M H) {d : D} {v : V} {xs : List D} (r : Rep mg M H d v) (e : seqM M d = some xs) :
    ∃ a vs, v = .ref a ∧ RepL mg M H xs vs ∧ ((isTup d = true ∧ Rd H a (.tup vs)) ∨ (isTup d = false ∧ Rd H a (.lst vs))) := by
  cases d with
  | tup ys =>
    cases e
    obtain ⟨a, vs, e, n, h, r⟩ := r
    exact ⟨a, vs, e, r, .inl ⟨rfl, h.rd⟩⟩
  | lst ys =>
    cases e
    obtain ⟨a, vs, e, n, h, r⟩ := r
    exact ⟨a, vs, e, r, .inr ⟨rfl, h⟩⟩
  | ref a =>
    unfold seqM at e
    dsimp only at e
    split at e
    · rename_i ys q
      cases e
      obtain ⟨vs, h, r'⟩ := m.std a _ q
      exact ⟨a, vs, r, r', .inr ⟨rfl, .inl h⟩⟩
    · cases e
  | _ => cases e
theorem dct_of (m : MRep mg M H) {d : D} {v : V} {t : Bool} {kvs : List (D × D)} (r : Rep mg M H d v) (e : dctM M d = some (t, kvs)) :
    ∃ a, v = .ref a ∧ ((t = false ∧ ∃ ws, Rd H a (.dK ws) ∧ RepK mg M H kvs ws) ∨ (t = true ∧ ∃ ws, Rd H a (.dT ws) ∧ RepT mg M H kvs ws)) := by
  cases d with
  | dct t' ys =>
    cases e
    cases t with
    | false =>
      obtain ⟨a, e, n, ws, h, r⟩ := r
      exact ⟨a, e, .inl ⟨rfl, ws, h, r⟩⟩
    | true =>
      obtain ⟨a, e, n, ws, h, r⟩ := r
      exact ⟨a, e, .inr ⟨rfl, ws, h, r⟩⟩
  | ref a =>
    unfold dctM at e
    dsimp only at e
    split at e
    · rename_i t' ys q
      cases e
      cases t with
      | false =>
        obtain ⟨vs, h, r'⟩ := m.std a _ q
        exact ⟨a, r, .inl ⟨rfl, vs, .inl h, r'⟩⟩
      | true =>
        obtain ⟨vs, h, r'⟩ := m.std a _ q
        exact ⟨a, r, .inr ⟨rfl, vs, .inl h, r'⟩⟩
    · cases e
  | _ => cases e
theorem ins_of (m : MRep mg M H) {d : D} {v : V} {C : String} {fs : List (String × D)} (r : Rep mg M H d v) (e : insM M d = some (C, fs)) :
    ∃ a c dx ws, v = .ref a ∧ Rd H a (.ins c dx ws) ∧ mg.mg C = some (.ref c) ∧ RepF mg M H fs ws := by
  cases d with
  | obj C' ys =>
    cases e
    obtain ⟨a, c, dx, ws, e, n, h, g, r⟩ := r
    exact ⟨a, c, dx, ws, e, h, g, r⟩
  | ref a =>
    unfold insM at e
    dsimp only at e
    split at e
    · rename_i t' ys q
      cases e
      obtain ⟨c, dx, ws, h, g, r'⟩ := m.std a _ q
      exact ⟨a, c, dx, ws, r, .inl h, g, r'⟩
    · cases e
  | _ => cases e
end

/-- an exception stands as told -/
def RepX (c : LC) (M : Mem) (H : Hp) (ε : Exn) (cls : Value) (d : Option Addr) : Prop :=
  c.mg.mg (Str.ofString ε.C) = some cls ∧ (ε.fs = [] ∨ ∃ dd ws, d = some dd ∧ Un c.mg M dd ∧ H dd = some (.xd ws) ∧ ∀ f x, lookF ε.fs f = some x → ∃ v, ws.lookup (Str.ofString f) = some v ∧ Rep c.mg M H x v)
/-- the lambda's names stand as told -/
structure CloAt (mg : Gm) (M : Mem) (H : Hp) (z : CloI) : Prop where
  no : M z.c = none
  code : H z.c = some (LamX.CodeO z.c z.q)
  len : z.ρ.length = z.σ.length
  env : ∀ i d, lk z.ρ i = some d → ∃ v, z.σ[i]? = some (some v) ∧ Rep mg M H d v
theorem CloAt.mono {mg : Gm} {M M' : Mem} {H H' : Hp} {z : CloI} (h : CloAt mg M H z) (m : Mono M H M' H') : CloAt mg M' H' z :=
  ⟨(m.tup z.c (LamX.CodeO z.c z.q) True.intro h.no h.code).1, (m.tup z.c (LamX.CodeO z.c z.q) True.intro h.no h.code).2, h.len, fun i d e => let ⟨v, q, r⟩ := h.env i d e; ⟨v, q, r.mono m⟩⟩
/-- the names, the memory and the suite's exception stand as told -/
structure Rp (c : LC) (ρ : Env) (M : Mem) (σ : L2.St) (H : Hp) : Prop where
  len : ρ.length = σ.length
  env : ∀ i d, lk ρ i = some d → ∃ v, σ[i]? = some (some v) ∧ Rep c.mg M H d v
  mem : MRep c.mg M H
  xi : ∀ i a cls d ε, c.xi = some (i, a, cls, d, ε) → σ[i]? = some (some (.ref a)) ∧ RepX c M H ε cls d
  lam : ∀ z, c.lam = some z → lk ρ 0 = some (.clo z.l z.ρ) ∧ σ[0]? = some (some (.ref z.a)) ∧ CloAt c.mg M H z
theorem RepX.mono {c : LC} {M M' : Mem} {H H' : Hp} {ε : Exn} {cls : Value} {d : Option Addr} (h : RepX c M H ε cls d) (m : Mono M H M' H') : RepX c M' H' ε cls d := by
  obtain ⟨e, h⟩ := h
  refine ⟨e, ?_⟩
  rcases h with h | ⟨dd, ws, e1, n, r, h⟩
  · exact .inl h
  · obtain ⟨n', r'⟩ := m.tup dd (.xd ws) True.intro n.1 r
    exact .inr ⟨dd, ws, e1, ⟨n', n.2⟩, r', fun f x q => let ⟨v, l, z⟩ := h f x q; ⟨v, l, z.mono m⟩⟩
theorem Rp.mono {c : LC} {ρ : Env} {M M' : Mem} {σ : L2.St} {H H' : Hp} (R : Rp c ρ M σ H) (m : Mono M H M' H') (mr : MRep c.mg M' H') : Rp c ρ M' σ H' :=
  ⟨R.len, fun i d e => let ⟨v, h, r⟩ := R.env i d e; ⟨v, h, r.mono m⟩, mr, fun i a cls d ε e => let ⟨h, x⟩ := R.xi i a cls d ε e; ⟨h, x.mono m⟩, fun z e => let ⟨h1, h2, h3⟩ := R.lam z e; ⟨h1, h2, h3.mono m⟩⟩
theorem lk_get : ∀ (ρ : Env) (i : Nat), lk ρ i = (ρ[i]?).join
  | [], i => by simp [lk]
  | x :: r, 0 => by simp [lk]
  | x :: r, i + 1 => by simp [lk, lk_get r i]
theorem lk_set {ρ : Env} {i j : Nat} {o : Option D} (h : i < ρ.length) : lk (ρ.set i o) j = if j = i then o else lk ρ j := by
  rw [lk_get, lk_get]
  by_cases e : j = i
  · subst e
    rw [if_pos rfl, List.getElem?_set_self h]
    rfl
  · rw [if_neg e, List.getElem?_set_ne (Ne.symm e)]
theorem Rp.lamSet {c : LC} {ρ : Env} {M : Mem} {σ : L2.St} {H : Hp} {i : Nat} {o : Option D} {v : Option V} (R : Rp c ρ M σ H) (hx : c.lam.isSome = true → i ≠ 0) : ∀ z, c.lam = some z → lk (ρ.set i o) 0 = some (.clo z.l z.ρ) ∧ (σ.set i v)[0]? = some (some (.ref z.a)) ∧ CloAt c.mg M H z := fun z e => by
  obtain ⟨h1, h2, h3⟩ := R.lam z e
  have ne := hx (by rw [e] <;> rfl)
  refine ⟨?_, by rw [List.getElem?_set_ne ne]; exact h2, h3⟩
  by_cases hi : i < ρ.length
  · rw [lk_set hi, if_neg (Ne.symm ne)]; exact h1
  · rw [List.set_eq_of_length_le (by omega)]; exact h1
/-- a name takes a value -/
theorem Rp.set {c : LC} {ρ : Env} {M : Mem} {σ : L2.St} {H : Hp} {i : Nat} {d : D} {v : V} (R : Rp c ρ M σ H) (r : Rep c.mg M H d v) (hx : c.Fr i) : Rp c (ρ.set i (some d)) M (σ.set i (some v)) H := by
  refine ⟨by simpa using R.len, fun j e h => ?_, R.mem, fun j a cls d ε e => by rw [List.getElem?_set_ne (hx.1 j a cls d ε e)]; exact R.xi j a cls d ε e, R.lamSet hx.2⟩
  by_cases hi : i < ρ.length
  · rw [lk_set hi] at h
    by_cases e' : j = i
    · subst e'
      rw [if_pos rfl] at h
      cases h
      exact ⟨v, List.getElem?_set_self (by rw [← R.len]; exact hi), r⟩
    · rw [if_neg e'] at h
      obtain ⟨w, q, z⟩ := R.env j e h
      exact ⟨w, by rw [List.getElem?_set_ne (Ne.symm e')]; exact q, z⟩
  · rw [List.set_eq_of_length_le (by omega)] at h
    obtain ⟨w, q, z⟩ := R.env j e h
    refine ⟨w, ?_, z⟩
    have hlt : j < σ.length := (List.getElem?_eq_some_iff.mp q).1
    have hl := R.len
    rw [List.getElem?_set_ne (by omega)]
    exact q
/-- a name is forgotten -/
theorem Rp.wipe1 {c : LC} {ρ : Env} {M : Mem} {σ : L2.St} {H : Hp} {i : Nat} {o : Option V} (R : Rp c ρ M σ H) (hx : c.Fr i) : Rp c (ρ.set i none) M (σ.set i o) H := by
  refine ⟨by simpa using R.len, fun j e h => ?_, R.mem, fun j a cls d ε e => by rw [List.getElem?_set_ne (hx.1 j a cls d ε e)]; exact R.xi j a cls d ε e, R.lamSet hx.2⟩
  by_cases hi : i < ρ.length
  · rw [lk_set hi] at h
    by_cases e' : j = i
    · rw [if_pos e'] at h
      cases h
    · rw [if_neg e'] at h
      obtain ⟨w, q, z⟩ := R.env j e h
      exact ⟨w, by rw [List.getElem?_set_ne (Ne.symm e')]; exact q, z⟩
  · rw [List.set_eq_of_length_le (by omega)] at h
    obtain ⟨w, q, z⟩ := R.env j e h
    refine ⟨w, ?_, z⟩
    have hlt : j < σ.length := (List.getElem?_eq_some_iff.mp q).1
    have hl := R.len
    rw [List.getElem?_set_ne (by omega)]
    exact q

/-- what is wanted of a value, of an exception -/
def Goes (c : LC) (M : Mem) (H : Hp) (Q' : K) (Q : VK) : Prop := ∀ d M' v H', Q' d M' → Mono M H M' H' → MRep c.mg M' H' → Rep c.mg M' H' d v → Q v H'
def Throws (c : LC) (W : XK) (M : Mem) (H : Hp) (E' : KX) : Prop := ∀ ε M' cls d H', E' ε M' → Mono M H M' H' → MRep c.mg M' H' → RepX c M' H' ε cls d → W cls d H'
theorem Goes.mono {c : LC} {M M1 : Mem} {H H1 : Hp} {Q' : K} {Q : VK} (g : Goes c M H Q' Q) (m : Mono M H M1 H1) : Goes c M1 H1 Q' Q := fun d M' v H' q m1 => g d M' v H' q (m.trans m1)
theorem Throws.mono {c : LC} {W : XK} {M M1 : Mem} {H H1 : Hp} {E' : KX} (g : Throws c W M H E') (m : Mono M H M1 H1) : Throws c W M1 H1 E' := fun d M' v cls H' q m1 => g d M' v cls H' q (m.trans m1)
theorem Goes.now {c : LC} {M : Mem} {H : Hp} {Q' : K} {Q : VK} (g : Goes c M H Q' Q) (mr : MRep c.mg M H) {d : D} {v : V} (q : Q' d M) (r : Rep c.mg M H d v) : Q v H := g d M v H q (Mono.refl _ _) mr r
theorem Goes.tup {c : LC} {M : Mem} {H : Hp} {Q' : K} {Q : VK} (g : Goes c M H Q' Q) (mr : MRep c.mg M H) {ds : List D} {vs : List V} {p : Addr} (q : Q' (.tup ds) M) (r : RepL c.mg M H ds vs) (hp : H p = none) : Q (.ref p) (upd H p (.tup vs)) :=
  g _ _ _ _ q (Mono.new hp) (mr.new hp) ⟨p, vs, rfl, mr.gone hp, .inl upd_same, r.mono (Mono.new hp)⟩
/-- a plain tuple -/
theorem Goes.pln {c : LC} {M : Mem} {H : Hp} {Q' : K} {Q : VK} (g : Goes c M H Q' Q) (mr : MRep c.mg M H) {ds : List D} {vs : List V} {p : Addr} {o : Obj} (q : newT true ds M Q') (r : RepL c.mg M H ds vs) (hp : H p = none) (hd : o.dict = none) : Q (.ref p) (upd H p (.frz o (.tup vs))) :=
  g _ _ _ _ (q p (mr.nil hp)) (Mono.put (.inl hp)) (mr.put (.inl hp) ⟨o, vs, upd_same, hd, r.mono (Mono.put (.inl hp))⟩) rfl
theorem Goes.lst {c : LC} {M : Mem} {H : Hp} {Q' : K} {Q : VK} (g : Goes c M H Q' Q) (mr : MRep c.mg M H) {ds : List D} {vs : List V} {p : Addr} (q : Q' (.lst ds) M) (r : RepL c.mg M H ds vs) (hp : H p = none) : Q (.ref p) (upd H p (.lst vs)) :=
  g _ _ _ _ q (Mono.new hp) (mr.new hp) ⟨p, vs, rfl, mr.gone hp, .inl upd_same, r.mono (Mono.new hp)⟩
theorem Goes.newL {c : LC} {M : Mem} {H : Hp} {Q' : K} {Q : VK} (g : Goes c M H Q' Q) (mr : MRep c.mg M H) {m : Bool} {ds : List D} {vs : List V} {p : Addr} (q : newL m ds M Q') (r : RepL c.mg M H ds vs) (hp : H p = none) : Q (.ref p) (upd H p (.lst vs)) := by
  cases m with
  | false => exact g.lst mr q r hp
  | true =>
    have q := q p (mr.gone hp).1
    exact g _ _ _ _ q (Mono.put (.inl hp)) (mr.put (.inl hp) ⟨vs, upd_same, r.mono (Mono.put (.inl hp))⟩) rfl
theorem Goes.newK {c : LC} {M : Mem} {H : Hp} {Q' : K} {Q : VK} (g : Goes c M H Q' Q) (mr : MRep c.mg M H) {m : Bool} {ds : List (D × D)} {vs : List (Key × V)} {p : Addr} (q : newD m false ds M Q') (r : RepK c.mg M H ds vs) (hp : H p = none) : Q (.ref p) (upd H p (.dK vs)) := by
  cases m with
  | false => exact g _ _ _ _ q (Mono.new hp) (mr.new hp) ⟨p, rfl, mr.gone hp, vs, .inl upd_same, r.mono (Mono.new hp)⟩
  | true =>
    have q := q p (mr.gone hp).1
    exact g _ _ _ _ q (Mono.put (.inl hp)) (mr.put (.inl hp) ⟨vs, upd_same, r.mono (Mono.put (.inl hp))⟩) rfl
theorem Goes.newT {c : LC} {M : Mem} {H : Hp} {Q' : K} {Q : VK} (g : Goes c M H Q' Q) (mr : MRep c.mg M H) {m : Bool} {ds : List (D × D)} {vs : List (List Key × V)} {p : Addr} (q : newD m true ds M Q') (r : RepT c.mg M H ds vs) (hp : H p = none) : Q (.ref p) (upd H p (.dT vs)) := by
  cases m with
  | false => exact g _ _ _ _ q (Mono.new hp) (mr.new hp) ⟨p, rfl, mr.gone hp, vs, .inl upd_same, r.mono (Mono.new hp)⟩
  | true =>
    have q := q p (mr.gone hp).1
    exact g _ _ _ _ q (Mono.put (.inl hp)) (mr.put (.inl hp) ⟨vs, upd_same, r.mono (Mono.put (.inl hp))⟩) rfl

/-! ### hidden -/
def Gm.hide (g : Gm) (P : Addr) : Gm := ⟨g.mg, fun a => g.hid a ∨ a = P, g.T⟩
section
variable {g : Gm} {M M' : Mem} {H H' : Hp} {P : Addr}
theorem rdAt {H : Hp} {a : Addr} {u : HO} (r : Rd H a u) (hp : H a = none) : False := by
  rcases r with e | ⟨ob, e⟩ <;> (rw [hp] at e; cases e)
theorem rdUpd {H : Hp} {a p : Addr} {u o : HO} (r : Rd H a u) (ne : a ≠ p) : Rd (upd H p o) a u := by
  rcases r with e | ⟨ob, e⟩
  · exact .inl (by rw [upd_ne ne]; exact e)
  · exact .inr ⟨ob, by rw [upd_ne ne]; exact e⟩
theorem Keeps.hide {o : HO} (hp : H P = none) : Keeps g (g.hide P) M H M (upd H P o) := ⟨rfl, fun a u _ n r => by
    have ne : a ≠ P := by rintro rfl; exact rdAt r hp
    exact ⟨⟨n.1, fun z => z.elim n.2 ne⟩, rdUpd r ne⟩, fun a vs n e => by
    have ne : a ≠ P := by rintro rfl; rw [hp] at e; cases e
    rw [upd_ne ne]; exact e, fun a o u _ n e => by
    have ne : a ≠ P := by rintro rfl; rw [hp] at e; cases e
    rw [upd_ne ne]; exact e⟩
theorem Keeps.show : Keeps (g.hide P) g M H M H := ⟨rfl, fun _ _ _ n r => ⟨⟨n.1, fun z => n.2 (.inl z)⟩, r⟩, fun _ _ _ e => e, fun _ _ _ _ _ e => e⟩
theorem Keeps.showT {x : MO} : Keeps (g.hide P) g M H (up M P x) H := ⟨rfl, fun a _ _ n r => ⟨⟨by rw [up_ne (fun z => n.2 (.inr z))]; exact n.1, fun z => n.2 (.inl z)⟩, r⟩, fun _ _ _ e => e, fun _ _ _ _ _ e => e⟩
theorem Keeps.turn {o : HO} : Keeps (g.hide P) (g.hide P) M H M (upd H P o) := ⟨rfl, fun a u _ n r => ⟨n, rdUpd r fun z => n.2 (.inr z)⟩, fun a vs n e => by rw [upd_ne fun z => n.2 (.inr z)]; exact e, fun a o u _ n e => by rw [upd_ne fun z => n.2 (.inr z)]; exact e⟩
theorem MRep.hide {o : HO} (m : MRep g M H) (hp : H P = none) (ho : HidOk o := by exact True.intro) : MRep (g.hide P) M (upd H P o) := ⟨fun a y e => by
    obtain ⟨u, q⟩ := (m.std a y e).at
    exact (m.std a y e).keeps (Keeps.hide hp) (upd_ne (ne_of_none q hp)), fun a h => by
    rcases h with h | h
    · obtain ⟨n, u, q, ok⟩ := m.hid a h
      exact ⟨n, u, by rw [upd_ne (ne_of_none q hp)]; exact q, ok⟩
    · subst h
      exact ⟨m.nil hp, o, upd_same, ho⟩, tabs_of m.tab fun b o e _ => by rw [upd_ne (ne_of_none e hp)]; exact e⟩
theorem MRep.turn {o : HO} (m : MRep (g.hide P) M H) (ho : HidOk o := by exact True.intro) : MRep (g.hide P) M (upd H P o) := ⟨fun a y e => by
    have ne : a ≠ P := by
      rintro rfl
      rw [(m.hid a (.inr rfl)).1] at e; cases e
    exact (m.std a y e).keeps Keeps.turn (upd_ne ne), fun a h => by
    obtain ⟨n, u, q, ok⟩ := m.hid a h
    refine ⟨n, ?_⟩
    by_cases z : a = P
    · subst z; exact ⟨o, upd_same, ho⟩
    · exact ⟨u, by rw [upd_ne z]; exact q, ok⟩, tabs_of m.tab fun b o e no => by
    have ne : b ≠ P := by
      rintro rfl
      obtain ⟨_, u, q, ok⟩ := m.hid b (.inr rfl)
      rw [q] at e; cases e
      exact no ok
    rw [upd_ne ne]; exact e⟩
theorem MRep.show (m : MRep (g.hide P) M H) : MRep g M H := ⟨fun a y e => (m.std a y e).keeps Keeps.show rfl, fun a h => m.hid a (.inl h), m.tab⟩
theorem MRep.showT {xs : List D} {vs : List V} (m : MRep (g.hide P) M H) (e : H P = some (.lst vs)) (r : RepL (g.hide P) M H xs vs) (hn : ¬ g.hid P) : MRep g (up M P (.lst xs)) H := ⟨fun a y q => by
    by_cases z : a = P
    · subst z
      rw [up_same] at q
      cases q
      exact ⟨vs, e, r.keeps Keeps.showT⟩
    · rw [up_ne z] at q
      exact (m.std a y q).keeps Keeps.showT rfl, fun a h => by
    obtain ⟨n, u, q⟩ := m.hid a (.inl h)
    have ne : a ≠ P := by rintro rfl; exact hn h
    exact ⟨by rw [up_ne ne]; exact n, u, q⟩, m.tab⟩
/-- a dict that is not to change is locked -/
theorem Mono.lock {d : Addr} {ob : Obj} {ws : List (Key × V)} (h : H d = some (.dK ws)) : Mono M H M (upd H d (.frz ob (.dK ws))) where
  keep := fun a u n hm r => ⟨hm, by
    by_cases e : a = d
    · subst e
      rcases r with r | ⟨o, r⟩
      · rw [h] at r; cases r; exact .inr ⟨ob, upd_same⟩
      · rw [h] at r; cases r
    · exact rdUpd r e⟩
  tup := fun a u t hm e => ⟨hm, by
    have ne : a ≠ d := by
      rintro rfl
      rw [h] at e; cases e
      exact t.elim
    rw [upd_ne ne]; exact e⟩
theorem MRep.lock {d : Addr} {ob : Obj} {ws : List (Key × V)} (m : MRep g M H) (hd : Un g M d) (h : H d = some (.dK ws)) : MRep g M (upd H d (.frz ob (.dK ws))) := ⟨fun a y e => by
    have ne : a ≠ d := by rintro rfl; rw [hd.1] at e; cases e
    exact (m.std a y e).mono (Mono.lock h) (upd_ne ne), fun a z => by
    obtain ⟨n, u, q, ok⟩ := m.hid a z
    have ne : a ≠ d := by rintro rfl; exact hd.2 z
    exact ⟨n, u, by rw [upd_ne ne]; exact q, ok⟩, tabs_of m.tab fun b o e no => by
    have ne : b ≠ d := by
      rintro rfl
      rw [h] at e; cases e
      exact no True.intro
    rw [upd_ne ne]; exact e⟩
/-- tracked from now on -/
theorem Mono.youngT {x : MO} {p : Addr} (m : Mono M H M' H') (hp : H p = none) : Mono M H (up M' p x) H' where
  keep := fun a u n h r => by
    have ne : a ≠ p := by rintro rfl; exact rdAt r hp
    obtain ⟨h1, r1⟩ := m.keep a u n h r
    exact ⟨by rw [up_ne ne]; exact h1, r1⟩
  tup := fun a u t n e => by
    have ne : a ≠ p := by rintro rfl; rw [hp] at e; cases e
    obtain ⟨h1, e1⟩ := m.tup a u t n e
    exact ⟨by rw [up_ne ne]; exact h1, e1⟩
end
def LC.hide (c : LC) (P : Addr) : LC := ⟨c.mg.hide P, c.xi, none⟩
theorem Rp.keeps {c c' : LC} {ρ : Env} {M M' : Mem} {σ : L2.St} {H H' : Hp} (R : Rp c ρ M σ H) (m : Keeps c.mg c'.mg M H M' H') (mr : MRep c'.mg M' H') (hx : c'.xi = none) (hl : c'.lam = none) : Rp c' ρ M' σ H' :=
  ⟨R.len, fun i d e => let ⟨v, h, r⟩ := R.env i d e; ⟨v, h, r.keeps m⟩, mr, fun i a cls d ε e => (by rw [hx] at e; cases e), fun z e => (by rw [hl] at e; cases e)⟩
end Dee

set_option Elab.async false
set_option linter.all false
set_option autoImplicit false
set_option maxRecDepth 100000
/-! Dee: rules by values that the hand layer has not: == and in of data at any depth, lists joined. -/
namespace Dee
open PySem PySem.Spec PyProof.Rows L2

mutual
/-- data that stand in memory, none of which may change meanwhile -/
def RepD (H : Hp) : D → V → Prop
  | .non, v => v = .non
  | .bl b, v => v = .bl b
  | .int i, v => v = .int i
  | .str s, v => v = .str s
  | .tup ds, v => ∃ a vs, v = .ref a ∧ Rd H a (.tup vs) ∧ RepDL H ds vs
  | .lst ds, v => ∃ a vs, v = .ref a ∧ Rd H a (.lst vs) ∧ RepDL H ds vs
  | .dct _ _, _ => False
  | .obj _ _, _ => False
  | .ref _, _ => False
  | .clo _ _, _ => False
def RepDL (H : Hp) : List D → List V → Prop
  | [], vs => vs = []
  | d :: ds, vs => ∃ v r, vs = v :: r ∧ RepD H d v ∧ RepDL H ds r
end
section
variable {mg : Gm} {M : Mem} {H : Hp}
mutual
theorem Rep.dat : ∀ {d : D} {v : V}, Rep mg M H d v → d.dep ≤ 60 → RepD H d v
  | .non, _, h, _ => h
  | .bl _, _, h, _ => h
  | .int _, _, h, _ => h
  | .str _, _, h, _ => h
  | .tup ds, _, ⟨a, vs, e, n, h, r⟩, q => ⟨a, vs, e, h.rd, RepL.dat r (by simp only [D.dep] at q; omega)⟩
  | .lst ds, _, ⟨a, vs, e, n, h, r⟩, q => ⟨a, vs, e, h, RepL.dat r (by simp only [D.dep] at q; omega)⟩
  | .dct _ _, _, _, q => absurd q (by simp only [D.dep]; decide)
  | .obj _ _, _, _, q => absurd q (by simp only [D.dep]; decide)
  | .ref _, _, _, q => absurd q (by simp only [D.dep]; decide)
  | .clo _ _, _, _, q => absurd q (by simp only [D.dep]; decide)
theorem RepL.dat : ∀ {ds : List D} {vs : List V}, RepL mg M H ds vs → depL ds ≤ 60 → RepDL H ds vs
  | [], _, h, _ => h
  | d :: ds, _, ⟨v, r, e, h, hr⟩, q => ⟨v, r, e, Rep.dat h (by simp only [depL] at q; omega), RepL.dat hr (by simp only [depL] at q; omega)⟩
end
theorem Rep.ice (m : MRep mg M H) {d : D} {v : V} (r : Rep mg M H d v) (q : (iceL M d).dep ≤ 60) : RepD H (iceL M d) v := by
  cases d with
  | ref a =>
    unfold iceL at q ⊢
    dsimp only at q ⊢
    split
    · rename_i xs e
      rw [e] at q
      dsimp only at q
      obtain ⟨vs, h, r'⟩ := m.std a _ e
      have r2 : v = .ref a := r
      exact ⟨a, vs, r2, .inl h, r'.dat (by simp only [D.dep] at q; omega)⟩
    · rename_i hn
      split at q
      · rename_i xs e
        exact absurd e (hn xs)
      · exact absurd q (by simp only [D.dep]; decide)
  | _ => exact r.dat q
end
theorem Rd.lst_inj {H : Hp} {a : Addr} {vs us : List V} (h : Rd H a (.lst vs)) (h' : Rd H a (.lst us)) : vs = us := by
  rcases h with h | ⟨o, h⟩ <;> rcases h' with h' | ⟨o', h'⟩ <;> (rw [h] at h'; cases h'; try rfl)
theorem Rd.no_tup {H : Hp} {a : Addr} {vs us : List V} (h : Rd H a (.tup vs)) (h' : Rd H a (.lst us)) : False := by
  rcases h with h | ⟨o, h⟩ <;> rcases h' with h' | ⟨o', h'⟩ <;> (rw [h] at h'; cases h')
theorem Rd.tup_inj {H : Hp} {a : Addr} {vs us : List V} (h : Rd H a (.tup vs)) (h' : Rd H a (.tup us)) : vs = us := by
  rcases h with h | ⟨o, h⟩ <;> rcases h' with h' | ⟨o', h'⟩ <;> (rw [h] at h'; cases h'; try rfl)
mutual
theorem RepD.inj {H : Hp} : ∀ {d e : D} {v : V}, RepD H d v → RepD H e v → d = e
  | .non, e, v, h, h' => by cases (show v = .non from h); cases e <;> simp [RepD] at h' <;> rfl
  | .bl b, e, v, h, h' => by cases (show v = .bl b from h); cases e <;> simp [RepD] at h' <;> (subst h'; rfl)
  | .int b, e, v, h, h' => by cases (show v = .int b from h); cases e <;> simp [RepD] at h' <;> (subst h'; rfl)
  | .str b, e, v, h, h' => by cases (show v = .str b from h); cases e <;> simp [RepD] at h' <;> (subst h'; rfl)
  | .tup ds, e, v, ⟨a, vs, q, h, r⟩, h' => by
    subst q
    cases e with
    | tup es =>
      obtain ⟨b, us, q, h2, r2⟩ := h'
      cases q
      have eu := Rd.tup_inj h h2
      subst eu
      rw [RepDL.inj r r2]
    | lst es =>
      obtain ⟨b, us, q, h2, r2⟩ := h'
      cases q
      exact (Rd.no_tup h h2).elim
    | _ => simp [RepD] at h'
  | .lst ds, e, v, ⟨a, vs, q, h, r⟩, h' => by
    subst q
    cases e with
    | lst es =>
      obtain ⟨b, us, q, h2, r2⟩ := h'
      cases q
      have e := Rd.lst_inj h h2
      subst e
      rw [RepDL.inj r r2]
    | tup es =>
      obtain ⟨b, us, q, h2, r2⟩ := h'
      cases q
      exact (Rd.no_tup h2 h).elim
    | _ => simp [RepD] at h'
  | .dct _ _, _, _, h, _ => h.elim
  | .obj _ _, _, _, h, _ => h.elim
  | .ref _, _, _, h, _ => h.elim
  | .clo _ _, _, _, h, _ => h.elim
theorem RepDL.inj {H : Hp} : ∀ {d e : List D} {v : List V}, RepDL H d v → RepDL H e v → d = e
  | [], e, v, h, h' => by
    cases (show v = [] from h)
    cases e with
    | nil => rfl
    | cons _ _ => obtain ⟨_, _, q, _⟩ := h'; cases q
  | d :: ds, e, v, ⟨w, r, q, h1, h2⟩, h' => by
    subst q
    cases e with
    | nil => cases (show _ :: _ = [] from h')
    | cons e es =>
      obtain ⟨w', r', q, h3, h4⟩ := h'
      cases q
      rw [RepD.inj h1 h3, RepDL.inj h2 h4]
end
theorem RepDL.length {H : Hp} : ∀ {ds : List D} {vs : List V}, RepDL H ds vs → ds.length = vs.length
  | [], _, h => by cases h; rfl
  | _ :: _, _, ⟨v, r, e, h, hr⟩ => by cases e; simp [RepDL.length hr]

/-! ### == -/
theorem peqL_all : ∀ (xs ys : List D), peqL xs ys = ((List.range (min xs.length ys.length)).all (fun j => peq (xs.getD j .non) (ys.getD j .non)) && xs.length == ys.length)
  | [], [] => by simp [peqL]
  | [], _ :: _ => by simp [peqL]
  | _ :: _, [] => by simp [peqL]
  | x :: xs, y :: ys => by
    have ih := peqL_all xs ys
    simp only [peqL, ih, List.length_cons, Nat.succ_min_succ, List.range_succ_eq_map, List.all_cons, List.all_map, Function.comp_def, List.getD_cons_zero, List.getD_cons_succ]
    have e : (xs.length + 1 == ys.length + 1) = (xs.length == ys.length) := by
      by_cases h : xs.length = ys.length <;> simp [h]
    rw [e, Bool.and_assoc]
section
variable {X : Cx} {pins : List (Addr × Obj)} {σ : L2.St} {H : Hp} {s : Shared}
open PySem.SeqAt
theorem Rd.listAt (I : Inv X pins σ H s) {a : Addr} {vs : List V} (h : Rd H a (.lst vs)) : vs.length ≤ sizeLine ∧ ∃ (its : List Value) (n : Nat), Vals vs its ∧ s.heap.get? a = some { cls := .type "list", data := .seq its.toArray n } := by
  obtain ⟨z, its, n, r, e⟩ := h.ok I.hok
  exact ⟨z, its, n, r, e⟩
theorem tupAt (I : Inv X pins σ H s) {a : Addr} {vs : List V} (h : Rd H a (.tup vs)) : vs.length ≤ sizeLine ∧ ∃ (its : List Value), Vals vs its ∧ IsTup s.heap a its.toArray := by
  obtain ⟨its, r, p, z⟩ := I.tuple (.inl h)
  exact ⟨z, its, r, p⟩
/-- item by item -/
theorem eq_items {A : Around} {H : Hp} {ds es : List D} {vs us : List V} {its jts : List Value} (rd : RepDL H ds vs) (re : RepDL H es us) (r1 : Vals vs its) (r2 : Vals us jts)
    (ih : ∀ d ∈ ds, ∀ e ∈ es, ∀ v u x y, RepD H d v → RepD H e u → RelV v x → RelV u y → EqAt A.in1 s x y (peq d e)) :
    ∀ j (h1 : j < its.toArray.size) (h2 : j < jts.toArray.size), EqAt A.in1 s its.toArray[j] jts.toArray[j] (peq (ds.getD j .non) (es.getD j .non)) := by
  induction ds generalizing es vs us its jts with
  | nil =>
    cases (show vs = [] from rd)
    cases r1
    intro j h1
    exact absurd h1 (by simp)
  | cons d ds ihl =>
    obtain ⟨v, r, q, h1, h2⟩ := rd
    subst q
    cases r1 with
    | @cons _ x _ xs rv rt =>
      cases es with
      | nil =>
        cases (show us = [] from re)
        cases r2
        intro j _ h2
        exact absurd h2 (by simp)
      | cons e es =>
        obtain ⟨u, r', q, h3, h4⟩ := re
        subst q
        cases r2 with
        | @cons _ y _ ys ru rt2 =>
          intro j
          cases j with
          | zero =>
            intro _ _
            exact ih d List.mem_cons_self e List.mem_cons_self v u x y h1 h3 rv ru
          | succ j =>
            intro k1 k2
            have := ihl h2 h4 rt rt2 (fun d hd e he => ih d (List.mem_cons_of_mem _ hd) e (List.mem_cons_of_mem _ he)) j (by simpa using k1) (by simpa using k2)
            simpa using this
theorem dep_mem {x : D} {xs : List D} (h : x ∈ xs) : x.dep ≤ depL xs := by
  induction xs with
  | nil => cases h
  | cons y ys ih =>
    simp only [depL]
    rcases List.mem_cons.mp h with rfl | h
    · omega
    · have := ih h; omega
mutual
theorem peq_refl {H : Hp} : ∀ (d : D) {v : V}, RepD H d v → peq d d = true
  | .non, _, _ => rfl
  | .bl b, _, _ => by simp [peq]
  | .int b, _, _ => by simp [peq]
  | .str b, _, _ => by simp [peq]
  | .tup ds, _, ⟨a, vs, e, h, r⟩ => by simpa [peq] using peqL_refl ds r
  | .lst ds, _, ⟨a, vs, e, h, r⟩ => by simpa [peq] using peqL_refl ds r
  | .dct _ _, _, h => h.elim
  | .obj _ _, _, h => h.elim
  | .ref _, _, h => h.elim
  | .clo _ _, _, h => h.elim
theorem peqL_refl {H : Hp} : ∀ (ds : List D) {vs : List V}, RepDL H ds vs → peqL ds ds = true
  | [], _, _ => rfl
  | d :: ds, _, ⟨v, r, e, h, hr⟩ => by simp [peqL, peq_refl d h, peqL_refl ds hr]
end
theorem eqAt_flat {A : Around} (I : Inv X pins σ H s) (d e : D) (v u : V) (x y : Value) (hn : d.dep ≤ 0) (hd : RepD H d v) (he : RepD H e u) (rv : RelV v x) (ru : RelV u y) (hu' : A.units < cLine) : EqAt A s x y (peq d e) := by
  cases d with
  | non =>
    cases (show v = .non from hd)
    cases (show x = Value.none from rv)
    cases e with
    | non => cases (show u = .non from he); cases (show y = Value.none from ru); exact EqAt.same _
    | bl b => cases (show u = .bl b from he); cases (show y = Value.bool b from ru); exact EqAt.none_bool b
    | int b => cases (show u = .int b from he); obtain ⟨t, rfl⟩ := (show ∃ t, y = Value.int b t from ru); exact EqAt.none_int b t
    | str b => cases (show u = .str b from he); obtain ⟨t, rfl⟩ := (show ∃ t, y = Value.str b t from ru); exact EqAt.none_str b t
    | tup es => obtain ⟨a, us, rfl, h, r⟩ := he; cases (show y = Value.ref a from ru); obtain ⟨z, its, r2, p⟩ := tupAt I h; exact EqAt.none_tuple p hu'
    | lst es => obtain ⟨a, us, rfl, h, r⟩ := he; cases (show y = Value.ref a from ru); obtain ⟨z, its, n, r2, p⟩ := Rd.listAt I h; exact EqAt.none_list ⟨_, p, rfl, _, rfl⟩ hu'
    | _ => exact he.elim
  | bl k =>
    cases (show v = .bl k from hd)
    cases (show x = Value.bool k from rv)
    cases e with
    | non => cases (show u = .non from he); cases (show y = Value.none from ru); exact EqAt.bool_none k
    | bl b => cases (show u = .bl b from he); cases (show y = Value.bool b from ru); exact EqAt.bool_bool k b
    | int b => cases (show u = .int b from he); obtain ⟨t, rfl⟩ := (show ∃ t, y = Value.int b t from ru); exact EqAt.bool_int k b t
    | str b => cases (show u = .str b from he); obtain ⟨t, rfl⟩ := (show ∃ t, y = Value.str b t from ru); exact EqAt.bool_str k b t
    | tup es => obtain ⟨a, us, rfl, h, r⟩ := he; cases (show y = Value.ref a from ru); obtain ⟨z, its, r2, p⟩ := tupAt I h; exact EqAt.bool_tuple k p hu'
    | lst es => obtain ⟨a, us, rfl, h, r⟩ := he; cases (show y = Value.ref a from ru); obtain ⟨z, its, n, r2, p⟩ := Rd.listAt I h; exact EqAt.bool_list k ⟨_, p, rfl, _, rfl⟩ hu'
    | _ => exact he.elim
  | int k =>
    cases (show v = .int k from hd)
    obtain ⟨tk, rfl⟩ := (show ∃ t, x = Value.int k t from rv)
    cases e with
    | non => cases (show u = .non from he); cases (show y = Value.none from ru); exact EqAt.int_none k tk
    | bl b => cases (show u = .bl b from he); cases (show y = Value.bool b from ru); exact EqAt.int_bool k tk b
    | int b => cases (show u = .int b from he); obtain ⟨t, rfl⟩ := (show ∃ t, y = Value.int b t from ru); exact EqAt.int_int k tk b t
    | str b => cases (show u = .str b from he); obtain ⟨t, rfl⟩ := (show ∃ t, y = Value.str b t from ru); exact EqAt.int_str k tk b t
    | tup es => obtain ⟨a, us, rfl, h, r⟩ := he; cases (show y = Value.ref a from ru); obtain ⟨z, its, r2, p⟩ := tupAt I h; exact EqAt.int_tuple k tk p hu'
    | lst es => obtain ⟨a, us, rfl, h, r⟩ := he; cases (show y = Value.ref a from ru); obtain ⟨z, its, n, r2, p⟩ := Rd.listAt I h; exact EqAt.int_list k tk ⟨_, p, rfl, _, rfl⟩ hu'
    | _ => exact he.elim
  | str k =>
    cases (show v = .str k from hd)
    obtain ⟨tk, rfl⟩ := (show ∃ t, x = Value.str k t from rv)
    cases e with
    | non => cases (show u = .non from he); cases (show y = Value.none from ru); exact EqAt.str_none k tk
    | bl b => cases (show u = .bl b from he); cases (show y = Value.bool b from ru); exact EqAt.str_bool k tk b
    | int b => cases (show u = .int b from he); obtain ⟨t, rfl⟩ := (show ∃ t, y = Value.int b t from ru); exact EqAt.str_int k tk b t
    | str b => cases (show u = .str b from he); obtain ⟨t, rfl⟩ := (show ∃ t, y = Value.str b t from ru); exact EqAt.str_str k tk b t
    | tup es => obtain ⟨a, us, rfl, h, r⟩ := he; cases (show y = Value.ref a from ru); obtain ⟨z, its, r2, p⟩ := tupAt I h; exact EqAt.str_tuple k tk p hu'
    | lst es => obtain ⟨a, us, rfl, h, r⟩ := he; cases (show y = Value.ref a from ru); obtain ⟨z, its, n, r2, p⟩ := Rd.listAt I h; exact EqAt.str_list k tk ⟨_, p, rfl, _, rfl⟩ hu'
    | _ => exact he.elim
  | tup ds => simp only [D.dep] at hn; omega
  | lst ds => simp only [D.dep] at hn; omega
  | _ => exact hd.elim
theorem eqAt_dat : ∀ (n : Nat) (A : Around) (I : Inv X pins σ H s) (d e : D) (v u : V) (x y : Value), d.dep ≤ n → RepD H d v → RepD H e u → RelV v x → RelV u y → A.units + n < cLine → EqAt A s x y (peq d e) := by
  intro n
  induction n with
  | zero =>
    intro A I d e v u x y hn hd he rv ru hu
    exact eqAt_flat I d e v u x y hn hd he rv ru (by omega)
  | succ n ih =>
    intro A I d e v u x y hn hd he rv ru hu
    have hu' : A.units < cLine := by omega
    have hu1 : A.in1.units + n < cLine := by show A.units + 1 + n < cLine; omega
    have flat : d.dep ≤ 0 → EqAt A s x y (peq d e) := fun h0 => eqAt_flat I d e v u x y h0 hd he rv ru hu'
    cases d with
    | tup ds =>
      obtain ⟨a, vs, rfl, h, r⟩ := hd
      cases (show x = Value.ref a from rv)
      obtain ⟨z, its, r1, p⟩ := tupAt I h
      cases e with
      | non => cases (show u = .non from he); cases (show y = Value.none from ru); exact EqAt.tuple_none p hu'
      | bl b => cases (show u = .bl b from he); cases (show y = Value.bool b from ru); exact EqAt.tuple_bool b p hu'
      | int b => cases (show u = .int b from he); obtain ⟨t, rfl⟩ := (show ∃ t, y = Value.int b t from ru); exact EqAt.tuple_int b t p hu'
      | str b => cases (show u = .str b from he); obtain ⟨t, rfl⟩ := (show ∃ t, y = Value.str b t from ru); exact EqAt.tuple_str b t p hu'
      | lst es => obtain ⟨c, us, rfl, h2, r2⟩ := he; cases (show y = Value.ref c from ru); obtain ⟨z2, jts, m, r3, p2⟩ := Rd.listAt I h2; exact EqAt.tuple_list p ⟨_, p2, rfl, _, rfl⟩ hu'
      | tup es =>
        obtain ⟨c, us, rfl, h2, r2⟩ := he
        cases (show y = Value.ref c from ru)
        obtain ⟨z2, jts, r3, p2⟩ := tupAt I h2
        by_cases hac : a = c
        · subst hac
          have eu := Rd.tup_inj h h2
          subst eu
          have e2 := RepDL.inj r r2
          subst e2
          have := peq_refl (.tup ds) ⟨a, vs, rfl, h, r⟩
          rw [this]
          exact EqAt.same _
        · refine EqAt.of_refs hac ?_
          have hq := RcAt.tuples (e := fun j => peq (ds.getD j .non) (es.getD j .non)) p p2 hu' (eq_items r r2 r1 r3 fun d hd e he v u x y h1 h2 h3 h4 => ih A.in1 I d e v u x y (by have := dep_mem hd; simp only [D.dep] at hn; omega) h1 h2 h3 h4 hu1)
          have e1 : its.toArray.size = ds.length := by rw [List.size_toArray, ← r1.length, r.length]
          have e2 : jts.toArray.size = es.length := by rw [List.size_toArray, ← r3.length, r2.length]
          rw [e1, e2, ← peqL_all] at hq
          exact hq
      | _ => exact he.elim
    | lst ds =>
      obtain ⟨a, vs, rfl, h, r⟩ := hd
      cases (show x = Value.ref a from rv)
      obtain ⟨z, its, m0, r1, p⟩ := Rd.listAt I h
      cases e with
      | non => cases (show u = .non from he); cases (show y = Value.none from ru); exact EqAt.list_none ⟨_, p, rfl, _, rfl⟩ hu'
      | bl b => cases (show u = .bl b from he); cases (show y = Value.bool b from ru); exact EqAt.list_bool b ⟨_, p, rfl, _, rfl⟩ hu'
      | int b => cases (show u = .int b from he); obtain ⟨t, rfl⟩ := (show ∃ t, y = Value.int b t from ru); exact EqAt.list_int b t ⟨_, p, rfl, _, rfl⟩ hu'
      | str b => cases (show u = .str b from he); obtain ⟨t, rfl⟩ := (show ∃ t, y = Value.str b t from ru); exact EqAt.list_str b t ⟨_, p, rfl, _, rfl⟩ hu'
      | tup es => obtain ⟨c, us, rfl, h2, r2⟩ := he; cases (show y = Value.ref c from ru); obtain ⟨z2, jts, r3, p2⟩ := tupAt I h2; exact EqAt.list_tuple ⟨_, p, rfl, _, rfl⟩ p2 hu'
      | lst es =>
        obtain ⟨c, us, rfl, h2, r2⟩ := he
        cases (show y = Value.ref c from ru)
        obtain ⟨z2, jts, m, r3, p2⟩ := Rd.listAt I h2
        by_cases hac : a = c
        · subst hac
          have e0 := Rd.lst_inj h h2
          subst e0
          have e2 := RepDL.inj r r2
          subst e2
          have := peq_refl (.lst ds) ⟨a, vs, rfl, h, r⟩
          rw [this]
          exact EqAt.same _
        · refine EqAt.of_refs hac ?_
          have e1 : its.toArray.size = ds.length := by rw [List.size_toArray, ← r1.length, r.length]
          have e2 : jts.toArray.size = es.length := by rw [List.size_toArray, ← r3.length, r2.length]
          by_cases hl : ds.length = es.length
          · have hq := RcAt.lists (e := fun j => peq (ds.getD j .non) (es.getD j .non)) ⟨_, p, rfl, _, rfl⟩ ⟨_, p2, rfl, _, rfl⟩ (by rw [e1, e2, hl]) hu' (eq_items r r2 r1 r3 fun d hd e he v u x y h1 h2 h3 h4 => ih A.in1 I d e v u x y (by have := dep_mem hd; simp only [D.dep] at hn; omega) h1 h2 h3 h4 hu1)
            have e3 : peq (.lst ds) (.lst es) = (List.range its.toArray.size).all fun j => peq (ds.getD j .non) (es.getD j .non) := by
              show peqL ds es = _
              rw [peqL_all, e1, hl, Nat.min_self]
              simp
            rw [e3]
            exact hq
          · have e3 : peq (.lst ds) (.lst es) = false := by
              show peqL ds es = _
              rw [peqL_all]
              simp [hl]
            rw [e3]
            exact RcAt.lists_lengths ⟨_, p, rfl, _, rfl⟩ ⟨_, p2, rfl, _, rfl⟩ (by rw [e1, e2]; simp [hl]) hu'
      | _ => exact he.elim
    | non => exact flat (by simp only [D.dep]; omega)
    | bl _ => exact flat (by simp only [D.dep]; omega)
    | int _ => exact flat (by simp only [D.dep]; omega)
    | str _ => exact flat (by simp only [D.dep]; omega)
    | _ => exact hd.elim
theorem rcAt_flat {A : Around} (I : Inv X pins σ H s) (d e : D) (v u : V) (x y : Value) (hn : d.dep ≤ 0) (hd : RepD H d v) (he : RepD H e u) (rv : RelV v x) (ru : RelV u y) (hu' : A.units < cLine) : RcAt A s x y (peq d e) := by
  cases d with
  | non =>
    cases (show v = .non from hd)
    cases (show x = Value.none from rv)
    cases e with
    | non => cases (show u = .non from he); cases (show y = Value.none from ru); exact RcAt.none_none
    | bl b => cases (show u = .bl b from he); cases (show y = Value.bool b from ru); exact RcAt.none_bool b
    | int b => cases (show u = .int b from he); obtain ⟨t, rfl⟩ := (show ∃ t, y = Value.int b t from ru); exact RcAt.none_int b t
    | str b => cases (show u = .str b from he); obtain ⟨t, rfl⟩ := (show ∃ t, y = Value.str b t from ru); exact RcAt.none_str b t
    | tup es => obtain ⟨a, us, rfl, h, r⟩ := he; cases (show y = Value.ref a from ru); obtain ⟨z, its, r2, p⟩ := tupAt I h; exact RcAt.none_tuple p hu'
    | lst es => obtain ⟨a, us, rfl, h, r⟩ := he; cases (show y = Value.ref a from ru); obtain ⟨z, its, n, r2, p⟩ := Rd.listAt I h; exact RcAt.none_list ⟨_, p, rfl, _, rfl⟩ hu'
    | _ => exact he.elim
  | bl k =>
    cases (show v = .bl k from hd)
    cases (show x = Value.bool k from rv)
    cases e with
    | non => cases (show u = .non from he); cases (show y = Value.none from ru); exact RcAt.bool_none k
    | bl b => cases (show u = .bl b from he); cases (show y = Value.bool b from ru); exact RcAt.bool_bool k b
    | int b => cases (show u = .int b from he); obtain ⟨t, rfl⟩ := (show ∃ t, y = Value.int b t from ru); exact RcAt.bool_int k b t
    | str b => cases (show u = .str b from he); obtain ⟨t, rfl⟩ := (show ∃ t, y = Value.str b t from ru); exact RcAt.bool_str k b t
    | tup es => obtain ⟨a, us, rfl, h, r⟩ := he; cases (show y = Value.ref a from ru); obtain ⟨z, its, r2, p⟩ := tupAt I h; exact RcAt.bool_tuple k p hu'
    | lst es => obtain ⟨a, us, rfl, h, r⟩ := he; cases (show y = Value.ref a from ru); obtain ⟨z, its, n, r2, p⟩ := Rd.listAt I h; exact RcAt.bool_list k ⟨_, p, rfl, _, rfl⟩ hu'
    | _ => exact he.elim
  | int k =>
    cases (show v = .int k from hd)
    obtain ⟨tk, rfl⟩ := (show ∃ t, x = Value.int k t from rv)
    cases e with
    | non => cases (show u = .non from he); cases (show y = Value.none from ru); exact RcAt.int_none k tk
    | bl b => cases (show u = .bl b from he); cases (show y = Value.bool b from ru); exact RcAt.int_bool k tk b
    | int b => cases (show u = .int b from he); obtain ⟨t, rfl⟩ := (show ∃ t, y = Value.int b t from ru); exact RcAt.int_int k tk b t
    | str b => cases (show u = .str b from he); obtain ⟨t, rfl⟩ := (show ∃ t, y = Value.str b t from ru); exact RcAt.int_str k tk b t
    | tup es => obtain ⟨a, us, rfl, h, r⟩ := he; cases (show y = Value.ref a from ru); obtain ⟨z, its, r2, p⟩ := tupAt I h; exact RcAt.int_tuple k tk p hu'
    | lst es => obtain ⟨a, us, rfl, h, r⟩ := he; cases (show y = Value.ref a from ru); obtain ⟨z, its, n, r2, p⟩ := Rd.listAt I h; exact RcAt.int_list k tk ⟨_, p, rfl, _, rfl⟩ hu'
    | _ => exact he.elim
  | str k =>
    cases (show v = .str k from hd)
    obtain ⟨tk, rfl⟩ := (show ∃ t, x = Value.str k t from rv)
    cases e with
    | non => cases (show u = .non from he); cases (show y = Value.none from ru); exact RcAt.str_none k tk
    | bl b => cases (show u = .bl b from he); cases (show y = Value.bool b from ru); exact RcAt.str_bool k tk b
    | int b => cases (show u = .int b from he); obtain ⟨t, rfl⟩ := (show ∃ t, y = Value.int b t from ru); exact RcAt.str_int k tk b t
    | str b => cases (show u = .str b from he); obtain ⟨t, rfl⟩ := (show ∃ t, y = Value.str b t from ru); exact RcAt.str_str k tk b t
    | tup es => obtain ⟨a, us, rfl, h, r⟩ := he; cases (show y = Value.ref a from ru); obtain ⟨z, its, r2, p⟩ := tupAt I h; exact RcAt.str_tuple k tk p hu'
    | lst es => obtain ⟨a, us, rfl, h, r⟩ := he; cases (show y = Value.ref a from ru); obtain ⟨z, its, n, r2, p⟩ := Rd.listAt I h; exact RcAt.str_list k tk ⟨_, p, rfl, _, rfl⟩ hu'
    | _ => exact he.elim
  | tup ds => simp only [D.dep] at hn; omega
  | lst ds => simp only [D.dep] at hn; omega
  | _ => exact hd.elim
theorem rcAt_dat (n : Nat) (A : Around) (I : Inv X pins σ H s) (d e : D) (v u : V) (x y : Value) (hn : d.dep ≤ n + 1) (hd : RepD H d v) (he : RepD H e u) (rv : RelV v x) (ru : RelV u y) (hu : A.units + (n + 1) < cLine) : RcAt A s x y (peq d e) := by
    have hu' : A.units < cLine := by omega
    have hu1 : A.in1.units + n < cLine := by show A.units + 1 + n < cLine; omega
    have flat : d.dep ≤ 0 → RcAt A s x y (peq d e) := fun h0 => rcAt_flat I d e v u x y h0 hd he rv ru hu'
    cases d with
    | tup ds =>
      obtain ⟨a, vs, rfl, h, r⟩ := hd
      cases (show x = Value.ref a from rv)
      obtain ⟨z, its, r1, p⟩ := tupAt I h
      cases e with
      | non => cases (show u = .non from he); cases (show y = Value.none from ru); exact RcAt.tuple_none p hu'
      | bl b => cases (show u = .bl b from he); cases (show y = Value.bool b from ru); exact RcAt.tuple_bool b p hu'
      | int b => cases (show u = .int b from he); obtain ⟨t, rfl⟩ := (show ∃ t, y = Value.int b t from ru); exact RcAt.tuple_int b t p hu'
      | str b => cases (show u = .str b from he); obtain ⟨t, rfl⟩ := (show ∃ t, y = Value.str b t from ru); exact RcAt.tuple_str b t p hu'
      | lst es => obtain ⟨c, us, rfl, h2, r2⟩ := he; cases (show y = Value.ref c from ru); obtain ⟨z2, jts, m, r3, p2⟩ := Rd.listAt I h2; exact RcAt.tuple_list p ⟨_, p2, rfl, _, rfl⟩ hu'
      | tup es =>
        obtain ⟨c, us, rfl, h2, r2⟩ := he
        cases (show y = Value.ref c from ru)
        obtain ⟨z2, jts, r3, p2⟩ := tupAt I h2
        · skip
          have hq := RcAt.tuples (e := fun j => peq (ds.getD j .non) (es.getD j .non)) p p2 hu' (eq_items r r2 r1 r3 fun d hd e he v u x y h1 h2 h3 h4 => eqAt_dat n A.in1 I d e v u x y (by have := dep_mem hd; simp only [D.dep] at hn; omega) h1 h2 h3 h4 hu1)
          have e1 : its.toArray.size = ds.length := by rw [List.size_toArray, ← r1.length, r.length]
          have e2 : jts.toArray.size = es.length := by rw [List.size_toArray, ← r3.length, r2.length]
          rw [e1, e2, ← peqL_all] at hq
          exact hq
      | _ => exact he.elim
    | lst ds =>
      obtain ⟨a, vs, rfl, h, r⟩ := hd
      cases (show x = Value.ref a from rv)
      obtain ⟨z, its, m0, r1, p⟩ := Rd.listAt I h
      cases e with
      | non => cases (show u = .non from he); cases (show y = Value.none from ru); exact RcAt.list_none ⟨_, p, rfl, _, rfl⟩ hu'
      | bl b => cases (show u = .bl b from he); cases (show y = Value.bool b from ru); exact RcAt.list_bool b ⟨_, p, rfl, _, rfl⟩ hu'
      | int b => cases (show u = .int b from he); obtain ⟨t, rfl⟩ := (show ∃ t, y = Value.int b t from ru); exact RcAt.list_int b t ⟨_, p, rfl, _, rfl⟩ hu'
      | str b => cases (show u = .str b from he); obtain ⟨t, rfl⟩ := (show ∃ t, y = Value.str b t from ru); exact RcAt.list_str b t ⟨_, p, rfl, _, rfl⟩ hu'
      | tup es => obtain ⟨c, us, rfl, h2, r2⟩ := he; cases (show y = Value.ref c from ru); obtain ⟨z2, jts, r3, p2⟩ := tupAt I h2; exact RcAt.list_tuple ⟨_, p, rfl, _, rfl⟩ p2 hu'
      | lst es =>
        obtain ⟨c, us, rfl, h2, r2⟩ := he
        cases (show y = Value.ref c from ru)
        obtain ⟨z2, jts, m, r3, p2⟩ := Rd.listAt I h2
        · skip
          have e1 : its.toArray.size = ds.length := by rw [List.size_toArray, ← r1.length, r.length]
          have e2 : jts.toArray.size = es.length := by rw [List.size_toArray, ← r3.length, r2.length]
          by_cases hl : ds.length = es.length
          · have hq := RcAt.lists (e := fun j => peq (ds.getD j .non) (es.getD j .non)) ⟨_, p, rfl, _, rfl⟩ ⟨_, p2, rfl, _, rfl⟩ (by rw [e1, e2, hl]) hu' (eq_items r r2 r1 r3 fun d hd e he v u x y h1 h2 h3 h4 => eqAt_dat n A.in1 I d e v u x y (by have := dep_mem hd; simp only [D.dep] at hn; omega) h1 h2 h3 h4 hu1)
            have e3 : peq (.lst ds) (.lst es) = (List.range its.toArray.size).all fun j => peq (ds.getD j .non) (es.getD j .non) := by
              show peqL ds es = _
              rw [peqL_all, e1, hl, Nat.min_self]
              simp
            rw [e3]
            exact hq
          · have e3 : peq (.lst ds) (.lst es) = false := by
              show peqL ds es = _
              rw [peqL_all]
              simp [hl]
            rw [e3]
            exact RcAt.lists_lengths ⟨_, p, rfl, _, rfl⟩ ⟨_, p2, rfl, _, rfl⟩ (by rw [e1, e2]; simp [hl]) hu'
      | _ => exact he.elim
    | non => exact flat (by simp only [D.dep]; omega)
    | bl _ => exact flat (by simp only [D.dep]; omega)
    | int _ => exact flat (by simp only [D.dep]; omega)
    | str _ => exact flat (by simp only [D.dep]; omega)
    | _ => exact hd.elim
theorem rcNeAt_flat {A : Around} (I : Inv X pins σ H s) (d e : D) (v u : V) (x y : Value) (hn : d.dep ≤ 0) (hd : RepD H d v) (he : RepD H e u) (rv : RelV v x) (ru : RelV u y) (hu' : A.units < cLine) : RcNeAt A s x y (!peq d e) := by
  cases d with
  | non =>
    cases (show v = .non from hd)
    cases (show x = Value.none from rv)
    cases e with
    | non => cases (show u = .non from he); cases (show y = Value.none from ru); exact RcNeAt.none_none
    | bl b => cases (show u = .bl b from he); cases (show y = Value.bool b from ru); exact RcNeAt.none_bool b
    | int b => cases (show u = .int b from he); obtain ⟨t, rfl⟩ := (show ∃ t, y = Value.int b t from ru); exact RcNeAt.none_int b t
    | str b => cases (show u = .str b from he); obtain ⟨t, rfl⟩ := (show ∃ t, y = Value.str b t from ru); exact RcNeAt.none_str b t
    | tup es => obtain ⟨a, us, rfl, h, r⟩ := he; cases (show y = Value.ref a from ru); obtain ⟨z, its, r2, p⟩ := tupAt I h; exact RcNeAt.none_tuple p hu'
    | lst es => obtain ⟨a, us, rfl, h, r⟩ := he; cases (show y = Value.ref a from ru); obtain ⟨z, its, n, r2, p⟩ := Rd.listAt I h; exact RcNeAt.none_list ⟨_, p, rfl, _, rfl⟩ hu'
    | _ => exact he.elim
  | bl k =>
    cases (show v = .bl k from hd)
    cases (show x = Value.bool k from rv)
    cases e with
    | non => cases (show u = .non from he); cases (show y = Value.none from ru); exact RcNeAt.bool_none k
    | bl b => cases (show u = .bl b from he); cases (show y = Value.bool b from ru); exact RcNeAt.bool_bool k b
    | int b => cases (show u = .int b from he); obtain ⟨t, rfl⟩ := (show ∃ t, y = Value.int b t from ru); exact RcNeAt.bool_int k b t
    | str b => cases (show u = .str b from he); obtain ⟨t, rfl⟩ := (show ∃ t, y = Value.str b t from ru); exact RcNeAt.bool_str k b t
    | tup es => obtain ⟨a, us, rfl, h, r⟩ := he; cases (show y = Value.ref a from ru); obtain ⟨z, its, r2, p⟩ := tupAt I h; exact RcNeAt.bool_tuple k p hu'
    | lst es => obtain ⟨a, us, rfl, h, r⟩ := he; cases (show y = Value.ref a from ru); obtain ⟨z, its, n, r2, p⟩ := Rd.listAt I h; exact RcNeAt.bool_list k ⟨_, p, rfl, _, rfl⟩ hu'
    | _ => exact he.elim
  | int k =>
    cases (show v = .int k from hd)
    obtain ⟨tk, rfl⟩ := (show ∃ t, x = Value.int k t from rv)
    cases e with
    | non => cases (show u = .non from he); cases (show y = Value.none from ru); exact RcNeAt.int_none k tk
    | bl b => cases (show u = .bl b from he); cases (show y = Value.bool b from ru); exact RcNeAt.int_bool k tk b
    | int b => cases (show u = .int b from he); obtain ⟨t, rfl⟩ := (show ∃ t, y = Value.int b t from ru); exact RcNeAt.int_int k tk b t
    | str b => cases (show u = .str b from he); obtain ⟨t, rfl⟩ := (show ∃ t, y = Value.str b t from ru); exact RcNeAt.int_str k tk b t
    | tup es => obtain ⟨a, us, rfl, h, r⟩ := he; cases (show y = Value.ref a from ru); obtain ⟨z, its, r2, p⟩ := tupAt I h; exact RcNeAt.int_tuple k tk p hu'
    | lst es => obtain ⟨a, us, rfl, h, r⟩ := he; cases (show y = Value.ref a from ru); obtain ⟨z, its, n, r2, p⟩ := Rd.listAt I h; exact RcNeAt.int_list k tk ⟨_, p, rfl, _, rfl⟩ hu'
    | _ => exact he.elim
  | str k =>
    cases (show v = .str k from hd)
    obtain ⟨tk, rfl⟩ := (show ∃ t, x = Value.str k t from rv)
    cases e with
    | non => cases (show u = .non from he); cases (show y = Value.none from ru); exact RcNeAt.str_none k tk
    | bl b => cases (show u = .bl b from he); cases (show y = Value.bool b from ru); exact RcNeAt.str_bool k tk b
    | int b => cases (show u = .int b from he); obtain ⟨t, rfl⟩ := (show ∃ t, y = Value.int b t from ru); exact RcNeAt.str_int k tk b t
    | str b => cases (show u = .str b from he); obtain ⟨t, rfl⟩ := (show ∃ t, y = Value.str b t from ru); exact RcNeAt.str_str k tk b t
    | tup es => obtain ⟨a, us, rfl, h, r⟩ := he; cases (show y = Value.ref a from ru); obtain ⟨z, its, r2, p⟩ := tupAt I h; exact RcNeAt.str_tuple k tk p hu'
    | lst es => obtain ⟨a, us, rfl, h, r⟩ := he; cases (show y = Value.ref a from ru); obtain ⟨z, its, n, r2, p⟩ := Rd.listAt I h; exact RcNeAt.str_list k tk ⟨_, p, rfl, _, rfl⟩ hu'
    | _ => exact he.elim
  | tup ds => simp only [D.dep] at hn; omega
  | lst ds => simp only [D.dep] at hn; omega
  | _ => exact hd.elim
theorem rcNeAt_dat (n : Nat) (A : Around) (I : Inv X pins σ H s) (d e : D) (v u : V) (x y : Value) (hn : d.dep ≤ n + 1) (hd : RepD H d v) (he : RepD H e u) (rv : RelV v x) (ru : RelV u y) (hu : A.units + (n + 1) < cLine) : RcNeAt A s x y (!peq d e) := by
    have hu' : A.units < cLine := by omega
    have hu1 : A.in1.units + n < cLine := by show A.units + 1 + n < cLine; omega
    have flat : d.dep ≤ 0 → RcNeAt A s x y (!peq d e) := fun h0 => rcNeAt_flat I d e v u x y h0 hd he rv ru hu'
    cases d with
    | tup ds =>
      obtain ⟨a, vs, rfl, h, r⟩ := hd
      cases (show x = Value.ref a from rv)
      obtain ⟨z, its, r1, p⟩ := tupAt I h
      cases e with
      | non => cases (show u = .non from he); cases (show y = Value.none from ru); exact RcNeAt.tuple_none p hu'
      | bl b => cases (show u = .bl b from he); cases (show y = Value.bool b from ru); exact RcNeAt.tuple_bool b p hu'
      | int b => cases (show u = .int b from he); obtain ⟨t, rfl⟩ := (show ∃ t, y = Value.int b t from ru); exact RcNeAt.tuple_int b t p hu'
      | str b => cases (show u = .str b from he); obtain ⟨t, rfl⟩ := (show ∃ t, y = Value.str b t from ru); exact RcNeAt.tuple_str b t p hu'
      | lst es => obtain ⟨c, us, rfl, h2, r2⟩ := he; cases (show y = Value.ref c from ru); obtain ⟨z2, jts, m, r3, p2⟩ := Rd.listAt I h2; exact RcNeAt.tuple_list p ⟨_, p2, rfl, _, rfl⟩ hu'
      | tup es =>
        obtain ⟨c, us, rfl, h2, r2⟩ := he
        cases (show y = Value.ref c from ru)
        obtain ⟨z2, jts, r3, p2⟩ := tupAt I h2
        · skip
          have hq := RcNeAt.tuples (e := fun j => peq (ds.getD j .non) (es.getD j .non)) p p2 hu' (eq_items r r2 r1 r3 fun d hd e he v u x y h1 h2 h3 h4 => eqAt_dat n A.in1 I d e v u x y (by have := dep_mem hd; simp only [D.dep] at hn; omega) h1 h2 h3 h4 hu1)
          have e1 : its.toArray.size = ds.length := by rw [List.size_toArray, ← r1.length, r.length]
          have e2 : jts.toArray.size = es.length := by rw [List.size_toArray, ← r3.length, r2.length]
          rw [e1, e2, ← peqL_all] at hq
          exact hq
      | _ => exact he.elim
    | lst ds =>
      obtain ⟨a, vs, rfl, h, r⟩ := hd
      cases (show x = Value.ref a from rv)
      obtain ⟨z, its, m0, r1, p⟩ := Rd.listAt I h
      cases e with
      | non => cases (show u = .non from he); cases (show y = Value.none from ru); exact RcNeAt.list_none ⟨_, p, rfl, _, rfl⟩ hu'
      | bl b => cases (show u = .bl b from he); cases (show y = Value.bool b from ru); exact RcNeAt.list_bool b ⟨_, p, rfl, _, rfl⟩ hu'
      | int b => cases (show u = .int b from he); obtain ⟨t, rfl⟩ := (show ∃ t, y = Value.int b t from ru); exact RcNeAt.list_int b t ⟨_, p, rfl, _, rfl⟩ hu'
      | str b => cases (show u = .str b from he); obtain ⟨t, rfl⟩ := (show ∃ t, y = Value.str b t from ru); exact RcNeAt.list_str b t ⟨_, p, rfl, _, rfl⟩ hu'
      | tup es => obtain ⟨c, us, rfl, h2, r2⟩ := he; cases (show y = Value.ref c from ru); obtain ⟨z2, jts, r3, p2⟩ := tupAt I h2; exact RcNeAt.list_tuple ⟨_, p, rfl, _, rfl⟩ p2 hu'
      | lst es =>
        obtain ⟨c, us, rfl, h2, r2⟩ := he
        cases (show y = Value.ref c from ru)
        obtain ⟨z2, jts, m, r3, p2⟩ := Rd.listAt I h2
        · skip
          have e1 : its.toArray.size = ds.length := by rw [List.size_toArray, ← r1.length, r.length]
          have e2 : jts.toArray.size = es.length := by rw [List.size_toArray, ← r3.length, r2.length]
          by_cases hl : ds.length = es.length
          · have hq := RcNeAt.lists (e := fun j => peq (ds.getD j .non) (es.getD j .non)) ⟨_, p, rfl, _, rfl⟩ ⟨_, p2, rfl, _, rfl⟩ (by rw [e1, e2, hl]) hu' (eq_items r r2 r1 r3 fun d hd e he v u x y h1 h2 h3 h4 => eqAt_dat n A.in1 I d e v u x y (by have := dep_mem hd; simp only [D.dep] at hn; omega) h1 h2 h3 h4 hu1)
            have e3 : peq (.lst ds) (.lst es) = (List.range its.toArray.size).all fun j => peq (ds.getD j .non) (es.getD j .non) := by
              show peqL ds es = _
              rw [peqL_all, e1, hl, Nat.min_self]
              simp
            rw [e3]
            exact hq
          · have e3 : peq (.lst ds) (.lst es) = false := by
              show peqL ds es = _
              rw [peqL_all]
              simp [hl]
            rw [e3]
            exact RcNeAt.lists_lengths ⟨_, p, rfl, _, rfl⟩ ⟨_, p2, rfl, _, rfl⟩ (by rw [e1, e2]; simp [hl]) hu'
      | _ => exact he.elim
    | non => exact flat (by simp only [D.dep]; omega)
    | bl _ => exact flat (by simp only [D.dep]; omega)
    | int _ => exact flat (by simp only [D.dep]; omega)
    | str _ => exact flat (by simp only [D.dep]; omega)
    | _ => exact hd.elim
/-! ### in -/
open Classical in
/-- what == says of an item -/
noncomputable def eU (H : Hp) (d : D) (y : Value) : Bool := if h : ∃ d', ∃ v, RepD H d' v ∧ RelV v y then peq h.choose d else false
theorem eU_of {H : Hp} {d d' : D} {v : V} {y : Value} (h : RepD H d' v) (r : RelV v y) : eU H d y = peq d' d := by
  have hx : ∃ d', ∃ v, RepD H d' v ∧ RelV v y := ⟨d', v, h, r⟩
  unfold eU
  rw [dif_pos hx]
  obtain ⟨v2, h2, r2⟩ := hx.choose_spec
  have := r2.inj r
  subst this
  rw [h2.inj h]
theorem any_eU {H : Hp} {d : D} : ∀ {ds : List D} {vs : List V} {us : List Value}, RepDL H ds vs → Vals vs us → us.any (eU H d) = ds.any fun x => peq x d
  | [], vs, us, h, r => by cases (show vs = [] from h); cases r; rfl
  | x :: ds, vs, us, h, r => by
    obtain ⟨v, vr, e, h1, h2⟩ := h
    subst e
    cases r with
    | cons rv rt => rw [List.any_cons, List.any_cons, eU_of h1 rv, any_eU h2 rt]
theorem mem_eU (I : Inv X pins σ H s) {A : Around} {d : D} {v : V} {x : Value} (hd : RepD H d v) (rx : RelV v x) (hu : A.units + 61 < cLine) : ∀ {ds : List D} {vs : List V} {us : List Value}, RepDL H ds vs → depL ds ≤ 60 → Vals vs us → ∀ u ∈ us, EqAt A.in1 s u x (eU H d u)
  | [], vs, us, h, _, r => by cases (show vs = [] from h); cases r; intro u hu; cases hu
  | y :: ds, vs, us, h, hn, r => by
    obtain ⟨w, vr, e, h1, h2⟩ := h
    subst e
    simp only [depL] at hn
    cases r with
    | cons rv rt =>
      intro u hu'
      rcases List.mem_cons.mp hu' with rfl | hu'
      · rw [eU_of h1 rv]
        exact eqAt_dat 60 A.in1 I y d w v u x (by omega) h1 hd rv rx (by show A.units + 1 + 60 < cLine; omega)
      · exact mem_eU I hd rx hu h2 (by omega) rt u hu'
/-! ### < -/
theorem pltL_lex : ∀ {xs ys : List D} {r : Bool}, pltL xs ys = some r → ∀ k : Nat, ∀ e f : Nat → Bool, (∀ j, j < xs.length → j < ys.length → e (k + j) = peq (xs.getD j .non) (ys.getD j .non)) →
    (∀ j, j < xs.length → j < ys.length → e (k + j) = false → plt (xs.getD j .non) (ys.getD j .non) = some (f (k + j))) → Ob.lexAt e f (decide (xs.length < ys.length)) k (min xs.length ys.length) = r
  | [], [], r, h, k, e, f, _, _ => by simp [pltL] at h; subst h; simp [Ob.lexAt]
  | [], _ :: _, r, h, k, e, f, _, _ => by simp [pltL] at h; subst h; simp [Ob.lexAt]
  | _ :: _, [], r, h, k, e, f, _, _ => by simp [pltL] at h; subst h; simp [Ob.lexAt]
  | x :: xs, y :: ys, r, h, k, e, f, he, hf => by
    unfold pltL at h
    dsimp only at h
    cases hr : pltL xs ys with
    | none => rw [hr] at h; cases h
    | some r2 =>
      rw [hr] at h
      dsimp only at h
      have h0 := he 0 (by simp) (by simp)
      simp only [List.getD_cons_zero, Nat.add_zero] at h0
      simp only [List.length_cons, Nat.succ_min_succ]
      rw [show Nat.succ (min xs.length ys.length) = min xs.length ys.length + 1 from rfl, Ob.lexAt_succ]
      by_cases hp : peq x y = true
      · rw [h0, if_pos hp]
        rw [if_pos hp] at h
        cases h
        have ih := pltL_lex hr (k + 1) e f (fun j h1 h2 => by
            have := he (j + 1) (by simpa using h1) (by simpa using h2)
            simp only [List.getD_cons_succ] at this
            rw [← this]; congr 1; omega) (fun j h1 h2 h3 => by
            have := hf (j + 1) (by simpa using h1) (by simpa using h2) (by rw [← h3]; congr 1; omega)
            simp only [List.getD_cons_succ] at this
            rw [this]; congr 2; omega)
        have ed : decide (xs.length + 1 < ys.length + 1) = decide (xs.length < ys.length) := by
          by_cases q : xs.length < ys.length <;> simp [q]
        rw [ed]
        exact ih
      · have hp' : peq x y = false := by simpa using hp
        rw [h0, if_neg hp]
        rw [if_neg hp] at h
        have := hf 0 (by simp) (by simp) (by rw [Nat.add_zero, h0, hp'])
        simp only [List.getD_cons_zero, Nat.add_zero] at this
        rw [h] at this
        exact (Option.some.inj this).symm
theorem pltL_some : ∀ {xs ys : List D} {r : Bool}, pltL xs ys = some r → ∀ j, j < xs.length → j < ys.length → peq (xs.getD j .non) (ys.getD j .non) = false → ∃ q, plt (xs.getD j .non) (ys.getD j .non) = some q
  | [], _, _, _, j, h1, _, _ => by simp at h1
  | _ :: _, [], _, _, j, _, h2, _ => by simp at h2
  | x :: xs, y :: ys, r, h, j, h1, h2, h3 => by
    unfold pltL at h
    dsimp only at h
    cases hr : pltL xs ys with
    | none => rw [hr] at h; cases h
    | some r2 =>
      rw [hr] at h
      dsimp only at h
      cases j with
      | zero =>
        simp only [List.getD_cons_zero] at h3 ⊢
        rw [h3, if_neg Bool.false_ne_true] at h
        exact ⟨r, h⟩
      | succ j =>
        simp only [List.getD_cons_succ] at h3 ⊢
        exact pltL_some hr j (by simpa using h1) (by simpa using h2) h3
theorem lt_items {A : Around} {H : Hp} {ds es : List D} {vs us : List V} {its jts : List Value} (rd : RepDL H ds vs) (re : RepDL H es us) (r1 : Vals vs its) (r2 : Vals us jts)
    (ih : ∀ d ∈ ds, ∀ e ∈ es, ∀ v u x y q, RepD H d v → RepD H e u → RelV v x → RelV u y → plt d e = some q → Ob.RcOp .Lt A.in1 s x y q) :
    ∀ j (h1 : j < its.toArray.size) (h2 : j < jts.toArray.size) q, plt (ds.getD j .non) (es.getD j .non) = some q → Ob.RcOp .Lt A.in1 s its.toArray[j] jts.toArray[j] q := by
  induction ds generalizing es vs us its jts with
  | nil =>
    cases (show vs = [] from rd)
    cases r1
    intro j h1
    exact absurd h1 (by simp)
  | cons d ds ihl =>
    obtain ⟨v, r, q, h1, h2⟩ := rd
    subst q
    cases r1 with
    | @cons _ x _ xs rv rt =>
      cases es with
      | nil =>
        cases (show us = [] from re)
        cases r2
        intro j _ h2
        exact absurd h2 (by simp)
      | cons e es =>
        obtain ⟨u, r', q, h3, h4⟩ := re
        subst q
        cases r2 with
        | @cons _ y _ ys ru rt2 =>
          intro j
          cases j with
          | zero =>
            intro _ _ q hq
            exact ih d List.mem_cons_self e List.mem_cons_self v u x y q h1 h3 rv ru (by simpa using hq)
          | succ j =>
            intro k1 k2 q hq
            have := ihl h2 h4 rt rt2 (fun d hd e he => ih d (List.mem_cons_of_mem _ hd) e (List.mem_cons_of_mem _ he)) j (by simpa using k1) (by simpa using k2) q (by simpa using hq)
            simpa using this
theorem ltAt_dat : ∀ (n : Nat) (A : Around) (I : Inv X pins σ H s) (d e : D) (v u : V) (x y : Value) (q : Bool), d.dep ≤ n → RepD H d v → RepD H e u → RelV v x → RelV u y → A.units + n < cLine → plt d e = some q → Ob.RcOp .Lt A s x y q := by
  intro n
  have flat : ∀ (A : Around) (I : Inv X pins σ H s) (d e : D) (v u : V) (x y : Value) (q : Bool), (∀ xs, d ≠ .tup xs) → RepD H d v → RepD H e u → RelV v x → RelV u y → plt d e = some q → Ob.RcOp .Lt A s x y q := by
    intro A I d e v u x y q hn hd he rv ru hq
    cases d with
    | int i =>
      cases e with
      | int j =>
        cases (show v = .int i from hd)
        cases (show u = .int j from he)
        obtain ⟨t, rfl⟩ := (show ∃ t, x = Value.int i t from rv)
        obtain ⟨t', rfl⟩ := (show ∃ t, y = Value.int j t from ru)
        cases hq
        exact Ob.RcOp.lt_int i j t t'
      | _ => cases hq
    | str i =>
      cases e with
      | str j =>
        cases (show v = .str i from hd)
        cases (show u = .str j from he)
        obtain ⟨t, rfl⟩ := (show ∃ t, x = Value.str i t from rv)
        obtain ⟨t', rfl⟩ := (show ∃ t, y = Value.str j t from ru)
        cases hq
        exact fun _ _ _ _ h => PyProof.Rows.lt_str h
      | _ => cases hq
    | tup xs => exact absurd rfl (hn xs)
    | _ => cases hq
  induction n with
  | zero =>
    intro A I d e v u x y q hn hd he rv ru hu hq
    exact flat A I d e v u x y q (fun xs z => by subst z; simp only [D.dep] at hn; omega) hd he rv ru hq
  | succ n ih =>
    intro A I d e v u x y q hn hd he rv ru hu hq
    by_cases ht : ∃ xs, d = .tup xs
    · obtain ⟨ds, rfl⟩ := ht
      cases e with
      | tup es =>
        obtain ⟨a, vs, rfl, h, r⟩ := hd
        obtain ⟨c, us, rfl, h2, r2⟩ := he
        cases (show x = Value.ref a from rv)
        cases (show y = Value.ref c from ru)
        obtain ⟨z, its, r1, p⟩ := tupAt I h
        obtain ⟨z2, jts, r3, p2⟩ := tupAt I h2
        have hu1 : A.in1.units + n < cLine := by show A.units + 1 + n < cLine; omega
        have hn' : depL ds ≤ n := by simp only [D.dep] at hn; omega
        have hq' : pltL ds es = some q := hq
        have e1 : its.toArray.size = ds.length := by rw [List.size_toArray, ← r1.length, r.length]
        have e2 : jts.toArray.size = es.length := by rw [List.size_toArray, ← r3.length, r2.length]
        have R := Ob.RcOp.tuples_lt (e := fun j => peq (ds.getD j .non) (es.getD j .non)) (r := fun j => (plt (ds.getD j .non) (es.getD j .non)).getD false) p p2 (by omega)
          (eq_items r r2 r1 r3 fun d hd e he v u x y h1 h2 h3 h4 => eqAt_dat n A.in1 I d e v u x y (by have := dep_mem hd; omega) h1 h2 h3 h4 hu1)
          (fun j j1 j2 hf => by
            obtain ⟨k, hk⟩ := pltL_some hq' j (by rw [← e1]; exact j1) (by rw [← e2]; exact j2) hf
            rw [hk]
            exact lt_items r r2 r1 r3 (fun d hd e he v u x y q h1 h2 h3 h4 h5 => ih A.in1 I d e v u x y q (by have := dep_mem hd; omega) h1 h2 h3 h4 hu1 h5) j j1 j2 k hk)
        rw [e1, e2, pltL_lex hq' 0 _ _ (fun j _ _ => by rw [Nat.zero_add]) (fun j h1 h2 h3 => by
          rw [Nat.zero_add] at h3 ⊢
          obtain ⟨k, hk⟩ := pltL_some hq' j h1 h2 h3
          rw [hk]; rfl)] at R
        exact R
      | _ => cases hq
    · exact flat A I d e v u x y q (fun xs z => ht ⟨xs, z⟩) hd he rv ru hq
end
end Dee

namespace Dee
open PySem PySem.Spec PyProof.Rows L2
section
variable {X : Cx}
/-! ### lists joined, repeated -/
def rCatL : R2 := fun x y H Q => ∃ l b xs zs, x = .ref l ∧ y = .ref b ∧ Rd H l (.lst xs) ∧ Rd H b (.lst zs) ∧ xs.length + zs.length ≤ sizeLine ∧ ∀ p, H p = none → Q (.ref p) (upd H p (.lst (xs ++ zs)))
theorem op_catL : OpR X (binaryOp .Add) rCatL := by
  intro pins s σ H x y v u Q I rx ry h
  obtain ⟨l, b, xs, zs, rfl, rfl, hH, hB, hz, q⟩ := h
  cases rx
  cases ry
  obtain ⟨z, its, n, r, e⟩ := Rd.listAt I hH
  obtain ⟨z2, its2, n2, r2, e2⟩ := Rd.listAt I hB
  have hl := r.length
  have hl2 := r2.length
  refine PySem.P.add_list e e2 ?_ (by rw [List.size_toArray, List.size_toArray]; omega)
  have ea : its.toArray ++ its2.toArray = (its ++ its2).toArray := by simp
  rw [ea]
  exact ⟨.ref _, _, I.lnew (t' := s.toks) (r.append r2) (by rw [List.length_append]; omega), rfl, q _ I.fresh⟩
def rRepL : R2 := fun x y H Q => ∃ l k xs, x = .ref l ∧ y = .int k ∧ Rd H l (.lst xs) ∧ -(2 ^ 63) ≤ k ∧ k < 2 ^ 63 ∧ xs.length * k.toNat ≤ sizeLine ∧
  ∀ p, H p = none → Q (.ref p) (upd H p (.lst (List.replicate k.toNat xs).flatten))
theorem op_repL : OpR X (binaryOp .Mult) rRepL := by
  intro pins s σ H x y v u Q I rx ry h
  obtain ⟨l, k, xs, rfl, rfl, hH, h1, h2, hz, q⟩ := h
  cases rx
  obtain ⟨t, rfl⟩ := ry
  obtain ⟨z, its, n, r, e⟩ := Rd.listAt I hH
  have hl := r.length
  have hlen : its.toArray.size * k.toNat ≤ sizeLine := by rw [List.size_toArray, ← hl]; exact hz
  have hcap : ¬ its.toArray.size * k.toNat > (2 ^ 63 - 1) / 8 := by
    have : (sizeLine : Nat) ≤ (2 ^ 63 - 1) / 8 := by decide
    omega
  have hfit : ¬ (!Builtin.List.listFitsIndex k) = true := by
    rw [fitsIndex_both h1 h2]
    exact Bool.false_ne_true
  have hlong : ¬ Builtin.List.listTooLong (its.toArray.size * k.toNat) = true := by
    rw [notLongL hlen]
    exact Bool.false_ne_true
  have hnew : List.foldl (fun x1 x2 => x1 ++ x2) #[] (List.replicate (if its.toArray.isEmpty = true then 0 else k.toNat) its.toArray) = (List.replicate k.toNat its).flatten.toArray := by
    have f0 : ∀ m : Nat, List.foldl (fun x1 x2 => x1 ++ x2) #[] (List.replicate m its.toArray) = (List.replicate m its).flatten.toArray := fun m => by
      have := foldl_rep its m []
      rw [List.nil_append] at this
      exact this
    rw [f0]
    cases its with
    | nil => simp
    | cons a r' => rw [if_neg (by simp)]
  refine wpAny_binaryOp_repeat_ref (T := "list") (U := "int") (by decide) ⟨_, e, rfl⟩ (fun s' => typeIs_int s' k t) noFill_list_mul F.fills_int_mul F.slot_int_rmul repeat_list F.slot_int_index.lookup
    (call_meets F.slot_int_rmul (typeIs_int s k t) F.entry_int_rmul (F.args_int_rmul_2 _ _) (int___rmul___int_list k t l its.toArray n)
      ⟨e, rfl, ⟨_, e, rfl⟩, call_meets F.slot_list_mul ⟨_, e, rfl⟩ F.entry_list_mul (F.args_list_mul_2 _ _) (AutoListH.list___mul___list_int_3 l its.toArray n k t hfit hcap hlong) ⟨e, ?_⟩⟩)
  rw [hnew]
  exact ⟨.ref _, _, I.lnew (t' := s.toks) (r.rep k.toNat) (by rw [PyProof.Rows.lm_len_rep_flat, Nat.mul_comm]; exact hz), rfl, q _ I.fresh⟩
open AutoSeq1 in
theorem list_extend_tup (l : Addr) (items : Array Value) (n : Nat) (b : Addr) (items2 : Array Value) (n2 : Nat) (dd : Option Addr) (sl : Array (Option Value)) (hs0 : ¬(!items.isEmpty && Builtin.List.listTooLong (items.size + items2.size)) = true) (hs1 : items.size ≤ sizeLine) (hs2 : items.size + items2.size ≤ sizeLine + 1) :
    Meets (Builtin.«list.extend» ⟨[.ref l, .ref b], []⟩) (fun _ R s => s.heap.get? l = some { cls := .type "list", dict := none, data := .seq items n, slots := #[] } ∧ s.heap.get? b = some { cls := .type "tuple", dict := dd, data := .seq items2 n2, slots := sl } ∧ R (.ok (.ret Value.none)) { s with heap := s.heap.update l (Obj.mapSeq fun x => x ++ items2), toks := s.toks }) :=
  .of_wp fun prog w A R s h => by
    obtain ⟨hp, g, d, tk, os⟩ := s; obtain ⟨hl, hb, h⟩ := h; have f1 := idx_int; have f2 := AutoSeq1.sub_tuple_tuple; have f3 := AutoSeq1.sub_list_list; have f4 := AutoSeq1.sub_tuple_list; have f5 := AutoSeq1.sub_list_tuple;
    have hz' : (items ++ items2).size ≤ sizeLine + 1 := by rw [Array.size_append]; exact hs2
    wp_walk using (wpAny_updateSeq hl rfl (hz := hs1) (_hz' := hz')), wpAny_loadPart' hl, wpAny_loadPart' hb; exact ⟨_, rfl, h⟩
/-- xs.extend(ys), ys a list or a tuple -/
def rExtL (K : PySem.W.Frag) : V → List V → Hp → VK → Prop := fun x vs H Q => ∃ l b xs zs, x = .ref l ∧ vs = [.ref b] ∧ H l = some (.lst xs) ∧ (Rd H b (.lst zs) ∨ Rd H b (.tup zs)) ∧ xs.length + zs.length ≤ sizeLine ∧ Q .non (upd H l (.lst (xs ++ zs)))
theorem mt_extL : MtR X "list.extend" (rExtL X.K) := by
  intro pins s σ H x vs v us Q I rx rv h
  obtain ⟨l, b, xs, zs, rfl, rfl, hH, hB, hz, q⟩ := h
  cases rx
  obtain ⟨u, rfl, ru⟩ := rv.one
  cases ru
  obtain ⟨z, its, n, r, hl, e⟩ := I.lstM hH
  rcases hB with hB | hB
  · obtain ⟨z2, its2, n2, r2, e2⟩ := Rd.listAt I hB
    have hl2 := r2.length
    have hsz : its.toArray.size + its2.toArray.size ≤ sizeLine := by rw [List.size_toArray, List.size_toArray]; omega
    have hlong : ¬ (!its.toArray.isEmpty && Builtin.List.listTooLong (its.toArray.size + its2.toArray.size)) = true := by
      rw [notLongL hsz, Bool.and_false]
      exact Bool.false_ne_true
    refine call_meets F.slot_list_extend ⟨_, e, rfl⟩ F.entry_list_extend (F.args_list_extend_2 _ _)
      (AutoSeq1.list_extend_list_list_0 l its.toArray n b its2.toArray n2 hlong (by rw [List.size_toArray]; omega) (by omega)) ⟨e, e2, ?_⟩
    refine ⟨.non, _, I.lset (its' := its ++ its2) hH e (by simp) (r.append r2) ?_, rfl, q⟩
    rw [List.length_append]
    omega
  · obtain ⟨z2, its2, r2, ⟨⟨cls, dd, data, sl⟩, e2, hc, n2, hd⟩⟩ := tupAt I hB
    simp only at hc hd
    subst hc hd
    have hl2 := r2.length
    have hsz : its.toArray.size + its2.toArray.size ≤ sizeLine := by rw [List.size_toArray, List.size_toArray]; omega
    have hlong : ¬ (!its.toArray.isEmpty && Builtin.List.listTooLong (its.toArray.size + its2.toArray.size)) = true := by
      rw [notLongL hsz, Bool.and_false]
      exact Bool.false_ne_true
    refine call_meets F.slot_list_extend ⟨_, e, rfl⟩ F.entry_list_extend (F.args_list_extend_2 _ _)
      (list_extend_tup l its.toArray n b its2.toArray n2 dd sl hlong (by rw [List.size_toArray]; omega) (by omega)) ⟨e, e2, ?_⟩
    refine ⟨.non, _, I.lset (its' := its ++ its2) hH e (by simp) (r.append r2) ?_, rfl, q⟩
    rw [List.length_append]
    omega
end
end Dee

set_option Elab.async false
set_option linter.all false
set_option autoImplicit false
set_option maxRecDepth 100000
set_option maxHeartbeats 1000000
/-! Dee: the operations by values are the model's. -/
namespace Dee
open PySem PySem.Spec PyProof.Rows L2
theorem ob_some {α : Type} {o : Option α} {f : α → Prop} (h : ob o f) : ∃ a, o = some a ∧ f a := by
  cases o with
  | none => exact h.elim
  | some a => exact ⟨a, rfl, h⟩
theorem onI_int {d : D} {f : Int → Prop} (h : onI d f) : ∃ i, d = .int i ∧ f i := by cases d <;> first | exact ⟨_, rfl, h⟩ | exact h.elim
theorem onS_str {d : D} {f : Str → Prop} (h : onS d f) : ∃ i, d = .str i ∧ f i := by cases d <;> first | exact ⟨_, rfl, h⟩ | exact h.elim
theorem onR_ref {d : D} {f : Nat → Prop} (h : onR d f) : ∃ i, d = .ref i ∧ f i := by cases d <;> first | exact ⟨_, rfl, h⟩ | exact h.elim
theorem on1_one {ds : List D} {f : D → Prop} (h : on1 ds f) : ∃ d, ds = [d] ∧ f d := by
  match ds, h with
  | [d], h => exact ⟨d, rfl, h⟩
  | [], h => exact h.elim
  | _ :: _ :: _, h => exact h.elim
theorem on2_two {ds : List D} {f : D → D → Prop} (h : on2 ds f) : ∃ d e, ds = [d, e] ∧ f d e := by
  match ds, h with
  | [d, e], h => exact ⟨d, e, rfl, h⟩
  | [], h => exact h.elim
  | [_], h => exact h.elim
  | _ :: _ :: _ :: _, h => exact h.elim
theorem asB_bl {Q : Bool → Mem → Prop} {d : D} {M : Mem} (h : asB Q d M) : ∃ b, d = .bl b ∧ Q b M := by cases d <;> first | exact ⟨_, rfl, h⟩ | exact h.elim
theorem line_eq : line = sizeLine := by rw [sizeLine_eq]; rfl
theorem repL1 {mg : Gm} {M : Mem} {H : Hp} {d : D} {vs : List V} (h : RepL mg M H [d] vs) : ∃ v, vs = [v] ∧ Rep mg M H d v := by
  obtain ⟨v, r, e, h, hr⟩ := h
  cases (show r = [] from hr)
  exact ⟨v, e, h⟩
theorem repL2 {mg : Gm} {M : Mem} {H : Hp} {d e : D} {vs : List V} (h : RepL mg M H [d, e] vs) : ∃ v u, vs = [v, u] ∧ Rep mg M H d v ∧ Rep mg M H e u := by
  obtain ⟨v, r, q, h, hr⟩ := h
  obtain ⟨u, rfl, h2⟩ := repL1 hr
  exact ⟨v, u, q, h, h2⟩

/-! ### dicts -/
section
variable {mg : Gm} {M : Mem} {H : Hp}
theorem repK_key {k : D} {v : V} (hk : isKey false k = true) (r : Rep mg M H k v) : ∃ j : Key, v = kV j ∧ k = keyD j := by
  cases k with
  | int i => cases (show v = _ from r); exact ⟨.inl i, rfl, rfl⟩
  | str i => cases (show v = _ from r); exact ⟨.inr i, rfl, rfl⟩
  | _ => simp [isKey] at hk
theorem keyD_inj : ∀ {a b : Key}, keyD a = keyD b → a = b
  | .inl _, .inl _, h => by cases h; rfl
  | .inr _, .inr _, h => by cases h; rfl
  | .inl _, .inr _, h => by cases h
  | .inr _, .inl _, h => by cases h
theorem keyDs_inj : ∀ {a b : List Key}, a.map keyD = b.map keyD → a = b
  | [], [], _ => rfl
  | x :: a, y :: b, h => by
    simp only [List.map_cons, List.cons.injEq] at h
    rw [keyD_inj h.1, keyDs_inj h.2]
  | [], _ :: _, h => by cases h
  | _ :: _, [], h => by cases h
theorem look_cons {k' d k : D} {kvs : List (D × D)} : look ((k', d) :: kvs) k = if k' = k then some d else look kvs k := by
  by_cases h : k' = k <;> simp [look, List.find?_cons, h]
theorem valV_cons {κ : Type} [DecidableEq κ] {j' j : κ} {v : V} {ws : List (κ × V)} : valV ((j', v) :: ws) j = if j' = j then some v else valV ws j := by
  by_cases h : j' = j <;> simp [valV, List.find?_cons, h]
theorem repK_look {j : Key} : ∀ {kvs : List (D × D)} {ws : List (Key × V)}, RepK mg M H kvs ws →
    (∀ x, look kvs (keyD j) = some x → ∃ v, valV ws j = some v ∧ Rep mg M H x v) ∧ (look kvs (keyD j) = none → valV ws j = none)
  | [], ws, h => by
    cases (show ws = [] from h)
    exact ⟨fun x e => by simp [look] at e, fun _ => rfl⟩
  | (k', d) :: kvs, ws, h => by
    obtain ⟨j', v, r, e, hk, hd, hr⟩ := h
    subst e hk
    have ih := repK_look (j := j) hr
    rw [look_cons, valV_cons]
    by_cases h2 : j' = j
    · subst h2
      rw [if_pos rfl, if_pos rfl]
      exact ⟨fun x q => by cases q; exact ⟨v, rfl, hd⟩, fun q => by cases q⟩
    · rw [if_neg h2, if_neg (fun z => h2 (keyD_inj z))]
      exact ih
theorem repT_keys : ∀ {xs : List D} {vs : List V}, xs.all flatK = true → RepL mg M H xs vs → ∃ j : List Key, vs = j.map kV ∧ xs = j.map keyD
  | [], vs, _, h => by cases (show vs = [] from h); exact ⟨[], rfl, rfl⟩
  | x :: xs, vs, hk, h => by
    obtain ⟨v, r, e, hx, hr⟩ := h
    subst e
    simp only [List.all_cons, Bool.and_eq_true] at hk
    obtain ⟨j, e1, e2⟩ := repT_keys hk.2 hr
    cases x with
    | int i => cases (show v = _ from hx); exact ⟨.inl i :: j, by simp [e1, kV], by simp [e2, keyD]⟩
    | str i => cases (show v = _ from hx); exact ⟨.inr i :: j, by simp [e1, kV], by simp [e2, keyD]⟩
    | _ => simp [flatK] at hk
theorem repT_key {k : D} {v : V} (hk : isKey true k = true) (r : Rep mg M H k v) : ∃ (j : List Key) (b : Addr), v = .ref b ∧ H b = some (.tup (j.map kV)) ∧ k = .tup (j.map keyD) := by
  cases k with
  | tup xs =>
    obtain ⟨a, vs, e, n, h, r⟩ := r
    obtain ⟨j, e1, e2⟩ := repT_keys (by simpa only [isKey, Bool.true_and] using hk) r
    refine ⟨j, a, e, ?_, by rw [e2]⟩
    rcases h with h | ⟨h, _⟩
    · rw [← e1]; exact h
    · have hk : xs.all flatK = true := by simpa only [isKey, Bool.true_and] using hk
      rw [hk] at h; cases h
  | _ => simp [isKey] at hk
theorem repT_look {j : List Key} : ∀ {kvs : List (D × D)} {ws : List (List Key × V)}, RepT mg M H kvs ws →
    (∀ x, look kvs (.tup (j.map keyD)) = some x → ∃ v, valV ws j = some v ∧ Rep mg M H x v) ∧ (look kvs (.tup (j.map keyD)) = none → valV ws j = none)
  | [], ws, h => by
    cases (show ws = [] from h)
    exact ⟨fun x e => by simp [look] at e, fun _ => rfl⟩
  | (k', d) :: kvs, ws, h => by
    obtain ⟨j', v, r, e, hk, hd, hr⟩ := h
    subst e hk
    have ih := repT_look (j := j) hr
    rw [look_cons, valV_cons]
    by_cases h2 : j' = j
    · subst h2
      rw [if_pos rfl, if_pos rfl]
      exact ⟨fun x q => by cases q; exact ⟨v, rfl, hd⟩, fun q => by cases q⟩
    · rw [if_neg h2, if_neg (fun z => h2 (keyDs_inj (by injection z)))]
      exact ih
/-- what a dict holds at a key -/
theorem dget_of (m : MRep mg M H) {o k : D} {x y : V} {p : Bool × List (D × D)} (ro : Rep mg M H o x) (rk : Rep mg M H k y) (e : dctM M o = some p) (hk : isKey p.1 k = true) :
    ∃ a r, x = .ref a ∧ DGet H a y r ∧ (∀ z, look p.2 k = some z → ∃ v, r = some v ∧ Rep mg M H z v) ∧ (look p.2 k = none → r = none) := by
  obtain ⟨t, kvs⟩ := p
  obtain ⟨a, ex, h⟩ := dct_of m ro e
  rcases h with ⟨et, ws, h, hr⟩ | ⟨et, ws, h, hr⟩
  · have et' : t = false := et
    subst et'
    obtain ⟨j, ey, hj⟩ := repK_key hk rk
    subst hj
    obtain ⟨l1, l2⟩ := repK_look (j := j) hr
    exact ⟨a, _, ex, .inl ⟨ws, j, h, ey, rfl⟩, l1, l2⟩
  · have et' : t = true := et
    subst et'
    obtain ⟨j, b, ey, hb, ek⟩ := repT_key hk rk
    subst ek
    obtain ⟨l1, l2⟩ := repT_look (j := j) hr
    exact ⟨a, _, ex, .inr ⟨ws, j, b, h, ey, hb, rfl⟩, l1, l2⟩
end

section
variable {X : Cx} {c : LC}
/-! ### arithmetic -/
def opOf : Bop → Operator | .add => .Add | .sub => .Sub | .mul => .Mult | .fdiv => .FloorDiv | .mod => .Mod | .pow => .Pow
def rBin (c : LC) (o : Bop) : R2 := fun x y H Q => ∃ d e M Q', MRep c.mg M H ∧ Rep c.mg M H d x ∧ Rep c.mg M H e y ∧ binop o d e M Q' ∧ Goes c M H Q' Q
theorem add_cases {a b : D} {M : Mem} {Q : K} (h : binop .add a b M Q) : (∃ i j, a = .int i ∧ b = .int j ∧ Q (.int (i + j)) M) ∨ (∃ s t, a = .str s ∧ b = .str t ∧ s.length + t.length ≤ line ∧ Q (.str (s ++ t)) M) ∨
    (∃ xs ys, a = .tup xs ∧ b = .tup ys ∧ xs.length + ys.length ≤ line ∧ Q (.tup (xs ++ ys)) M) ∨ catop a b M Q := by
  cases a <;> cases b <;> first
    | exact .inl ⟨_, _, rfl, rfl, h⟩
    | exact .inr (.inl ⟨_, _, rfl, rfl, h⟩)
    | exact .inr (.inr (.inl ⟨_, _, rfl, rfl, h⟩))
    | exact .inr (.inr (.inr h))
theorem mul_cases {a b : D} {M : Mem} {Q : K} (h : binop .mul a b M Q) : (∃ i j, a = .int i ∧ b = .int j ∧ (i.natAbs < 2 ^ 100000 ∧ j.natAbs < 2 ^ 100000) ∧ Q (.int (i * j)) M) ∨
    (∃ xs j, a = .lst xs ∧ b = .int j ∧ (0 ≤ j ∧ j ≤ line ∧ xs.length * j.toNat ≤ line) ∧ Q (.lst (List.replicate j.toNat xs).flatten) M) := by
  cases a with
  | lst xs => obtain ⟨j, rfl, h⟩ := onI_int h; exact .inr ⟨_, _, rfl, rfl, h⟩
  | int i =>
    obtain ⟨j, rfl, h⟩ := onI_int h
    exact .inl ⟨_, _, rfl, rfl, h⟩
  | _ => exact h.elim
theorem op_bin (o : Bop) : OpR X (binaryOp (opOf o)) (rBin c o) := by
  intro pins s σ H x y v u Q I rx ry h
  obtain ⟨d, e, M, Q', m, rd, re, w, g⟩ := h
  cases o with
  | add =>
    rcases add_cases w with ⟨i, j, rfl, rfl, q⟩ | ⟨i, j, rfl, rfl, hl, q⟩ | ⟨xs, ys, rfl, rfl, hl, q⟩ | ⟨⟨t1, t2⟩, w⟩
    · exact op_add pins s σ H x y v u Q I rx ry ⟨i, j, rd, re, g.now m q rfl⟩
    · exact op_add_str pins s σ H x y v u Q I rx ry ⟨i, j, rd, re, by rw [← line_eq]; exact hl, g.now m q rfl⟩
    · obtain ⟨a, vs, ea, na, ha, ra⟩ := id rd
      obtain ⟨b, us, eb, nb, hb, rb⟩ := id re
      have l1 := ra.length
      have l2 := rb.length
      refine op_catA pins s σ H x y v u Q I rx ry ⟨a, b, vs, us, ea, eb, (.inl ha.rd), (.inl hb.rd), by rw [← line_eq, ← l1, ← l2]; exact hl, fun ez => ?_, fun n1 ez => ?_, fun n1 n2 p hp => ?_⟩
      · subst ez
        have : xs = [] := List.eq_nil_of_length_eq_zero (by simpa using l1)
        subst this
        exact g.now m q (by rw [List.nil_append, ← eb]; exact re)
      · subst ez
        have : ys = [] := List.eq_nil_of_length_eq_zero (by simpa using l2)
        subst this
        exact g.now m q (by rw [List.append_nil, ← ea]; exact rd)
      · exact g.tup m q (ra.append rb) hp
    · obtain ⟨xs, ex, w⟩ := ob_some w
      obtain ⟨ys, ey, hl, q⟩ := ob_some w
      obtain ⟨a, vs, ea, ra, ha⟩ := seq_of m rd ex
      obtain ⟨b, us, eb, rb, hb⟩ := seq_of m re ey
      have ha : Rd H a (.lst vs) := by rcases ha with ⟨z, _⟩ | ⟨_, z⟩; rw [t1] at z; cases z; exact z
      have hb : Rd H b (.lst us) := by rcases hb with ⟨z, _⟩ | ⟨_, z⟩; rw [t2] at z; cases z; exact z
      exact op_catL pins s σ H x y v u Q I rx ry ⟨a, b, vs, us, ea, eb, ha, hb, by rw [← line_eq, ← ra.length, ← rb.length]; exact hl, fun p hp => g.lst m q (ra.append rb) hp⟩
  | sub =>
    obtain ⟨i, rfl, w⟩ := onI_int w
    obtain ⟨j, rfl, q⟩ := onI_int w
    exact op_sub pins s σ H x y v u Q I rx ry ⟨i, j, rd, re, g.now m q rfl⟩
  | mul =>
    rcases mul_cases w with ⟨i, j, rfl, rfl, hl, q⟩ | ⟨xs, j, rfl, rfl, hl, q⟩
    · exact op_mulW pins s σ H x y v u Q I rx ry ⟨i, j, rd, re, wide_mul hl.1 hl.2 (by omega) (by omega) (by omega), g.now m q rfl⟩
    · obtain ⟨a, vs, ea, na, ha, ra⟩ := rd
      obtain ⟨h0, h1, hl2⟩ := hl
      rw [line_eq, ra.length] at hl2
      have hz : (line : Int) < 2 ^ 63 := by unfold line; omega
      exact op_repL pins s σ H x y v u Q I rx ry ⟨a, j, vs, ea, re, ha, by omega, by omega, hl2, fun p hp => g.lst m q (ra.flat _) hp⟩
  | fdiv =>
    obtain ⟨i, rfl, w⟩ := onI_int w
    obtain ⟨j, rfl, hl, q⟩ := onI_int w
    exact op_fdiv pins s σ H x y v u Q I rx ry ⟨i, j, rd, re, hl, g.now m q rfl⟩
  | mod =>
    obtain ⟨i, rfl, w⟩ := onI_int w
    obtain ⟨j, rfl, hl, q⟩ := onI_int w
    exact op_mod pins s σ H x y v u Q I rx ry ⟨i, j, rd, re, hl, g.now m q rfl⟩
  | pow =>
    obtain ⟨i, rfl, w⟩ := onI_int w
    obtain ⟨j, rfl, hl, q⟩ := onI_int w
    exact op_pow pins s σ H x y v u Q I rx ry ⟨i, j, rd, re, ⟨hl.1, by omega, hl.2.2⟩, g.now m q rfl⟩

/-! ### comparisons -/
def copOf : Cop → CmpOp | .eq => .Eq | .ne => .NotEq | .lt => .Lt | .le => .LtE | .gt => .Gt | .ge => .GtE | .isin => .In | .notin => .NotIn
def rCmp (c : LC) (o : Cop) : R2 := fun x y H Q => ∃ d e M Q', MRep c.mg M H ∧ Rep c.mg M H d x ∧ Rep c.mg M H e y ∧ cmpop o d e M (fun r => Q' (.bl r) M) ∧ Goes c M H Q' Q
theorem onC_one {d : D} {f : Nat → Prop} (h : onC d f) : ∃ k : Nat, d = .str ⟨#[k]⟩ ∧ f k := by
  cases d with
  | str t =>
    obtain ⟨⟨l⟩⟩ := t
    match l, h with
    | [k], h => exact ⟨k, rfl, h⟩
  | _ => exact h.elim
theorem in_cases {a b : D} {M : Mem} {Q : Bool → Prop} (h : inop a b M Q) : (∃ s, b = .str s ∧ onC a fun c => Q (decide (c ∈ s.cps.toList))) ∨
    (∃ p, dctM M b = some p ∧ isKey p.1 a = true ∧ Q (look p.2 a).isSome) ∨ (∃ xs, seqM M b = some xs ∧ (a.dep ≤ 60 ∧ depL xs ≤ 60) ∧ Q (xs.any fun x => peq x a)) := by
  cases b with
  | str s => exact .inl ⟨s, rfl, h⟩
  | _ =>
    unfold inop at h
    dsimp only at h
    split at h
    · rename_i p e
      exact .inr (.inl ⟨p, e, h⟩)
    · obtain ⟨xs, e, q⟩ := ob_some h
      exact .inr (.inr ⟨xs, e, q⟩)
theorem op_cmp (o : Cop) (hu : X.A.units + 64 < cLine) : OpR X (compareOp (copOf o)) (rCmp c o) := by
  intro pins s σ H x y v u Q I rx ry h
  obtain ⟨d, e, M, Q', m, rd, re, w, g⟩ := h
  have fin : ∀ {k : Bool}, Q' (.bl k) M → EP X pins σ Q (.bool k) s := fun {k} q => ⟨.bl k, H, I, rfl, g.now m q rfl⟩
  cases o with
  | eq =>
    obtain ⟨⟨h1, h2⟩, q⟩ := w
    exact rcAt_dat 60 X.A I _ _ x y v u (by omega) (rd.ice m h1) (re.ice m h2) rx ry (by omega) X.prog X.w X.xe _ (fin q)
  | ne =>
    obtain ⟨⟨h1, h2⟩, q⟩ := w
    exact rcNeAt_dat 60 X.A I _ _ x y v u (by omega) (rd.ice m h1) (re.ice m h2) rx ry (by omega) X.prog X.w X.xe _ (fin q)
  | lt =>
    obtain ⟨⟨h1, h2⟩, w⟩ := w
    obtain ⟨r, hr, q⟩ := ob_some w
    exact ltAt_dat 60 X.A I _ _ x y v u r h1 (rd.dat h1) (re.dat h2) rx ry (by omega) hr X.prog X.w X.xe _ (fin q)
  | le =>
    obtain ⟨i, rfl, w⟩ := onI_int w
    obtain ⟨j, rfl, q⟩ := onI_int w
    exact op_le pins s σ H x y v u Q I rx ry ⟨i, j, rd, re, g.now m q rfl⟩
  | gt =>
    obtain ⟨i, rfl, w⟩ := onI_int w
    obtain ⟨j, rfl, q⟩ := onI_int w
    exact op_gt pins s σ H x y v u Q I rx ry ⟨i, j, rd, re, g.now m q rfl⟩
  | ge =>
    obtain ⟨i, rfl, w⟩ := onI_int w
    obtain ⟨j, rfl, q⟩ := onI_int w
    exact op_ge pins s σ H x y v u Q I rx ry ⟨i, j, rd, re, g.now m q rfl⟩
  | isin =>
    rcases in_cases (show inop d e M (fun r => Q' (.bl r) M) from w) with ⟨z, rfl, w⟩ | ⟨p, e1, hk, q⟩ | ⟨xs, e1, ⟨h1, h2⟩, q⟩
    · obtain ⟨k, rfl, q⟩ := onC_one w
      exact op_in_sign pins s σ H x y v u Q I rx ry ⟨k, z, rd, re, g.now m q rfl⟩
    · obtain ⟨a, r, rfl, dg, l1, l2⟩ := dget_of m re rd e1 hk
      cases (show u = Value.ref a from ry)
      refine d_in (by omega) I dg rx fun s' J => ⟨.bl r.isSome, H, J, rfl, ?_⟩
      cases hl : look p.2 d with
      | none => rw [l2 hl]; rw [hl] at q; exact g.now m q rfl
      | some z => obtain ⟨w, e, _⟩ := l1 z hl; rw [e]; rw [hl] at q; exact g.now m q rfl
    · obtain ⟨a, vs, rfl, rs, hs⟩ := seq_of m re e1
      cases (show u = Value.ref a from ry)
      rcases hs with ⟨_, hs⟩ | ⟨_, hs⟩
      · obtain ⟨_, its, r1, p⟩ := tupAt I hs
        refine SeqAt.in_tupleAt (eU H d) p (fun w hw => mem_eU I (rd.dat h1) rx (by omega) (rs.dat h2) h2 r1 w (by simpa using hw)) ?_
        rw [show its.toArray.any (eU H d) = its.any (eU H d) by simp, any_eU (rs.dat h2) r1]
        exact fin q
      · obtain ⟨_, its, n, r1, p⟩ := Rd.listAt I hs
        refine SeqAt.in_listAt (eU H d) ⟨_, p, rfl, _, rfl⟩ (fun w hw => mem_eU I (rd.dat h1) rx (by omega) (rs.dat h2) h2 r1 w (by simpa using hw)) ?_
        rw [show its.toArray.any (eU H d) = its.any (eU H d) by simp, any_eU (rs.dat h2) r1]
        exact fin q
  | notin =>
    rcases in_cases (show inop d e M (fun r => Q' (.bl (!r)) M) from w) with ⟨z, rfl, w⟩ | ⟨p, e1, hk, q⟩ | ⟨xs, e1, ⟨h1, h2⟩, q⟩
    · obtain ⟨k, rfl, q⟩ := onC_one w
      exact op_notIn_sign pins s σ H x y v u Q I rx ry ⟨k, z, rd, re, g.now m q rfl⟩
    · obtain ⟨a, r, rfl, dg, l1, l2⟩ := dget_of m re rd e1 hk
      cases (show u = Value.ref a from ry)
      refine d_notIn (by omega) I dg rx fun s' J => ⟨.bl (!r.isSome), H, J, rfl, ?_⟩
      cases hl : look p.2 d with
      | none => rw [l2 hl]; rw [hl] at q; exact g.now m q rfl
      | some z => obtain ⟨w, e, _⟩ := l1 z hl; rw [e]; rw [hl] at q; exact g.now m q rfl
    · obtain ⟨a, vs, rfl, rs, hs⟩ := seq_of m re e1
      cases (show u = Value.ref a from ry)
      rcases hs with ⟨_, hs⟩ | ⟨_, hs⟩
      · obtain ⟨_, its, r1, p⟩ := tupAt I hs
        refine SeqAt.notIn_tupleAt (eU H d) p (fun w hw => mem_eU I (rd.dat h1) rx (by omega) (rs.dat h2) h2 r1 w (by simpa using hw)) ?_
        rw [show its.toArray.any (eU H d) = its.any (eU H d) by simp, any_eU (rs.dat h2) r1]
        exact fin q
      · obtain ⟨_, its, n, r1, p⟩ := Rd.listAt I hs
        refine SeqAt.notIn_listAt (eU H d) ⟨_, p, rfl, _, rfl⟩ (fun w hw => mem_eU I (rd.dat h1) rx (by omega) (rs.dat h2) h2 r1 w (by simpa using hw)) ?_
        rw [show its.toArray.any (eU H d) = its.any (eU H d) by simp, any_eU (rs.dat h2) r1]
        exact fin q

/-! ### o[i], o[lo:hi], o[i] = v -/
theorem ixN_eq {n : Nat} {i : Int} : Dee.ixN n i = L2.ixN n i := rfl
def rIxD (c : LC) : R2 := fun x y H Q => ∃ d e M Q', MRep c.mg M H ∧ Rep c.mg M H d x ∧ Rep c.mg M H e y ∧ subop d e M (fun r => Q' r M) ∧ Goes c M H Q' Q
theorem sub_cases {o i : D} {M : Mem} {Q : D → Prop} (h : subop o i M Q) : (∃ p, dctM M o = some p ∧ isKey p.1 i = true ∧ ob (look p.2 i) Q) ∨
    (∃ s k j c, o = .str s ∧ i = .int k ∧ Dee.ixN s.cps.toList.length k = some j ∧ s.cps.toList[j]? = some c ∧ s.length ≤ line ∧ Q (.str ⟨#[c]⟩)) ∨
    (∃ k xs j v, i = .int k ∧ seqM M o = some xs ∧ Dee.ixN xs.length k = some j ∧ xs[j]? = some v ∧ Q v) := by
  unfold subop at h
  split at h
  · rename_i p e
    exact .inl ⟨p, e, h⟩
  · rename_i e0
    cases o with
    | str s =>
      obtain ⟨k, rfl, h⟩ := onI_int h
      obtain ⟨j, e1, h⟩ := ob_some h
      obtain ⟨c, e2, h1, h2⟩ := ob_some h
      exact .inr (.inl ⟨s, k, j, c, rfl, rfl, e1, e2, h1, h2⟩)
    | _ =>
      have w1 : onI i (fun k => ob (seqM M _) fun xs => ob (Dee.ixN xs.length k) fun j => ob xs[j]? Q) := h
      obtain ⟨k, ek, w2⟩ := onI_int w1
      obtain ⟨xs, e0, w3⟩ := ob_some w2
      obtain ⟨j, e1, w4⟩ := ob_some w3
      obtain ⟨v, e2, w5⟩ := ob_some w4
      exact .inr (.inr ⟨k, xs, j, v, ek, e0, e1, e2, w5⟩)
theorem ix_all (hu : X.A.units + 64 < cLine) : IxR X (rIxD c) := by
  intro value slice pins s σ H x y v u Q I rx ry h hs
  obtain ⟨d, e, M, Q', m, rd, re, w, g⟩ := h
  rcases sub_cases w with ⟨p, e1, hk, w⟩ | ⟨z, k, j, ch, rfl, rfl, h1, h2, h3, q⟩ | ⟨k, xs, j, z, rfl, e1, h1, h2, q⟩
  · obtain ⟨z, hl, q⟩ := ob_some w
    obtain ⟨a, r, rfl, dg, l1, l2⟩ := dget_of m rd re e1 hk
    obtain ⟨w, rfl, rz⟩ := l1 z hl
    cases (show v = Value.ref a from rx)
    exact tail_any (dict_typeIs I dg) PySem.F.slot_dict_getitem.lookup (d_getItem (by omega) I dg ry fun w' s' J rw' => ⟨w, H, J, rw', g.now m q rz⟩) hs
  · exact ix_str value slice pins s σ H x y v u Q I rx ry ⟨z, k, ch, rd, re, by rw [← line_eq]; exact h3, by unfold atI; rw [← ixN_eq, h1]; exact h2, g.now m q rfl⟩ hs
  · obtain ⟨a, vs, rfl, rs, hsq⟩ := seq_of m rd e1
    obtain ⟨w, hw, rz⟩ := rs.get h2
    have ha : atI vs k = some w := by unfold atI; rw [← ixN_eq, ← rs.length, h1]; exact hw
    rcases hsq with ⟨_, hsq⟩ | ⟨_, hsq⟩
    · exact ix_tup value slice pins s σ H _ y v u Q I rx ry ⟨a, vs, k, w, rfl, re, (.inl hsq), ha, g.now m q rz⟩ hs
    · exact ix_list value slice pins s σ H _ y v u Q I rx ry ⟨a, vs, k, w, rfl, re, .inl hsq, ha, g.now m q rz⟩ hs
theorem sIx_eq : @Dee.sIx = @HT.sIx := by
  funext n d o
  cases o <;> rfl
theorem cutL_V (vs : List V) (lo hi : Option Int) : cutL vs lo hi = cutV vs lo hi := by unfold cutL cutV; rw [sIx_eq]
theorem RepL.cut {mg : Gm} {M : Mem} {H : Hp} {ds : List D} {vs : List V} (h : RepL mg M H ds vs) (lo hi : Option Int) : RepL mg M H (cutL ds lo hi) (cutV vs lo hi) := by
  rw [← cutL_V]
  unfold cutL
  rw [h.length]
  exact (h.drop _).take _
def rSlD (c : LC) : V → Option Int → Option Int → Hp → VK → Prop := fun x lo hi H Q => ∃ d M Q', MRep c.mg M H ∧ Rep c.mg M H d x ∧
  (match d with | .str s => s.length ≤ line ∧ Q' (.str ⟨(cutL s.cps.toList lo hi).toArray⟩) M | .tup xs => Q' (.tup (cutL xs lo hi)) M | d => ob (seqM M d) fun xs => Q' (.lst (cutL xs lo hi)) M) ∧ Goes c M H Q' Q
theorem sl_all : SlR X (rSlD c) := by
  intro pins s σ H x v vl vu lo hi sl Q I rx hs pl pu h
  obtain ⟨d, M, Q', m, rd, w, g⟩ := h
  have lst : ∀ {d : D}, isTup d = false → Rep c.mg M H d x → (ob (seqM M d) fun xs => Q' (.lst (cutL xs lo hi)) M) →
      ∃ T id, typeLookup (.type T) "__getitem__" = pure (some (.builtin id)) ∧ s.TypeIs v T ∧ wpAny (model X.prog X.w) X.A (getItem v (.ref sl)) (EP X pins σ Q) X.xe s := fun {d} ht rd w => by
    obtain ⟨xs, e, q⟩ := ob_some w
    obtain ⟨a, vs, rfl, rs, hsq⟩ := seq_of m rd e
    rcases hsq with ⟨z, _⟩ | ⟨_, hsq⟩
    · rw [ht] at z; cases z
    · exact sl_list pins s σ H _ v vl vu lo hi sl Q I rx hs pl pu ⟨a, vs, rfl, .inl hsq, fun p hp => g.lst m q (rs.cut lo hi) hp⟩
  cases d with
  | str z =>
    obtain ⟨hz, q⟩ := w
    refine sl_str pins s σ H _ v vl vu lo hi sl Q I rx hs pl pu ⟨z, rd, by rw [← line_eq]; exact hz, ?_⟩
    have e : cutS z lo hi = ⟨(cutL z.cps.toList lo hi).toArray⟩ := by
      unfold cutS cutL
      rw [sIx_eq]
      simp [Str.length]
    rw [e]
    exact g.now m q rfl
  | tup xs =>
    obtain ⟨a, vs, ea, na, ha, ra⟩ := id rd
    refine sl_tupA pins s σ H _ v vl vu lo hi sl Q I rx hs pl pu ⟨a, vs, ea, (.inl ha.rd), fun hw => ?_, fun _ p hp => g.tup m w (ra.cut lo hi) hp⟩
    have e : cutL xs lo hi = xs := by
      unfold cutL
      rw [sIx_eq, ra.length, hw.1, hw.2, Nat.sub_zero, List.drop_zero, ← ra.length]
      exact List.take_length
    have w2 : Q' (.tup (cutL xs lo hi)) M := w
    rw [e] at w2
    exact g.now m w2 (ea ▸ rd)
  | lst xs => exact lst rfl rd w
  | ref a => exact lst rfl rd w
  | _ => exact w.elim

/-! ### o[i] = v -/
def rSetD (c : LC) : TSet := fun o i v H Q => ∃ d e f M Q', MRep c.mg M H ∧ Rep c.mg M H d o ∧ Rep c.mg M H e i ∧ Rep c.mg M H f v ∧ setop d e f M Q' ∧ (∀ M' H', Q' M' → Mono M H M' H' → MRep c.mg M' H' → Q H')
theorem putK_eq {κ : Type} [DecidableEq κ] (ws : List (κ × V)) (j : κ) (v : V) : putK ws j v = if (valV ws j).isSome then ws.map (fun p => if p.1 = j then (p.1, v) else p) else ws ++ [(j, v)] := by
  have e : (ws.any fun kv => decide (kv.1 = j)) = (valV ws j).isSome := by
    unfold valV
    rw [Option.isSome_map, Bool.eq_iff_iff, List.find?_isSome, List.any_eq_true]
  unfold putK
  rw [e]
theorem repK_put {mg : Gm} {M : Mem} {H : Hp} {j : Key} {d : D} {v : V} (hd : Rep mg M H d v) : ∀ {kvs : List (D × D)} {ws : List (Key × V)}, RepK mg M H kvs ws → RepK mg M H (put kvs (keyD j) d) (putK ws j v) := by
  have mapd : ∀ {kvs : List (D × D)} {ws : List (Key × V)}, RepK mg M H kvs ws → RepK mg M H (kvs.map fun p => if p.1 = keyD j then (p.1, d) else p) (ws.map fun p => if p.1 = j then (p.1, v) else p) := by
    intro kvs
    induction kvs with
    | nil => intro ws h; cases (show ws = [] from h); rfl
    | cons p kvs ih =>
      intro ws h
      obtain ⟨k', x⟩ := p
      obtain ⟨j', w, r, e, hk, hx, hr⟩ := h
      subst e hk
      rw [List.map_cons, List.map_cons]
      by_cases h2 : j' = j
      · subst h2
        simp only [if_true]
        exact ⟨_, _, _, rfl, rfl, hd, ih hr⟩
      · have h3 : ¬ keyD j' = keyD j := fun z => h2 (keyD_inj z)
        simp only [h2, h3, if_false]
        exact ⟨_, _, _, rfl, rfl, hx, ih hr⟩
  have app : ∀ {kvs : List (D × D)} {ws : List (Key × V)}, RepK mg M H kvs ws → RepK mg M H (kvs ++ [(keyD j, d)]) (ws ++ [(j, v)]) := by
    intro kvs
    induction kvs with
    | nil => intro ws h; cases (show ws = [] from h); exact ⟨_, _, _, rfl, rfl, hd, rfl⟩
    | cons p kvs ih =>
      intro ws h
      obtain ⟨k', x⟩ := p
      obtain ⟨j', w, r, e, hk, hx, hr⟩ := h
      subst e
      exact ⟨_, _, _, rfl, hk, hx, ih hr⟩
  intro kvs ws h
  obtain ⟨l1, l2⟩ := repK_look (j := j) h
  unfold put
  rw [putK_eq]
  cases hl : look kvs (keyD j) with
  | none =>
    rw [l2 hl]
    exact app h
  | some x =>
    obtain ⟨w, e, _⟩ := l1 x hl
    rw [e]
    exact mapd h
theorem repT_put {mg : Gm} {M : Mem} {H : Hp} {j : List Key} {d : D} {v : V} (hd : Rep mg M H d v) : ∀ {kvs : List (D × D)} {ws : List (List Key × V)}, RepT mg M H kvs ws → RepT mg M H (put kvs (.tup (j.map keyD)) d) (putK ws j v) := by
  have mapd : ∀ {kvs : List (D × D)} {ws : List (List Key × V)}, RepT mg M H kvs ws → RepT mg M H (kvs.map fun p => if p.1 = .tup (j.map keyD) then (p.1, d) else p) (ws.map fun p => if p.1 = j then (p.1, v) else p) := by
    intro kvs
    induction kvs with
    | nil => intro ws h; cases (show ws = [] from h); rfl
    | cons p kvs ih =>
      intro ws h
      obtain ⟨k', x⟩ := p
      obtain ⟨j', w, r, e, hk, hx, hr⟩ := h
      subst e hk
      rw [List.map_cons, List.map_cons]
      by_cases h2 : j' = j
      · subst h2
        simp only [if_true]
        exact ⟨_, _, _, rfl, rfl, hd, ih hr⟩
      · have h3 : ¬ D.tup (j'.map keyD) = D.tup (j.map keyD) := fun z => h2 (keyDs_inj (by injection z))
        simp only [h2, h3, if_false]
        exact ⟨_, _, _, rfl, rfl, hx, ih hr⟩
  have app : ∀ {kvs : List (D × D)} {ws : List (List Key × V)}, RepT mg M H kvs ws → RepT mg M H (kvs ++ [(.tup (j.map keyD), d)]) (ws ++ [(j, v)]) := by
    intro kvs
    induction kvs with
    | nil => intro ws h; cases (show ws = [] from h); exact ⟨_, _, _, rfl, rfl, hd, rfl⟩
    | cons p kvs ih =>
      intro ws h
      obtain ⟨k', x⟩ := p
      obtain ⟨j', w, r, e, hk, hx, hr⟩ := h
      subst e
      exact ⟨_, _, _, rfl, hk, hx, ih hr⟩
  intro kvs ws h
  obtain ⟨l1, l2⟩ := repT_look (j := j) h
  unfold put
  rw [putK_eq]
  cases hl : look kvs (.tup (j.map keyD)) with
  | none =>
    rw [l2 hl]
    exact app h
  | some x =>
    obtain ⟨w, e, _⟩ := l1 x hl
    rw [e]
    exact mapd h
theorem RepK.length {mg : Gm} {M : Mem} {H : Hp} : ∀ {kvs : List (D × D)} {ws : List (Key × V)}, RepK mg M H kvs ws → kvs.length = ws.length
  | [], _, h => by cases h; rfl
  | (_, _) :: _, _, ⟨_, _, _, e, _, _, hr⟩ => by cases e; simp [RepK.length hr]
theorem RepT.length {mg : Gm} {M : Mem} {H : Hp} : ∀ {kvs : List (D × D)} {ws : List (List Key × V)}, RepT mg M H kvs ws → kvs.length = ws.length
  | [], _, h => by cases h; rfl
  | (_, _) :: _, _, ⟨_, _, _, e, _, _, hr⟩ => by cases e; simp [RepT.length hr]
theorem set_all (hu : X.A.units + 64 < cLine) : PSet X (rSetD c) := by
  intro pins s σ H o i v ov iv u Q I ro ri rv h
  obtain ⟨d, e, f, M, Q', m, rd, re, rf, w, g⟩ := h
  obtain ⟨a, ea, w1⟩ := onR_ref w
  clear w
  subst ea
  have eo : o = .ref a := rd
  subst eo
  cases ho : M a with
  | none => rw [ho] at w1; exact w1.elim
  | some x =>
    rw [ho] at w1
    have hm : H a = none ∨ ∃ y, M a = some y := .inr ⟨x, ho⟩
    have st := m.std a x ho
    cases x with
    | lst xs =>
      obtain ⟨k, ek, w2⟩ := onI_int w1
      subst ek
      obtain ⟨j, hj, q⟩ := ob_some w2
      obtain ⟨vs, hv, rs⟩ := st
      refine set_list pins s σ H _ i v ov iv u Q I ro ri rv ⟨a, vs, k, j, rfl, re, hv, by rw [← ixN_eq, ← rs.length]; exact hj, ?_⟩
      exact g _ _ q (Mono.put hm) (m.put hm ⟨vs.set j v, upd_same, (rs.mono (Mono.put hm)).set (rf.mono (Mono.put hm)) j⟩)
    | dct t kvs =>
      obtain ⟨hk, hl, q⟩ := w1
      cases (show ov = Value.ref a from ro)
      cases t with
      | false =>
        obtain ⟨ws, hw, rs⟩ := st
        obtain ⟨j, ei, ee⟩ := repK_key hk re
        subst ee
        refine d_setItem (H' := upd H a (.dK (putK ws j v))) (by omega) I (.inl ⟨ws, j, hw, ei, by rw [← line_eq, ← rs.length]; exact hl, rfl⟩) ri rv fun s' J => ⟨_, J, ?_⟩
        exact g _ _ q (Mono.put hm) (m.put hm ⟨_, upd_same, repK_put (rf.mono (Mono.put hm)) (rs.mono (Mono.put hm))⟩)
      | true =>
        obtain ⟨ws, hw, rs⟩ := st
        obtain ⟨j, b, ei, hb, ee⟩ := repT_key hk re
        subst ee
        refine d_setItem (H' := upd H a (.dT (putK ws j v))) (by omega) I (.inr ⟨ws, j, b, hw, ei, hb, by rw [← line_eq, ← rs.length]; exact hl, rfl⟩) ri rv fun s' J => ⟨_, J, ?_⟩
        exact g _ _ q (Mono.put hm) (m.put hm ⟨_, upd_same, repT_put (rf.mono (Mono.put hm)) (rs.mono (Mono.put hm))⟩)
    | ins C fs => exact w1.elim
    | tup xs => exact w1.elim

end
end Dee

set_option Elab.async false
set_option linter.all false
set_option autoImplicit false
set_option maxRecDepth 100000
set_option maxHeartbeats 1000000
/-! Sets of nested tuples of ints (the body is printed by mknest.py from the library's proofs about tuples of ints). -/
namespace DeeNest
open PySem PySem.Spec PyProof.Rows L2
mutual
/-- ints, and tuples of such -/
def onlyN : NestedKey → Bool
  | .num _ => true
  | .tup ks => onlyNs ks
  | _ => false
def onlyNs : List NestedKey → Bool
  | [] => true
  | k :: ks => onlyN k && onlyNs ks
end
abbrev nhash (P : Program) (w : World) (k : NestedKey) : Int := (nestedKind P w).hash k
/-- the tuple at a is the nested key k -/
abbrev IsN (P : Program) (w : World) (h : Heap) (k : NestedKey) (a : Addr) : Prop := (nestedKind P w).is h k a ∧ onlyN k = true
section
variable {P : Program} {w : World} {A : Around} {E : Value → Shared → Prop} {s : Shared}
mutual
theorem ofAClass_key : ∀ (n : Nat) (k : NestedKey) (v : Value) (A : Around) (E : Value → Shared → Prop) (Q : Bool → Shared → Prop), NestedIs s.heap k v → onlyN k = true → k.depth ≤ n → Q false s → wpAny (model P w) A (ofAClassStatement n v) Q E s
  | n, .num i, v, A, E, Q, hk, _, _, h => by
    cases hk with
    | bool e => cases n <;> exact wpAny_pure h
    | int _ t => cases n <;> exact wpAny_pure h
  | n, .none, v, A, E, Q, hk, ho, _, h => by cases ho
  | n, .text x, v, A, E, Q, hk, ho, _, h => by cases ho
  | 0, .tup ks, v, A, E, Q, hk, ho, hd, h => by simp [NestedKey.depth] at hd
  | n + 1, .tup ks, v, A, E, Q, hk, ho, hd, h => by
    cases hk with
    | @tup a o vs m _ h1 h2 h3 h4 =>
      unfold ofAClassStatement
      refine wpAny_bind (wpAny_typeOf (T := "tuple") ⟨o, h1, h2⟩ ?_)
      dsimp only
      have e : (("tuple" : String) == "tuple") = true := by decide
      simp only [e, if_true, Bool.not_true, Bool.false_eq_true, if_false]
      try refine wpAny_bind (wpAny_pure ?_)
      try simp only [Bool.not_true, Bool.false_eq_true, if_false]
      show wpAny _ _ (seqItems? (.ref a) >>= _) _ _ s
      refine wpAny_bind (wpAny_seqItems h1 h3 ?_)
      dsimp only
      refine wpAny_bind ?_
      show wpAny _ _ (forIn vs _ _) _ _ s
      rw [← Array.forIn_toList]
      have hall := ofAClass_keys n ks vs.toList h4 ho (by simp only [NestedKey.depth] at hd; omega)
      refine wpAny_forIn_list _ (fun rest r s' => r.1 = none ∧ s' = s ∧ ∀ v ∈ rest, v ∈ vs.toList) _ ?_ ?_ _ _ ⟨rfl, rfl, fun _ z => z⟩
      · rintro v rest r s' ⟨hr, rfl, hin⟩
        refine wpAny_bind (hall v (hin v List.mem_cons_self) _ _ _ ?_)
        simp only [Bool.false_eq_true, if_false]
        exact wpAny_pure ⟨rfl, rfl, fun u hu' => hin u (List.mem_cons_of_mem _ hu')⟩
      · rintro ⟨r1, r2⟩ s' ⟨hr, rfl, _⟩
        simp only at hr
        subst hr
        exact wpAny_pure h
theorem ofAClass_keys : ∀ (n : Nat) (ks : List NestedKey) (vs : List Value), NestedAll s.heap ks vs → onlyNs ks = true → NestedKey.depthAll ks ≤ n → ∀ v ∈ vs, ∀ (A : Around) (E : Value → Shared → Prop) (Q : Bool → Shared → Prop), Q false s → wpAny (model P w) A (ofAClassStatement n v) Q E s
  | n, [], vs, x, _, _, v, hv, A, E, Q, h => by cases x; cases hv
  | n, k :: ks, vs, x, ho, hd, v, hv, A, E, Q, h => by
    cases x with
    | cons x1 x2 =>
      simp only [NestedKey.depthAll] at hd
      unfold onlyNs at ho
      rw [Bool.and_eq_true] at ho
      rcases List.mem_cons.mp hv with e | hv
      · rw [e]; exact ofAClass_key n k _ A E Q x1 ho.1 (by omega) h
      · exact ofAClass_keys n ks _ x2 ho.2 (by omega) v hv A E Q h
end
mutual
theorem hashBy_key : ∀ (n : Nat) (k : NestedKey) (v : Value) (A : Around) (E : Value → Shared → Prop) (Q : Bool → Shared → Prop), NestedIs s.heap k v → onlyN k = true → k.depth ≤ n → Q true s → wpAny (model P w) A (hashByValue n v) Q E s
  | n, .num i, v, A, E, Q, hk, _, _, h => by
    cases hk with
    | bool e => cases n <;> exact wpAny_pure h
    | int _ t => cases n <;> exact wpAny_pure h
  | n, .none, v, A, E, Q, hk, ho, _, h => by cases ho
  | n, .text x, v, A, E, Q, hk, ho, _, h => by cases ho
  | 0, .tup ks, v, A, E, Q, hk, ho, hd, h => by simp [NestedKey.depth] at hd
  | n + 1, .tup ks, v, A, E, Q, hk, ho, hd, h => by
    cases hk with
    | @tup a o vs m _ h1 h2 h3 h4 =>
      unfold hashByValue
      refine wpAny_bind (wpAny_specialOf (T := "tuple") ⟨o, h1, h2⟩ PySem.F.slot_tuple_hash.lookup ?_)
      show wpAny _ _ (seqItems? (.ref a) >>= _) _ _ s
      refine wpAny_bind (wpAny_seqItems h1 h3 ?_)
      refine wpAny_bind ?_
      show wpAny _ _ (forIn vs _ _) _ _ s
      rw [← Array.forIn_toList]
      have hall := hashBy_keys n ks vs.toList h4 ho (by simp only [NestedKey.depth] at hd; omega)
      refine wpAny_forIn_list _ (fun rest r s' => r.1 = none ∧ s' = s ∧ ∀ v ∈ rest, v ∈ vs.toList) _ ?_ ?_ _ _ ⟨rfl, rfl, fun _ z => z⟩
      · rintro v rest r s' ⟨hr, rfl, hin⟩
        refine wpAny_bind (hall v (hin v List.mem_cons_self) _ _ _ ?_)
        simp only [Bool.not_true, Bool.false_eq_true, if_false]
        exact wpAny_pure ⟨rfl, rfl, fun u hu' => hin u (List.mem_cons_of_mem _ hu')⟩
      · rintro ⟨r1, r2⟩ s' ⟨hr, rfl, _⟩
        simp only at hr
        subst hr
        exact wpAny_pure h
theorem hashBy_keys : ∀ (n : Nat) (ks : List NestedKey) (vs : List Value), NestedAll s.heap ks vs → onlyNs ks = true → NestedKey.depthAll ks ≤ n → ∀ v ∈ vs, ∀ (A : Around) (E : Value → Shared → Prop) (Q : Bool → Shared → Prop), Q true s → wpAny (model P w) A (hashByValue n v) Q E s
  | n, [], vs, x, _, _, v, hv, A, E, Q, h => by cases x; cases hv
  | n, k :: ks, vs, x, ho, hd, v, hv, A, E, Q, h => by
    cases x with
    | cons x1 x2 =>
      simp only [NestedKey.depthAll] at hd
      unfold onlyNs at ho
      rw [Bool.and_eq_true] at ho
      rcases List.mem_cons.mp hv with e | hv
      · rw [e]; exact hashBy_key n k _ A E Q x1 ho.1 (by omega) h
      · exact hashBy_keys n ks _ x2 ho.2 (by omega) v hv A E Q h
end
theorem ofAClassN {k : NestedKey} {b : Addr} {Q : Bool → Shared → Prop} (hk : IsN P w s.heap k b) (h : Q false s) : wpAny (model P w) A (ofAClassStatement 8 (.ref b)) Q E s := ofAClass_key 8 k _ A E Q hk.1.1 hk.2 hk.1.2 h
theorem hashByN {k : NestedKey} {b : Addr} {Q : Bool → Shared → Prop} (hk : IsN P w s.heap k b) (h : Q true s) : wpAny (model P w) A (hashByValue 8 (.ref b)) Q E s := hashBy_key 8 k _ A E Q hk.1.1 hk.2 hk.1.2 h
/-- a search among such keys shows nothing -/
theorem seenN {k : NestedKey} {b : Addr} {Q : Bool → Shared → Prop} (hk : IsN P w s.heap k b) {ys : List Value} (hy : ∀ y ∈ ys, ∃ k' c, y = Value.ref c ∧ IsN P w s.heap k' c) (h : Q false s) :
    wpAny (model P w) A (searchCouldBeSeen (.ref b) ys) Q E s := by
  unfold searchCouldBeSeen
  refine wpAny_bind (wpAny_forIn_list _ (fun rest r s' => (r.1 = none ∧ s' = s) ∧ ∀ y ∈ rest, ∃ k' c, y = Value.ref c ∧ IsN P w s.heap k' c) _ ?_ ?_ _ _ ⟨⟨rfl, rfl⟩, hy⟩)
  · rintro v rest r s' ⟨⟨hr, rfl⟩, hall⟩
    obtain ⟨k', c, rfl, hc⟩ := hall v List.mem_cons_self
    have tl : ∀ y ∈ rest, ∃ k' c, y = Value.ref c ∧ IsN P w s'.heap k' c := fun u hu' => hall u (List.mem_cons_of_mem _ hu')
    dsimp only
    by_cases hv : (b == c || (carriedByValue (.ref b) && carriedByValue (.ref c))) = true
    · exact wp_if_pos hv (wpAny_pure ⟨⟨rfl, rfl⟩, tl⟩)
    · refine wp_if_neg hv (wpAny_bind ((nestedKind P w).quiet hk.1 ?_))
      simp only [Bool.not_true, Bool.false_eq_true, if_false]
      refine wpAny_bind ((nestedKind P w).quiet hc.1 ?_)
      simp only [Bool.not_true, Bool.false_eq_true, if_false]
      refine wpAny_bind (ofAClassN hk ?_)
      simp only [Bool.false_eq_true, if_false]
      refine wpAny_bind (ofAClassN hc ?_)
      simp only [Bool.false_eq_true, if_false]
      exact wpAny_pure ⟨⟨rfl, rfl⟩, tl⟩
  · rintro ⟨r1, r2⟩ s' ⟨⟨hr, rfl⟩, _⟩
    simp only at hr
    subst hr
    exact wpAny_pure h
/-! ### the set of tuples -/
def rowsN (P : Program) (w : World) (L : List (Addr × NestedKey)) : List (Int × Value) := L.map fun p => (nhash P w p.2, Value.ref p.1)
structure SetN (P : Program) (w : World) (h : Heap) (a : Addr) (L : List (Addr × NestedKey)) (es : Array (Int × Value)) (ep : Nat) (t : SetTable) : Prop where
  ob : ∃ o, h.get? a = some o ∧ o.ExactSet ∧ o.data = .set es ep t
  rows : es.toList = rowsN P w L
  tab : TabOk t (L.map fun p => nhash P w p.2)
  nd : (L.map (·.2)).Nodup
  tup : ∀ p ∈ L, IsN P w h p.2 p.1
  plain : t.plain = true
  led : w.params.followText "set-order" = true ∨ t.led = true
  room : L.length * 5 < t.mask * 3
  few : L.length < 64
variable {a : Addr} {L : List (Addr × NestedKey)} {es : Array (Int × Value)} {ep : Nat} {t : SetTable}
theorem SetN.size (R : SetN P w s.heap a L es ep t) : es.size = L.length := by
  have h := congrArg List.length R.rows
  unfold rowsN at h
  rw [Array.length_toList, List.length_map] at h
  exact h
theorem SetN.fits (R : SetN P w s.heap a L es ep t) : t.fits es.size = true := by
  have h1 := R.tab.sz
  rw [List.length_map] at h1
  have h2 := R.size
  have h3 := R.room
  unfold SetTable.fits SetTable.fill
  rw [R.tab.dm, Bool.and_eq_true, beq_iff_eq, decide_eq_true_eq]
  show t.place.size = es.size ∧ t.place.size + 0 ≤ t.mask
  omega
theorem SetN.entry (R : SetN P w s.heap a L es ep t) {i : Nat} {p : Addr × NestedKey} (h : L[i]? = some p) : es[i]? = some (nhash P w p.2, Value.ref p.1) := by
  rw [← Array.getElem?_toList, R.rows]
  unfold rowsN
  rw [List.getElem?_map, h] <;> rfl
theorem SetN.gw (R : SetN P w s.heap a L es ep t) : ¬ t.gaveWay = true := by
  unfold SetTable.gaveWay
  rw [mask_odd R.tab.mok]
  decide
theorem sameMemN (t : SetTable) : t.sameMemory t.moves t.mask = some true := by
  unfold SetTable.sameMemory
  rw [if_pos (beq_self_eq_true _)]

/-- THE SEARCH: from the c-th step of the way on -/
theorem searchN_from (R : SetN P w s.heap a L es ep t) {x : Addr} {k : NestedKey} (hx : IsN P w s.heap k x) (hu : A.units + 8 < cLine) {K : Nat} (hKf : K < 10 * SetTable.turns t.mask)
    (hK : way t.mask (nhash P w k) K ∉ t.place.toList) (hKb : ∀ c, c < K → way t.mask (nhash P w k) c ∈ t.place.toList) {Q : SetFound → Shared → Prop}
    (hin : k ∈ L.map (·.2) → Q (.there none) s) (hout : k ∉ L.map (·.2) → Q (.free (way t.mask (nhash P w k) K) false) s) :
    ∀ (f c : Nat) (stand : Option SetTable.Probe), stand.getD (t.probeStart (nhash P w k)) = nth t.mask (runAt t.mask (SetTable.bits (nhash P w k) % (t.mask + 1)) (SetTable.bits (nhash P w k))) c → c ≤ K → K - c < f →
      (∀ (i : Nat) p, L[i]? = some p → p.2 = k → ∃ c', c ≤ c' ∧ c' < K ∧ t.place.toList[i]? = some (way t.mask (nhash P w k) c')) →
      wpAny (model P w) A (setSearchFrom a (.ref x) (nhash P w k) true f stand) Q E s
  | 0, c, stand, _, _, hf, _ => absurd hf (Nat.not_lt_zero _)
  | f + 1, c, stand, hst, hc, hf, hre => by
    obtain ⟨o, ho, hex, hd⟩ := R.ob
    rw [setSearchFrom_succ]
    refine wpAny_bind (wpAny_setState_of ho hd R.fits ?_)
    dsimp only
    refine wp_if_neg R.gw ?_
    try refine wpAny_bind (wpAny_pure ?_)
    have hnd : (nth t.mask (runAt t.mask (SetTable.bits (nhash P w k) % (t.mask + 1)) (SetTable.bits (nhash P w k))) c).dummy = none := by
      have key : ∀ (n : Nat) (p : SetTable.Probe), p.dummy = none → (nth t.mask p n).dummy = none := by
        intro n
        induction n with
        | zero => intro p h; exact h
        | succ n ih =>
          intro p h
          refine ih (adv t.mask p) ?_
          unfold adv
          split <;> exact h
      exact key c _ rfl
    have sh : ∀ q, nth t.mask (nth t.mask (runAt t.mask (SetTable.bits (nhash P w k) % (t.mask + 1)) (SetTable.bits (nhash P w k))) c) q = nth t.mask (runAt t.mask (SetTable.bits (nhash P w k) % (t.mask + 1)) (SetTable.bits (nhash P w k))) (c + q) := fun q => (nth_add t.mask c _ q).symm
    have e1 : ∀ q, (nth t.mask (nth t.mask (runAt t.mask (SetTable.bits (nhash P w k) % (t.mask + 1)) (SetTable.bits (nhash P w k))) c) q).j = way t.mask (nhash P w k) (c + q) := fun q => congrArg SetTable.Probe.j (sh q)
    have spec := go_spec t R.tab.ris R.tab.dm (fun i => (es[i]?.map (·.1)).getD 0) (nhash P w k) (10 * SetTable.turns t.mask) (K - c) _ hnd (by omega)
      (fun q hq => by rw [e1]; exact hKb (c + q) (by omega)) (by rw [e1, show c + (K - c) = K by omega]; exact hK)
    have hashAt : ∀ (i : Nat) p, L[i]? = some p → (fun i => (es[i]?.map (·.1)).getD 0) i = nhash P w p.2 := fun i p hp => by
      show (es[i]?.map (·.1)).getD 0 = _
      rw [R.entry hp] <;> rfl
    rcases spec with ⟨q, i, hq, hi, hh, hno, hpr⟩ | ⟨hno, hpr⟩
    · -- a candidate
      have hpr' : t.probe (fun i => (es[i]?.map (·.1)).getD 0) (nhash P w k) (stand.getD (t.probeStart (nhash P w k))) = some (.candidate (way t.mask (nhash P w k) (c + q)) i (nth t.mask (runAt t.mask (SetTable.bits (nhash P w k) % (t.mask + 1)) (SetTable.bits (nhash P w k))) (c + (q + 1)))) := by
        rw [hst, ← e1, ← sh]
        exact hpr
      rw [hpr']
      dsimp only
      rw [e1] at hi
      -- the entry
      have hil : i < L.length := by
        have h1 : i < t.place.toList.length := (List.getElem?_eq_some_iff.mp hi).1
        have h2 := R.tab.sz
        rw [List.length_map] at h2
        rw [Array.length_toList] at h1
        omega
      have hp : L[i]? = some L[i] := List.getElem?_eq_getElem hil
      generalize hpe : L[i] = p at hp
      have hmem : p ∈ L := List.mem_of_getElem? hp
      have hpt := R.tup p hmem
      have rest : wpAny (model P w) A (searchRest a (.ref x) (nhash P w k) true f es t (way t.mask (nhash P w k) (c + q)) i (nth t.mask (runAt t.mask (SetTable.bits (nhash P w k) % (t.mask + 1)) (SetTable.bits (nhash P w k))) (c + (q + 1)))) Q E s := by
        unfold searchRest
        rw [R.entry hp]
        dsimp only
        refine wpAny_bind (wpAny_holding ((nestedKind P w).eqBool hu hpt.1 hx.1 ?_))
        refine wpAny_bind (wpAny_setState_of ho hd R.fits ?_)
        dsimp only
        by_cases hkk : p.2 = k
        · refine wp_if_pos (by simp [hkk]) ?_
          refine wpAny_pure (hin ?_)
          exact List.mem_map.mpr ⟨p, hmem, hkk⟩
        · refine wp_if_neg (by simp [hkk]) ?_
          try refine wpAny_bind (wpAny_pure ?_)
          rw [sameMemN]
          dsimp only
          have hsl : t.slot (way t.mask (nhash P w k) (c + q)) = .live i := slot_live R.tab.ris hi
          simp only [if_true, hsl, R.entry hp]
          refine wpAny_bind (wpAny_isSame_ref_self (wpAny_bind (wpAny_pure ?_)))
          simp only [if_true]
          refine wp_if_neg (by simp [hkk]) ?_
          refine searchN_from R hx hu hKf hK hKb hin hout f (c + (q + 1)) _ rfl (by omega) (by omega) fun i0 p0 h0 hk0 => ?_
          obtain ⟨c', a1, a2, a3⟩ := hre i0 p0 h0 hk0
          refine ⟨c', ?_, a2, a3⟩
          -- it isn't passed
          rcases Nat.lt_or_ge c' (c + q) with z | z
          · exfalso
            refine hno (c' - c) i0 (by omega) (by rw [e1, show c + (c' - c) = c' by omega]; exact a3) ?_
            exact (hashAt i0 p0 h0).trans (congrArg (nhash P w) hk0)
          · rcases Nat.lt_or_ge (c + q) c' with y | y
            · omega
            · exfalso
              have ec : c' = c + q := Nat.le_antisymm y z
              rw [ec] at a3
              have s0 := slot_live R.tab.ris a3
              rw [hsl] at s0
              injection s0 with s0
              rw [← s0, hp] at h0
              exact hkk ((congrArg Prod.snd (Option.some.inj h0)).trans hk0)
      by_cases hl : t.led = true
      · refine wp_if_neg (by simp [hl]) ?_
        try refine wpAny_bind (wpAny_pure ?_)
        exact rest
      · refine wp_if_pos (by simp [hl]) ?_
        refine wpAny_bind (seenN hx (fun y hy => ?_) ?_)
        · obtain ⟨e, he, ee⟩ := List.mem_map.mp hy
          have he1 : e ∈ es ∧ e.1 = nhash P w k := by simpa using he
          have he2 : e ∈ es.toList := by simpa using he1.1
          rw [R.rows] at he2
          obtain ⟨p2, hp2, e2⟩ := List.mem_map.mp he2
          refine ⟨p2.2, p2.1, ?_, R.tup p2 hp2⟩
          rw [← ee, ← e2]
        · refine wp_if_neg (by decide) ?_
          try refine wpAny_bind (wpAny_pure ?_)
          exact rest
    · -- the empty slot
      have hpr' : t.probe (fun i => (es[i]?.map (·.1)).getD 0) (nhash P w k) (stand.getD (t.probeStart (nhash P w k))) = some (.empty (way t.mask (nhash P w k) K) none) := by
        have e2 : way t.mask (nhash P w k) K = (nth t.mask (nth t.mask (runAt t.mask (SetTable.bits (nhash P w k) % (t.mask + 1)) (SetTable.bits (nhash P w k))) c) (K - c)).j := by
          rw [e1, show c + (K - c) = K by omega]
        rw [hst, e2]
        exact hpr
      rw [hpr']
      dsimp only
      refine wpAny_pure (hout fun hm => ?_)
      obtain ⟨p0, h0, hk0⟩ := List.mem_map.mp hm
      obtain ⟨i0, hi0, e0⟩ := List.getElem_of_mem h0
      have h00 : L[i0]? = some p0 := by rw [List.getElem?_eq_getElem hi0, e0]
      obtain ⟨c', a1, a2, a3⟩ := hre i0 p0 h00 hk0
      refine hno (c' - c) i0 (by omega) (by rw [e1, show c + (c' - c) = c' by omega]; exact a3) ?_
      exact (hashAt i0 p0 h00).trans (congrArg (nhash P w) hk0)

/-- the search as adding asks for it -/
theorem searchN_at (R : SetN P w s.heap a L es ep t) {x : Addr} {k : NestedKey} (hx : IsN P w s.heap k x) (hu : A.units + 8 < cLine) {Q : SetFound → Shared → Prop}
    (hin : k ∈ L.map (·.2) → Q (.there none) s)
    (hout : ∀ K, k ∉ L.map (·.2) → way t.mask (nhash P w k) K ∉ t.place.toList → (∀ c, c < K → way t.mask (nhash P w k) c ∈ t.place.toList) → Q (.free (way t.mask (nhash P w k) K) false) s) :
    wpAny (model P w) A (setSearch a (.ref x) (nhash P w k) true) Q E s := by
  have hroom := R.room
  obtain ⟨K, hKf, hK, hKb⟩ := R.tab.first (by rw [List.length_map]; omega) (nhash P w k)
  have hbig : K < 100000 := by
    have : 10 * SetTable.turns t.mask ≤ 1420 := by
      unfold SetTable.turns
      rcases R.tab.mok with e | e | e <;> omega
    omega
  unfold setSearch
  refine searchN_from R hx hu hKf hK hKb hin (fun hn => hout K hn hK hKb) 100000 0 none rfl (Nat.zero_le _) (by omega) fun i p hp hk => ?_
  have hi : (L.map fun p => nhash P w p.2)[i]? = some (nhash P w k) := by rw [List.getElem?_map, hp, ← hk] <;> rfl
  have hil : i < t.place.toList.length := by
    have h1 : i < L.length := (List.getElem?_eq_some_iff.mp hp).1
    have h2 := R.tab.sz
    rw [List.length_map] at h2
    rw [Array.length_toList]
    omega
  have hj := List.getElem?_eq_getElem hil
  obtain ⟨c, hc, e⟩ := R.tab.before hK hi hj
  exact ⟨c, Nat.zero_le _, hc, by rw [hj, e]⟩
end

theorem setAddHashedIn_succ (a : Addr) (x : Value) (h : Int) (fuel : Nat) : setAddHashedIn a x h (fuel + 1) = (do
    let (es₀, _, t₀) ← setState a
    if byScan x es₀ then
      match ← setAddByScan a x h es₀ t₀ with
      | some added => return added
      | none => return ← setAddHashedIn a x h fuel
    let .free slot wasDummy ← setSearch a x h (adding := true) | return false
    let (es, _, t) ← setState a
    let (t, p) := t.put slot
    let byValue ← if t.plain then hashByValue 8 x else pure true
    let t := if byValue then t else { t with plain := false }
    storeSet a (SetTable.insertAt es p (h, x)) t
    if !wasDummy && t.tooFull then setRelay a (SetTable.grown (es.size + 1))
    return true) := by rfl
theorem setRelay_eq (a : Addr) (wanted : Nat) : setRelay a wanted = (do
    let (es, _, t) ← setState a
    if SetTable.sizeAbove wanted > sizeLine then unsupported "set:memory"
    let (es, t) ← (do
      let some (t, order) := t.relaid (es.map (·.1)) wanted | unsupported "internal:set-table-without-room"
      let es' := order.filterMap (es[·]?)
      if es'.size != es.size then unsupported "internal:set-table-lost-an-element"
      pure (es', t) : Sem (Array (Int × Value) × SetTable))
    storeSet a es t) := by rfl

section
variable {P : Program} {w : World} {A : Around} {E : Value → Shared → Prop} {s : Shared}
/-- a tuple isn't the set -/
theorem isN_same {h h' : Heap} {k : NestedKey} {a b : Addr} {o : Obj} {es : Array (Int × Value)} {ep : Nat} {t : SetTable} (hb : IsN P w h k b) (ho : h.get? a = some o) (hd : o.data = .set es ep t) (hs : Heap.SameBut a h h') : IsN P w h' k b :=
  ⟨⟨NestedIs.at (fun c ob vs n hb1 hc => (hs.2 c fun e => by subst e; rw [ho] at hb1; cases hb1; rw [hd] at hc; cases hc).trans hb1) k _ hb.1.1, hb.1.2⟩, hb.2⟩
theorem rowsN_put (L : List (Addr × NestedKey)) (p : Nat) (x : Addr) (k : NestedKey) : rowsN P w (L.take p ++ (x, k) :: L.drop p) = (rowsN P w L).take p ++ (nhash P w k, Value.ref x) :: (rowsN P w L).drop p := by
  unfold rowsN
  rw [List.map_append, List.map_cons, List.map_take, List.map_drop]
theorem put_permN {α : Type} (L : List α) (p : Nat) (x : α) : (L.take p ++ x :: L.drop p).Perm (x :: L) := by
  have h : (L.take p ++ x :: L.drop p).Perm (x :: (L.take p ++ L.drop p)) := List.perm_middle
  rw [List.take_append_drop] at h
  exact h
theorem orderN_rows (L : List (Addr × NestedKey)) (es : Array (Int × Value)) (order : Array Nat) (hr : es.toList = rowsN P w L) (hp : order.toList.Perm (List.range L.length)) :
    ∃ L2, (order.filterMap (es[·]?)).toList = rowsN P w L2 ∧ L2.Perm L ∧ (L2.map fun p => nhash P w p.2) = order.toList.map fun i => (es.map (·.1)).getD i 0 := by
  have hsz : es.size = L.length := by
    have h := congrArg List.length hr
    unfold rowsN at h
    rw [Array.length_toList, List.length_map] at h
    exact h
  have ent : ∀ i (h : i < L.length), es[i]? = some (nhash P w (L[i]).2, Value.ref (L[i]).1) := fun i h => by
    rw [← Array.getElem?_toList, hr]
    unfold rowsN
    rw [List.getElem?_map, List.getElem?_eq_getElem h] <;> rfl
  have key : ∀ l : List Nat, (∀ i ∈ l, i < L.length) → ∃ L2 : List (Addr × NestedKey), l.filterMap (fun i => es[i]?) = rowsN P w L2 ∧ L2 = l.filterMap (fun i => L[i]?) ∧ (L2.map fun p => nhash P w p.2) = l.map fun i => (es.map (·.1)).getD i 0 := by
    intro l
    induction l with
    | nil => intro _; exact ⟨[], rfl, rfl, rfl⟩
    | cons i l ih =>
      intro hl
      have hi := hl i List.mem_cons_self
      obtain ⟨L2, e1, e2, e3⟩ := ih fun j hj => hl j (List.mem_cons_of_mem _ hj)
      refine ⟨L[i] :: L2, ?_, ?_, ?_⟩
      · rw [List.filterMap_cons_some (ent i hi), e1] <;> rfl
      · rw [List.filterMap_cons_some (List.getElem?_eq_getElem hi), e2]
      · rw [List.map_cons, List.map_cons, e3]
        have hi2 : i < (es.map (·.1)).size := by rw [Array.size_map, hsz]; exact hi
        have e4 : (es.map (·.1)).getD i 0 = nhash P w (L[i]).2 := by
          have e5 : (es.map (·.1))[i]? = some (nhash P w (L[i]).2) := by rw [Array.getElem?_map, ent i hi] <;> rfl
          simp [Array.getD_eq_getD_getElem?, e5]
        rw [e4]
  obtain ⟨L2, e1, e2, e3⟩ := key order.toList fun i hi => List.mem_range.mp (hp.mem_iff.mp hi)
  refine ⟨L2, by first | (rw [Array.toList_filterMap]; exact e1) | simpa using e1, ?_, e3⟩
  have h1 : L2.Perm ((List.range L.length).filterMap fun i => L[i]?) := by
    rw [e2]
    exact hp.filterMap _
  have h2 : (List.range L.length).filterMap (fun i => L[i]?) = L := by
    have key2 : ∀ n, n ≤ L.length → (List.range n).filterMap (fun i => L[i]?) = L.take n := by
      intro n
      induction n with
      | zero => intro _; rfl
      | succ n ih =>
        intro hn
        have hlt : n < L.length := hn
        rw [List.range_succ, List.filterMap_append, ih (Nat.le_of_lt hlt), List.take_succ, List.getElem?_eq_getElem hlt]
        rw [List.filterMap_cons_some (List.getElem?_eq_getElem hlt)] <;> rfl
    rw [key2 L.length (Nat.le_refl _), List.take_length]
  rw [h2] at h1
  exact h1

variable {a : Addr} {L : List (Addr × NestedKey)} {es : Array (Int × Value)} {ep : Nat} {t : SetTable}
/-- the table laid anew, larger -/
theorem relayN_at {o : Obj} (ho : s.heap.get? a = some o) (hex : o.ExactSet) (hd : o.data = .set es ep t) (hrows : es.toList = rowsN P w L) (hsz : t.place.size = es.size) (hdm : t.dummies = #[]) (hfl : es.size ≤ t.mask)
    (nd : (L.map (·.2)).Nodup) (tup : ∀ p ∈ L, IsN P w s.heap p.2 p.1) (pl : t.plain = true) (ld : w.params.followText "set-order" = true ∨ t.led = true) (few : L.length < 64) {wanted M : Nat}
    (hw : SetTable.sizeAbove wanted - 1 = M) (hM : MaskOk M) (hw2 : SetTable.sizeAbove wanted ≤ 128) (hn : L.length * 5 < M * 3) {Q : Unit → Shared → Prop}
    (hQ : ∀ h' L' es' ep' t', Heap.SameBut a s.heap h' → SetN P w h' a L' es' ep' t' → L'.Perm L → Q () { s with heap := h' }) : wpAny (model P w) A (setRelay a wanted) Q E s := by
  have hsl : es.size = L.length := by
    have h := congrArg List.length hrows
    unfold rowsN at h
    rw [Array.length_toList, List.length_map] at h
    exact h
  have hfits : t.fits es.size = true := by
    unfold SetTable.fits SetTable.fill
    rw [hdm, Bool.and_eq_true, beq_iff_eq, decide_eq_true_eq]
    show t.place.size = es.size ∧ t.place.size + 0 ≤ t.mask
    omega
  obtain ⟨t', order, e, hp, T, em, el, ep', ed⟩ := relaid_ok t (hs := es.map (·.1)) (wanted := wanted) hw hM (by rw [Array.size_map, hsl]; omega)
  rw [Array.size_map, hsl] at hp
  obtain ⟨L2, r1, r2, r3⟩ := orderN_rows L es order hrows hp
  rw [← r3] at T
  have hs2 : (order.filterMap (es[·]?)).size = es.size := by
    have h := congrArg List.length r1
    unfold rowsN at h
    rw [Array.length_toList, List.length_map, r2.length_eq] at h
    rw [h, hsl]
  rw [setRelay_eq]
  refine wpAny_bind (wpAny_setState_of ho hd hfits ?_)
  dsimp only
  refine wp_if_neg (by rw [sizeLine_eq]; omega) ?_
  try refine wpAny_bind (wpAny_pure ?_)
  rw [e]
  dsimp only
  refine wpAny_bind ?_
  refine wp_if_neg (by rw [hs2]; simp) ?_
  try refine wpAny_bind (wpAny_pure ?_)
  refine wpAny_pure ?_
  dsimp only
  refine wpAny_storeSet_of ho hd ?_ (by rw [hs2, hsl, sizeLine_eq]; omega)
  have sb : Heap.SameBut a s.heap (s.heap.update a (Obj.putSet (order.filterMap (es[·]?)) t')) := Heap.SameBut.update ..
  refine hQ _ L2 (order.filterMap (es[·]?)) (ep + 1) t' sb ?_ r2
  refine ⟨⟨_, store_at ho hd, ⟨hex.1, hex.2.1, hex.2.2⟩, rfl⟩, r1, T, ?_, fun p hpm => isN_same (tup p (r2.mem_iff.mp hpm)) ho hd sb, by rw [ep']; exact pl, by rw [el]; exact ld, ?_, by rw [r2.length_eq]; exact few⟩
  · exact (r2.map (·.2)).nodup_iff.mpr nd
  · rw [r2.length_eq, em]
    exact hn

/-- ADDING -/
theorem addN_at (R : SetN P w s.heap a L es ep t) {x : Addr} {k : NestedKey} (hx : IsN P w s.heap k x) (hu : A.units + 8 < cLine) (hfew : L.length + 1 < 64) {Q : Bool → Shared → Prop}
    (hQ : ∀ b h' L' es' ep' t', Heap.SameBut a s.heap h' → SetN P w h' a L' es' ep' t' → (k ∈ L.map (·.2) → L' = L) → (k ∉ L.map (·.2) → L'.Perm ((x, k) :: L)) → Q b { s with heap := h' }) :
    wpAny (model P w) A (setAddHashed a (.ref x) (nhash P w k)) Q E s := by
  obtain ⟨o, ho, hex, hd⟩ := R.ob
  have hsl := R.size
  have hroom := R.room
  unfold setAddHashed
  refine wpAny_holding ?_
  rw [show (100000 : Nat) = 99999 + 1 from rfl, setAddHashedIn_succ]
  refine wpAny_bind (wpAny_setState_of ho hd R.fits ?_)
  dsimp only
  refine wp_if_neg (by simp [byScan, Value.scannable]) ?_
  try refine wpAny_bind (wpAny_pure ?_)
  refine wpAny_bind (searchN_at R hx hu (fun hm => ?_) fun K hm hK hb => ?_)
  · dsimp only
    exact wpAny_pure (hQ false s.heap L es ep t (Heap.SameBut.refl a s.heap) R (fun _ => rfl) fun z => absurd hm z)
  · dsimp only
    refine wpAny_bind (wpAny_setState_of ho hd R.fits ?_)
    dsimp only
    obtain ⟨q1, q2, q3, q4, q5, q6, q7, q8, q9⟩ := R.tab.put hK hb
    have hp1 : (t.put (way t.mask (nhash P w k) K)).1.plain = true := by rw [q6]; exact R.plain
    generalize hpt : t.put (way t.mask (nhash P w k) K) = pt at q1 q3 q4 q5 q6 q7 q8 q9 hp1 ⊢
    obtain ⟨t1, p⟩ := pt
    dsimp only at q1 q3 q4 q5 q6 q7 q8 q9 hp1 ⊢
    subst q1
    first
      | (refine wpAny_bind ?_; refine wp_if_pos hp1 ?_; refine hashByN hx ?_)
      | refine wp_if_pos hp1 (wpAny_bind (hashByN hx ?_))
    simp only [if_true]
    have hin : (SetTable.insertAt es (SetTable.below t.place (way t.mask (nhash P w k) K)) (nhash P w k, Value.ref x)).toList = rowsN P w (L.take (SetTable.below t.place (way t.mask (nhash P w k) K)) ++ (x, k) :: L.drop (SetTable.below t.place (way t.mask (nhash P w k) K))) := by
      rw [SetTable.toList_insertAt, rowsN_put, R.rows]
    generalize hpp : SetTable.below t.place (way t.mask (nhash P w k) K) = p at q2 q3 hin ⊢
    have pm := put_permN L p (x, k)
    have hlen : (L.take p ++ (x, k) :: L.drop p).length = L.length + 1 := pm.length_eq
    have hhs : (L.take p ++ (x, k) :: L.drop p).map (fun p => nhash P w p.2) = (L.map fun p => nhash P w p.2).take p ++ nhash P w k :: (L.map fun p => nhash P w p.2).drop p := by
      rw [List.map_append, List.map_cons, List.map_take, List.map_drop]
    rw [← hhs] at q3
    have nd1 : ((L.take p ++ (x, k) :: L.drop p).map (·.2)).Nodup := by
      refine (pm.map (·.2)).nodup_iff.mpr ?_
      rw [List.map_cons]
      exact List.nodup_cons.mpr ⟨hm, R.nd⟩
    have hes : (SetTable.insertAt es p (nhash P w k, Value.ref x)).size = L.length + 1 := by
      have h := congrArg List.length hin
      unfold rowsN at h
      rw [Array.length_toList, List.length_map, hlen] at h
      exact h
    generalize SetTable.insertAt es p (nhash P w k, Value.ref x) = es1 at hin hes ⊢
    generalize L.take p ++ (x, k) :: L.drop p = L1 at pm hlen q3 nd1 hin
    refine wpAny_bind (wpAny_storeSet_of ho hd ?_ (by rw [hes, sizeLine_eq]; omega))
    have sb : Heap.SameBut a s.heap (s.heap.update a (Obj.putSet es1 t1)) := Heap.SameBut.update ..
    have ho1 := store_at (es' := es1) (t' := t1) ho hd
    generalize s.heap.update a (Obj.putSet es1 t1) = h1 at sb ho1 ⊢
    have tup1 : ∀ p ∈ L1, IsN P w h1 p.2 p.1 := fun p hp => by
      rcases List.mem_cons.mp (pm.mem_iff.mp hp) with e | hp
      · rw [e]; exact isN_same hx ho hd sb
      · exact isN_same (R.tup p hp) ho hd sb
    have ld1 : w.params.followText "set-order" = true ∨ t1.led = true := by rw [q5]; exact R.led
    by_cases hf : t1.tooFull = true
    · first
        | (refine wpAny_bind ?_; refine wp_if_pos (by simp [hf]) ?_)
        | (refine wp_if_pos (by simp [hf]) ?_; refine wpAny_bind ?_)
      have hfull : (L.length + 1) * 5 ≥ t1.mask * 3 := by
        have h := hf
        unfold SetTable.tooFull at h
        rw [decide_eq_true_eq, q9, List.length_map] at h
        exact h
      rw [hsl]
      have hsz1 : t1.place.size = es1.size := by
        have h := q3.sz
        rw [List.length_map, hlen] at h
        rw [h, hes]
      have cases2 : (t.mask = 7 ∧ L.length = 4) ∨ (t.mask = 31 ∧ L.length = 18) := by
        rcases R.tab.mok with e | e | e
        · left; rw [q4, e] at hfull; rw [e] at hroom; exact ⟨e, by omega⟩
        · right; rw [q4, e] at hfull; rw [e] at hroom; exact ⟨e, by omega⟩
        · exfalso; rw [q4, e] at hfull; omega
      have go : ∀ M, SetTable.sizeAbove (SetTable.grown (L.length + 1)) - 1 = M → MaskOk M → SetTable.sizeAbove (SetTable.grown (L.length + 1)) ≤ 128 → (L.length + 1) * 5 < M * 3 →
          wpAny (model P w) A (setRelay a (SetTable.grown (L.length + 1))) (fun _ s' => wpAny (model P w) A (pure true) Q E s') E { s with heap := h1 } := fun M h1' h2' h3' h4' => by
        refine relayN_at (s := { s with heap := h1 }) ho1 ⟨hex.1, hex.2.1, hex.2.2⟩ rfl hin hsz1 q3.dm (by rw [hes, q4]; rcases cases2 with ⟨e, e2⟩ | ⟨e, e2⟩ <;> omega) nd1 tup1 hp1 ld1 (by rw [hlen]; exact hfew) h1' h2' h3' (by rw [hlen]; exact h4') ?_
        intro h2 L2 es2 ep2 t2 sb2 R2 pm2
        refine wpAny_pure (hQ true h2 L2 es2 ep2 t2 (sb.trans sb2) R2 (fun z => absurd z hm) fun _ => pm2.trans pm)
      rcases cases2 with ⟨_, e2⟩ | ⟨_, e2⟩
      · refine go 31 (by rw [e2, size_20]) (.inr (.inl rfl)) (by rw [e2, size_20]; decide) (by omega)
      · refine go 127 (by rw [e2, size_76]) (.inr (.inr rfl)) (by rw [e2, size_76]; decide) (by omega)
    · first
        | refine wp_if_neg (by simp [hf]) ?_
        | (refine wpAny_bind ?_; refine wp_if_neg (by simp [hf]) ?_; refine wpAny_pure ?_)
      refine wpAny_pure (hQ true h1 L1 es1 (ep + 1) t1 sb ⟨⟨_, ho1, ⟨hex.1, hex.2.1, hex.2.2⟩, rfl⟩, hin, q3, nd1, tup1, hp1, ld1, ?_, by rw [hlen]; exact hfew⟩ (fun z => absurd z hm) fun _ => pm)
      have h := hf
      unfold SetTable.tooFull at h
      rw [decide_eq_true_eq, q9, List.length_map] at h
      rw [hlen]
      omega
end


theorem nodup_of_mapN {α β : Type} {f : α → β} {l : List α} (h : (l.map f).Nodup) : l.Nodup := List.Pairwise.of_map f (fun _ _ hne e => hne (congrArg f e)) h
/-- what the set has got from the first i items -/
structure GotN (ks : List (Addr × NestedKey)) (i : Nat) (L : List (Addr × NestedKey)) : Prop where
  sub : ∀ p ∈ L, p ∈ ks.take i
  all : ∀ p ∈ ks.take i, p.2 ∈ L.map (·.2)
  len : L.length ≤ i
theorem GotN.zero (ks : List (Addr × NestedKey)) : GotN ks 0 [] := ⟨fun p h => (by cases h), fun p h => (by simp at h), Nat.le_refl _⟩
theorem take_nextN {α : Type} {l : List α} {i : Nat} {x : α} (h : l[i]? = some x) : l.take (i + 1) = l.take i ++ [x] := by
  rw [List.take_succ, h] <;> rfl
theorem GotN.same {ks L : List (Addr × NestedKey)} {i : Nat} {x : Addr × NestedKey} (g : GotN ks i L) (h : ks[i]? = some x) (hm : x.2 ∈ L.map (·.2)) : GotN ks (i + 1) L := by
  refine ⟨fun p hp => ?_, fun p hp => ?_, Nat.le_succ_of_le g.len⟩
  · rw [take_nextN h]
    exact List.mem_append_left _ (g.sub p hp)
  · rw [take_nextN h] at hp
    rcases List.mem_append.mp hp with z | z
    · exact g.all p z
    · rw [List.mem_singleton.mp z]; exact hm
theorem GotN.more {ks L L' : List (Addr × NestedKey)} {i : Nat} {x : Addr × NestedKey} (g : GotN ks i L) (h : ks[i]? = some x) (pm : L'.Perm (x :: L)) : GotN ks (i + 1) L' := by
  refine ⟨fun p hp => ?_, fun p hp => ?_, ?_⟩
  · rw [take_nextN h]
    rcases List.mem_cons.mp (pm.mem_iff.mp hp) with e | z
    · rw [e]; exact List.mem_append_right _ (List.mem_singleton.mpr rfl)
    · exact List.mem_append_left _ (g.sub p z)
  · rw [(pm.map (·.2)).mem_iff, List.map_cons]
    rw [take_nextN h] at hp
    rcases List.mem_append.mp hp with z | z
    · exact List.mem_cons_of_mem _ (g.all p z)
    · rw [List.mem_singleton.mp z]; exact List.mem_cons_self
  · rw [pm.length_eq, List.length_cons]
    exact Nat.succ_le_succ g.len

section
variable {P : Program} {w : World} {A : Around} {E : Value → Shared → Prop} {s : Shared}
theorem isN_keep {h h' : Heap} {k : NestedKey} {b : Addr} (x : IsN P w h k b) (hk : ∀ c o, h.get? c = some o → h'.get? c = some o) : IsN P w h' k b :=
  ⟨⟨NestedIs.at (fun c ob vs n hb1 _ => hk c ob hb1) k _ x.1.1, x.1.2⟩, x.2⟩
theorem SetN.keep {h h' : Heap} {a : Addr} {L : List (Addr × NestedKey)} {es : Array (Int × Value)} {ep : Nat} {t : SetTable} (R : SetN P w h a L es ep t) (ha : ∀ o, h.get? a = some o → h'.get? a = some o) (ht : ∀ p ∈ L, IsN P w h' p.2 p.1) : SetN P w h' a L es ep t := by
  obtain ⟨o, ho, r⟩ := R.ob
  exact ⟨⟨o, ha o ho, r⟩, R.rows, R.tab, R.nd, ht, R.plain, R.led, R.room, R.few⟩
/-- a new set -/
theorem setN_fresh {h : Heap} {a : Addr} (ho : h.get? a = some { cls := .type "set", dict := none, data := .set #[] 0 (.fresh 0 0 (!w.params.followText "set-order")) }) : SetN P w h a [] #[] 0 (.fresh 0 0 (!w.params.followText "set-order")) where
  ob := ⟨_, ho, ⟨rfl, rfl, rfl⟩, rfl⟩
  rows := rfl
  tab := ⟨List.Pairwise.nil, rfl, rfl, .inl rfl, fun x hx => (by cases hx), fun i h j hi => (by simp at hi)⟩
  nd := List.nodup_nil
  tup := fun p hp => (by cases hp)
  plain := rfl
  led := by
    show _ ∨ (!w.params.followText "set-order") = true
    cases w.params.followText "set-order"
    · exact .inr rfl
    · exact .inl rfl
  room := by
    show 0 * 5 < 7 * 3
    decide
  few := by
    show 0 < 64
    decide

/-- set.update's loop -/
theorem set_update_nest {I : Addr} {fp wr : List Addr} {G : Array GenState → Array GenState → Prop} {n : Nat} {Pv : Nat → Value → Prop} {St : Nat → Shared → Prop} {R : Result → Shared → Prop}
    (W : WalksS P w A.in1 I fp wr G n Pv St) (S : Addr) (hSf : S ∉ fp) (ks : List (Addr × NestedKey)) (hn : n = ks.length) (hfew : ks.length < 64) (hval : ∀ i v, Pv i v → ∃ p, ks[i]? = some p ∧ v = .ref p.1)
    (h0 : Heap) (hk : ∀ p ∈ ks, IsN P w h0 p.2 p.1) (hS0 : h0.get? S = none) (hw0 : ∀ b ∈ wr, h0.get? b = none) (hu : A.in1.units + 8 < cLine) :
    ∀ (k i : Nat) (s : Shared), n - i = k → i ≤ n → St i s → (∀ b o, h0.get? b = some o → s.heap.get? b = some o) → (∃ L es ep t, SetN P w s.heap S L es ep t ∧ GotN ks i L) →
      (∀ s' L es ep t, Moved (S :: wr) G s s' → SetN P w s'.heap S L es ep t → GotN ks n L → (∀ b o, h0.get? b = some o → s'.heap.get? b = some o) → R (.ok (.ret .none)) s') →
      codeAny (model P w) A (.builtin "set.update.loop" ⟨[.ref S, .ref I], []⟩) R s := by
  have hSw : S ∉ wr := fun h => hSf (W.sub _ h)
  have hsub : ∀ b ∈ wr, b ∈ S :: wr := fun b hb => List.mem_cons_of_mem _ hb
  have keepM : ∀ {s s' : Shared}, Moved wr G s s' → (∀ b o, h0.get? b = some o → s.heap.get? b = some o) → ∀ b o, h0.get? b = some o → s'.heap.get? b = some o := fun hm hkp b o e =>
    hm.heap b o (fun hb => by rw [hw0 b hb] at e; cases e) (hkp b o e)
  intro k
  induction k with
  | zero =>
    intro i s hk' hi hst hkp ⟨L, es, ep, t, hS, g⟩ hR
    have hin : i = n := by omega
    subst hin
    refine codeAny_builtin F.entry_set_update_loop ?_
    rw [Around.under_plainId F.plain_set_update_loop _]
    show wpAny _ A.in1 (pyNext (.ref I) >>= _) _ _ s
    refine wpAny_bind (W.done s _ _ hst fun s' hm => ?_)
    show wpAny _ A.in1 (ret Value.none) _ _ s'
    have hkp' := keepM hm hkp
    have sub : ∀ p ∈ L, p ∈ ks := fun p hp => List.mem_of_mem_take (g.sub p hp)
    exact wpAny_pure (hR s' L es ep t (hm.mono hsub) (hS.keep (fun o e => hm.heap S o hSw e) fun p hp => isN_keep (hk p (sub p hp)) hkp') g hkp')
  | succ k ih =>
    intro i s hk' hi hst hkp ⟨L, es, ep, t, hS, g⟩ hR
    have hlt : i < n := by omega
    refine codeAny_builtin F.entry_set_update_loop ?_
    rw [Around.under_plainId F.plain_set_update_loop _]
    show wpAny _ A.in1 (pyNext (.ref I) >>= _) _ _ s
    refine wpAny_bind (W.item i s _ _ hlt hst fun v s' hP hst' hm => ?_)
    obtain ⟨p, hp, rfl⟩ := hval i v hP
    have hkp' := keepM hm hkp
    have sub : ∀ p ∈ L, p ∈ ks := fun p hp => List.mem_of_mem_take (g.sub p hp)
    have hS' : SetN P w s'.heap S L es ep t := hS.keep (fun o e => hm.heap S o hSw e) fun q hq => isN_keep (hk q (sub q hq)) hkp'
    have hx : IsN P w s'.heap p.2 p.1 := isN_keep (hk p (List.mem_of_getElem? hp)) hkp'
    show wpAny _ A.in1 (holding [Value.ref p.1] (setAdd S (.ref p.1)) >>= _) _ _ s'
    refine wpAny_bind (wpAny_holding ?_)
    unfold setAdd
    refine wpAny_holding ?_
    refine wpAny_bind ((nestedKind P w).pyHash hu hx.1 ?_)
    refine addN_at (s := { s' with toks := s'.toks + p.2.draws }) hS' hx hu (by have := g.len; omega) fun b h' L' es' ep' t' hsb hS2 c1 c2 => ?_
    have g' : GotN ks (i + 1) L' := by
      rcases Classical.em (p.2 ∈ L.map (·.2)) with c | c
      · rw [c1 c]; exact g.same hp c
      · exact g.more hp (c2 c)
    have hkp2 : ∀ b o, h0.get? b = some o → h'.get? b = some o := fun b o e => (hsb.2 b (fun z => by rw [z, hS0] at e; cases e)).trans (hkp' b o e)
    refine wpAny_pure ⟨plainId_quiet F.plain_set_update_loop _, ih (i + 1) _ (by omega) hlt (W.frame _ s' _ _ hst' (Nat.le_add_right _ _) fun b hb o e => ?_) hkp2 ⟨L', es', ep', t', hS2, g'⟩ fun s'' L2 es2 ep2 t2 hm'' hS'' g'' hkp'' => ?_⟩
    · rw [hsb.2 b (fun h : b = S => hSf (by rw [← h]; exact hb))]; exact e
    · refine hR s'' L2 es2 ep2 t2 (Moved.trans W.gtrans ((hm.mono hsub).then_heap (Nat.le_add_right _ _) fun b o hb e => ?_) hm'') hS'' g'' hkp''
      rw [hsb.2 b (fun h : b = S => hb (by rw [h]; exact List.mem_cons_self))]; exact e

set_option maxRecDepth 100000 in
set_option maxHeartbeats 3200000 in
/-- set(xs) -/
theorem call_set_nest {l : Addr} {items : Array Value} (ks : List (Addr × NestedKey)) {Q : Value → Shared → Prop} (hh : A.handled = none) (hl : s.heap.IsList l items) (hit : items.toList = ks.map fun p => Value.ref p.1)
    (hk : ∀ p ∈ ks, IsN P w s.heap p.2 p.1) (hfew : ks.length < 64) (hu : A.units + 11 < cLine)
    (h : ∀ (h' : Heap) (tk : Nat) L es ep t, SetN P w h' s.heap.objs.size L es ep t → GotN ks ks.length L → (∀ b o, s.heap.get? b = some o → h'.get? b = some o) → Q (.ref s.heap.objs.size) { s with heap := h', toks := tk }) :
    wpAny (model P w) A (call (.type "set") [.ref l]) Q E s := by
  have hisz : items.size = ks.length := by
    have q := congrArg List.length hit
    rw [Array.length_toList, List.length_map] at q
    exact q
  obtain ⟨c, tl, hmro⟩ := F.called_set.mro
  have hmade := F.called_set.made
  have hsub := F.called_set.sub
  refine wpAny_call (codeAny_of_tree ?_)
  show wpAny _ _ (callAny (.type "set") _) _ _ _
  refine wpAny_pure ⟨Code.quiet_builtin _ (by decide +kernel), codeAny_builtin F.entry_type_call ?_⟩
  rw [Around.under_plain (weight_type_call_type "set" [.ref l] []) rfl]
  have h1 := F.called_set.notType
  have h2 := F.called_set.canCreate
  have hct := F.typeCall_set_1 (.ref l)
  repeat (any_goals (first | assumption | wp_step))

  refine codeAny_mono (code_set_led1 (.ref l) (E := E) (Q₁ := fun obj s₁ => obj = .ref s.heap.objs.size ∧ s₁ = { s with heap := s.heap.push { cls := .type "set", dict := none, data := .set #[] 0 (.fresh 0 0 (!w.params.followText "set-order")) } }) ⟨rfl, rfl⟩) fun r s₁ hr => ?_
  cases r with
  | error e => exact hr
  | ok fl =>
    cases fl with
    | ret obj =>
      obtain ⟨rfl, rfl⟩ := hr
      have hS : (s.heap.push { cls := .type "set", dict := none, data := .set #[] 0 (.fresh 0 0 (!w.params.followText "set-order")) }).get? s.heap.objs.size = some { cls := .type "set", dict := none, data := .set #[] 0 (.fresh 0 0 (!w.params.followText "set-order")) } := Heap.get?_push_size _ rfl
      have hT : Shared.TypeIs { s with heap := s.heap.push { cls := .type "set", dict := none, data := .set #[] 0 (.fresh 0 0 (!w.params.followText "set-order")) } } (.ref s.heap.objs.size) "set" := ⟨_, hS, rfl⟩
      have hli := F.called_set.init.lookup
      have hbi := F.called_set.init.bind (.ref s.heap.objs.size)
      repeat (any_goals (first | assumption | wp_step))

      refine codeAny_mono (codeAny_call_builtin (R := wants (fun r s₂ => r = .none ∧ ∃ h' tk L es ep t, s₂ = { s with heap := h', toks := tk } ∧ SetN P w h' s.heap.objs.size L es ep t ∧ GotN ks ks.length L ∧
          (∀ b o, s.heap.get? b = some o → h'.get? b = some o)) E) F.called_set.init.plain F.entry_set_init (check_set_init_1 hT ?_)) fun r₂ s₂ hr₂ => ?_
      · obtain ⟨ol, hol, hcl, nl, hdl⟩ := hl
        obtain ⟨ocls, odict, odata, oslots⟩ := ol
        simp only at hcl hdl
        subst hcl; subst hdl
        have hol' : (s.heap.push { cls := .type "set", dict := none, data := .set #[] 0 (.fresh 0 0 (!w.params.followText "set-order")) }).get? l = some { cls := .type "list", dict := odict, data := .seq items nl, slots := oslots } := Heap.get?_push_of_some _ hol
        have hsls := F.sub_list_set
        have hslf := F.sub_list_frozenset
        have hne : (Value.type "list" == Value.type "dict") = false := by decide
        have hl1 : (s.heap.push { cls := .type "set", dict := none, data := .set #[] 0 (.fresh 0 0 (!w.params.followText "set-order")) }).IsList l items := ⟨_, hol', rfl, nl, rfl⟩
        unfold Builtin.«set.__init__» noKeywords Builtin.Frozenset.updateFrom
        generalize hPI : pyIter = PI
        wp_walk
        subst hPI

        refine wpAny_pyIter_list hl1 ?_
        refine wpAny_bind (wpAny_runValue ?_)
        have hlS : l < s.heap.objs.size := Heap.lt_size hol
        have hh3 : A.in1.in1.in1.handled = none := by simp [hh]
        have hz1 : (s.heap.push { cls := .type "set", dict := none, data := .set #[] 0 (.fresh 0 0 (!w.params.followText "set-order")) }).objs.size = s.heap.objs.size + 1 := Heap.size_push ..
        have hneI : l ≠ (s.heap.push { cls := .type "set", dict := none, data := .set #[] 0 (.fresh 0 0 (!w.params.followText "set-order")) }).objs.size := by
          rw [Heap.size_push]; exact Nat.ne_of_lt (Nat.lt_succ_of_lt hlS)
        have hSf : s.heap.objs.size ∉ [(s.heap.push { cls := .type "set", dict := none, data := .set #[] 0 (.fresh 0 0 (!w.params.followText "set-order")) }).objs.size, l] := by
          rw [Heap.size_push]; simp only [List.mem_cons, List.mem_singleton, List.not_mem_nil, or_false, not_or]
          exact ⟨Nat.ne_of_lt (Nat.lt_succ_self _), Nat.ne_of_gt hlS⟩
        have hval : ∀ (i : Nat) (v : Value), items[i]? = some v → ∃ p, ks[i]? = some p ∧ v = .ref p.1 := fun i v hv => by
          have q : items.toList[i]? = some v := by rw [Array.getElem?_toList]; exact hv
          rw [hit, List.getElem?_map] at q
          cases hq : ks[i]? with
          | none => rw [hq] at q; cases q
          | some p =>
            rw [hq] at q
            exact ⟨p, rfl, (Option.some.inj q).symm⟩
        have none_of : ∀ b, s.heap.objs.size ≤ b → s.heap.get? b = none := fun b hb => by
          cases q : s.heap.get? b with
          | none => rfl
          | some o => exact absurd (Nat.lt_of_lt_of_le (Heap.lt_size q) hb) (Nat.lt_irrefl _)
        refine set_update_nest ((Walks.list hh3 _ l hneI items).toS) s.heap.objs.size
          hSf ks hisz hfew hval s.heap hk (none_of _ (Nat.le_refl _)) (fun b hb => none_of b (by
            rw [List.mem_singleton.mp hb, Heap.size_push]
            exact Nat.le_succ _)) hu (items.size - 0) 0 _ (by omega) (Nat.zero_le _)
          ⟨⟨_, Heap.get?_push_size _ rfl, rfl, rfl⟩, (hl1.push _)⟩ (fun b o e => Heap.get?_push_of_some _ (Heap.get?_push_of_some _ e)) ?hS0 ?hR
        case hS0 =>
          have hget : ((s.heap.push { cls := .type "set", dict := none, data := .set #[] 0 (.fresh 0 0 (!w.params.followText "set-order")) }).push { cls := .type "list_iterator", data := .fields #[.ref l, .int 0 0] }).get? s.heap.objs.size
              = some { cls := .type "set", dict := none, data := .set #[] 0 (.fresh 0 0 (!w.params.followText "set-order")) } := Heap.get?_push_of_some _ hS
          exact ⟨[], #[], 0, _, setN_fresh hget, GotN.zero ks⟩
        case hR =>
          intro s' L es ep t hm hS' g' hkp
          obtain ⟨h', g2, d', tk', os'⟩ := s'
          have eg : g2 = s.gens := hm.gens
          have ed : d' = s.drawn := hm.drawn
          have eo : os' = s.os := hm.os
          subst eg; subst ed; subst eo
          show wpAny _ _ _ _ _ _
          refine wpAny_pure ?_
          show wpAny _ _ (ret Value.none) _ _ _
          rw [hisz] at g'
          exact wpAny_pure ⟨rfl, h', tk', L, es, ep, t, rfl, hS', g', hkp⟩

      · cases r₂ with
        | error e => exact hr₂
        | ok fl₂ =>
          cases fl₂ with
          | ret r =>
            obtain ⟨rfl, h', tk, L, es, ep, t, rfl, hS', g', hk'⟩ := hr₂
            repeat (any_goals (first | assumption | wp_step))
            exact h _ _ _ _ _ _ hS' g' hk'
          | _ => exact hr₂.elim
    | _ => exact hr.elim

end
end DeeNest

set_option Elab.async false
set_option linter.all false
set_option autoImplicit false
set_option maxRecDepth 100000
set_option maxHeartbeats 1000000
/-! Dee: sorted, of nested tuples. -/
namespace Dee
open PySem PySem.Spec PyProof.Rows L2
/-! ### the order -/
mutual
theorem peq_pure : ∀ (x y : D), pure_ x = true → (peq x y = true ↔ x = y) ∨ pure_ y = false
  | .int i, y, _ => by
    cases y with
    | int j => left; simp [peq]
    | _ => first | (right; rfl) | (left; simp [peq])
  | .str s, y, _ => by
    cases y with
    | str j => left; simp [peq]
    | _ => first | (right; rfl) | (left; simp [peq])
  | .tup xs, y, h => by
    cases y with
    | tup ys =>
      rcases peqL_pure xs ys h with e | e
      · left
        show peqL xs ys = true ↔ _
        rw [e]
        exact ⟨fun z => by rw [z], fun z => by injection z⟩
      · right; exact e
    | _ => first | (right; rfl) | (left; simp [peq])
  | .non, _, h => by cases h
  | .bl _, _, h => by cases h
  | .lst _, _, h => by cases h
  | .dct _ _, _, h => by cases h
  | .obj _ _, _, h => by cases h
  | .ref _, _, h => by cases h
  | .clo _ _, _, h => by cases h
theorem peqL_pure : ∀ (xs ys : List D), pureL xs = true → (peqL xs ys = true ↔ xs = ys) ∨ pureL ys = false
  | [], ys, _ => by
    cases ys with
    | nil => left; simp [peqL]
    | cons y ys => left; simp [peqL]
  | x :: xs, ys, h => by
    unfold pureL at h
    rw [Bool.and_eq_true] at h
    cases ys with
    | nil => left; simp [peqL]
    | cons y ys =>
      rcases peq_pure x y h.1 with e | e
      · rcases peqL_pure xs ys h.2 with e2 | e2
        · left
          simp only [peqL, Bool.and_eq_true, e, e2, List.cons.injEq]
        · right
          unfold pureL
          rw [e2]; simp
      · right
        unfold pureL
        rw [e]; rfl
end
theorem peq_iff {x y : D} (h : pure_ x = true) (h2 : pure_ y = true) : peq x y = true ↔ x = y := by
  rcases peq_pure x y h with e | e
  · exact e
  · rw [h2] at e; cases e
theorem peq_no {x y : D} (h : pure_ x = true) (h2 : pure_ y = true) (n : x ≠ y) : peq x y = false := by
  cases e : peq x y with
  | false => rfl
  | true => exact absurd ((peq_iff h h2).mp e) n
/-- what a comparison of rows says -/
theorem pltL_cons {x y : D} {xs ys : List D} {r : Bool} (h : pltL (x :: xs) (y :: ys) = some r) : ∃ q, pltL xs ys = some q ∧ (if peq x y then some q else plt x y) = some r := by
  simp only [pltL] at h
  cases e : pltL xs ys with
  | none => rw [e] at h; cases h
  | some q => rw [e] at h; exact ⟨q, rfl, h⟩
theorem pltL_mk {x y : D} {xs ys : List D} {q r : Bool} (h : pltL xs ys = some q) (h2 : (if peq x y then some q else plt x y) = some r) : pltL (x :: xs) (y :: ys) = some r := by
  simp only [pltL]
  rw [h]
  exact h2
theorem strs_lt_trans {a b c : List Nat} (h1 : a < b) (h2 : b < c) : a < c := List.lt_trans h1 h2
mutual
theorem plt_asym : ∀ (x y : D), pure_ x = true → pure_ y = true → plt x y = some true → plt y x = some true → False
  | .int i, y, _, _, h1, h2 => by
    cases y with
    | int j =>
      simp only [plt, Option.some.injEq, decide_eq_true_eq] at h1 h2
      omega
    | _ => simp [plt] at h1
  | .str s, y, _, _, h1, h2 => by
    cases y with
    | str j =>
      simp only [plt, Option.some.injEq, decide_eq_true_eq] at h1 h2
      exact List.lt_irrefl _ (List.lt_trans h1 h2)
    | _ => simp [plt] at h1
  | .tup xs, y, p1, p2, h1, h2 => by
    cases y with
    | tup ys => exact pltL_asym xs ys p1 p2 h1 h2
    | _ => simp [plt] at h1
  | .non, _, h, _, _, _ => by cases h
  | .bl _, _, h, _, _, _ => by cases h
  | .lst _, _, h, _, _, _ => by cases h
  | .dct _ _, _, h, _, _, _ => by cases h
  | .obj _ _, _, h, _, _, _ => by cases h
  | .ref _, _, h, _, _, _ => by cases h
  | .clo _ _, _, h, _, _, _ => by cases h
theorem pltL_asym : ∀ (xs ys : List D), pureL xs = true → pureL ys = true → pltL xs ys = some true → pltL ys xs = some true → False
  | [], ys, _, _, h1, h2 => by
    cases ys with
    | nil => simp [pltL] at h1
    | cons y ys => simp [pltL] at h2
  | x :: xs, ys, p1, p2, h1, h2 => by
    cases ys with
    | nil => simp [pltL] at h1
    | cons y ys =>
      unfold pureL at p1 p2
      rw [Bool.and_eq_true] at p1 p2
      obtain ⟨q, e1, f1⟩ := pltL_cons h1
      obtain ⟨q', e2, f2⟩ := pltL_cons h2
      by_cases e : x = y
      · subst e
        rw [if_pos ((peq_iff p1.1 p1.1).mpr rfl)] at f1 f2
        cases f1
        cases f2
        exact pltL_asym xs ys p1.2 p2.2 e1 e2
      · rw [peq_no p1.1 p2.1 e, if_neg Bool.false_ne_true] at f1
        rw [peq_no p2.1 p1.1 (Ne.symm e), if_neg Bool.false_ne_true] at f2
        exact plt_asym x y p1.1 p2.1 f1 f2
end
mutual
theorem plt_tri : ∀ (x y : D), pure_ x = true → pure_ y = true → plt x y = some false → plt y x = some false → x = y
  | .int i, y, _, _, h1, h2 => by
    cases y with
    | int j =>
      simp only [plt, Option.some.injEq, decide_eq_false_iff_not] at h1 h2
      congr 1
      omega
    | _ => simp [plt] at h1
  | .str s, y, _, _, h1, h2 => by
    cases y with
    | str j =>
      simp only [plt, Option.some.injEq, decide_eq_false_iff_not] at h1 h2
      have : s.cps.toList = j.cps.toList := List.le_antisymm (List.not_lt.mp h2) (List.not_lt.mp h1)
      obtain ⟨⟨a⟩⟩ := s
      obtain ⟨⟨b⟩⟩ := j
      simp only at this
      rw [this]
    | _ => simp [plt] at h1
  | .tup xs, y, p1, p2, h1, h2 => by
    cases y with
    | tup ys => rw [pltL_tri xs ys p1 p2 h1 h2]
    | _ => simp [plt] at h1
  | .non, _, h, _, _, _ => by cases h
  | .bl _, _, h, _, _, _ => by cases h
  | .lst _, _, h, _, _, _ => by cases h
  | .dct _ _, _, h, _, _, _ => by cases h
  | .obj _ _, _, h, _, _, _ => by cases h
  | .ref _, _, h, _, _, _ => by cases h
  | .clo _ _, _, h, _, _, _ => by cases h
theorem pltL_tri : ∀ (xs ys : List D), pureL xs = true → pureL ys = true → pltL xs ys = some false → pltL ys xs = some false → xs = ys
  | [], ys, _, _, h1, h2 => by
    cases ys with
    | nil => rfl
    | cons y ys => simp [pltL] at h1
  | x :: xs, ys, p1, p2, h1, h2 => by
    cases ys with
    | nil => simp [pltL] at h2
    | cons y ys =>
      unfold pureL at p1 p2
      rw [Bool.and_eq_true] at p1 p2
      obtain ⟨q, e1, f1⟩ := pltL_cons h1
      obtain ⟨q', e2, f2⟩ := pltL_cons h2
      by_cases e : x = y
      · subst e
        rw [if_pos ((peq_iff p1.1 p1.1).mpr rfl)] at f1 f2
        cases f1
        cases f2
        rw [pltL_tri xs ys p1.2 p2.2 e1 e2]
      · rw [peq_no p1.1 p2.1 e, if_neg Bool.false_ne_true] at f1
        rw [peq_no p2.1 p1.1 (Ne.symm e), if_neg Bool.false_ne_true] at f2
        exact absurd (plt_tri x y p1.1 p2.1 f1 f2) e
end
mutual
theorem plt_trans : ∀ (x y z : D) (r : Bool), pure_ x = true → pure_ y = true → pure_ z = true → plt x y = some true → plt y z = some true → plt x z = some r → r = true
  | .int i, y, z, r, _, _, _, h1, h2, h3 => by
    cases y with
    | int j =>
      cases z with
      | int k =>
        simp only [plt, Option.some.injEq, decide_eq_true_eq] at h1 h2 h3
        subst h3
        rw [decide_eq_true_eq]
        omega
      | _ => simp [plt] at h2
    | _ => simp [plt] at h1
  | .str s, y, z, r, _, _, _, h1, h2, h3 => by
    cases y with
    | str j =>
      cases z with
      | str k =>
        simp only [plt, Option.some.injEq, decide_eq_true_eq] at h1 h2 h3
        subst h3
        rw [decide_eq_true_eq]
        exact List.lt_trans h1 h2
      | _ => simp [plt] at h2
    | _ => simp [plt] at h1
  | .tup xs, y, z, r, p1, p2, p3, h1, h2, h3 => by
    cases y with
    | tup ys =>
      cases z with
      | tup zs => exact pltL_trans xs ys zs r p1 p2 p3 h1 h2 h3
      | _ => simp [plt] at h2
    | _ => simp [plt] at h1
  | .non, _, _, _, h, _, _, _, _, _ => by cases h
  | .bl _, _, _, _, h, _, _, _, _, _ => by cases h
  | .lst _, _, _, _, h, _, _, _, _, _ => by cases h
  | .dct _ _, _, _, _, h, _, _, _, _, _ => by cases h
  | .obj _ _, _, _, _, h, _, _, _, _, _ => by cases h
  | .ref _, _, _, _, h, _, _, _, _, _ => by cases h
  | .clo _ _, _, _, _, h, _, _, _, _, _ => by cases h
theorem pltL_trans : ∀ (xs ys zs : List D) (r : Bool), pureL xs = true → pureL ys = true → pureL zs = true → pltL xs ys = some true → pltL ys zs = some true → pltL xs zs = some r → r = true
  | [], ys, zs, r, _, _, _, h1, h2, h3 => by
    cases zs with
    | nil =>
      cases ys with
      | nil => simp [pltL] at h1
      | cons y ys => simp [pltL] at h2
    | cons z zs =>
      simp only [pltL, Option.some.injEq] at h3
      exact h3.symm
  | x :: xs, ys, zs, r, p1, p2, p3, h1, h2, h3 => by
    cases ys with
    | nil => simp [pltL] at h1
    | cons y ys =>
      cases zs with
      | nil => simp [pltL] at h2
      | cons z zs =>
        unfold pureL at p1 p2 p3
        rw [Bool.and_eq_true] at p1 p2 p3
        obtain ⟨q1, e1, f1⟩ := pltL_cons h1
        obtain ⟨q2, e2, f2⟩ := pltL_cons h2
        obtain ⟨q3, e3, f3⟩ := pltL_cons h3
        by_cases a : x = y
        · subst a
          rw [if_pos ((peq_iff p1.1 p1.1).mpr rfl)] at f1
          cases f1
          by_cases b : x = z
          · subst b
            rw [if_pos ((peq_iff p1.1 p1.1).mpr rfl)] at f2 f3
            cases f2
            cases f3
            exact pltL_trans xs ys zs _ p1.2 p2.2 p3.2 e1 e2 e3
          · rw [peq_no p1.1 p3.1 b, if_neg Bool.false_ne_true] at f2 f3
            rw [f2] at f3
            cases f3
            rfl
        · rw [peq_no p1.1 p2.1 a, if_neg Bool.false_ne_true] at f1
          by_cases b : y = z
          · subst b
            rw [peq_no p1.1 p2.1 a, if_neg Bool.false_ne_true, f1] at f3
            cases f3
            rfl
          · rw [peq_no p2.1 p3.1 b, if_neg Bool.false_ne_true] at f2
            by_cases c : x = z
            · subst c
              exact (plt_asym x y p1.1 p2.1 f1 f2).elim
            · rw [peq_no p1.1 p3.1 c, if_neg Bool.false_ne_true] at f3
              exact plt_trans x y z r p1.1 p2.1 p3.1 f1 f2 f3
end
noncomputable def rkD (ds : List D) (d : D) : Nat := ds.countP fun e => decide (plt e d = some true)
theorem count_lt {α : Type} {p q : α → Bool} : ∀ {l : List α}, (∀ x ∈ l, p x = true → q x = true) → (∃ x ∈ l, q x = true ∧ p x = false) → l.countP p < l.countP q
  | [], _, ⟨_, h, _⟩ => by cases h
  | y :: l, hpq, ⟨x, hx, h1, h2⟩ => by
    have le : l.countP p ≤ l.countP q := List.countP_mono_left fun z hz => hpq z (by simp [hz])
    rcases List.mem_cons.mp hx with e | hx
    · subst e
      rw [List.countP_cons_of_neg (by rw [h2]; exact Bool.false_ne_true), List.countP_cons_of_pos h1]
      omega
    · have ih := count_lt (p := p) (q := q) (l := l) (fun z hz => hpq z (by simp [hz])) ⟨x, hx, h1, h2⟩
      cases e : p y with
      | true => rw [List.countP_cons_of_pos e, List.countP_cons_of_pos (hpq y (by simp) e)]; omega
      | false =>
        rw [List.countP_cons_of_neg (by rw [e]; exact Bool.false_ne_true)]
        cases e2 : q y with
        | true => rw [List.countP_cons_of_pos e2]; omega
        | false => rw [List.countP_cons_of_neg (by rw [e2]; exact Bool.false_ne_true)]; exact ih
theorem rk_lt {ds : List D} (S : Sortd ds) {d e : D} (hd : d ∈ ds) (he : e ∈ ds) {r : Bool} (h : plt d e = some r) : decide ((rkD ds d : Int) < (rkD ds e : Int)) = r := by
  have up : ∀ {d e : D}, d ∈ ds → e ∈ ds → plt d e = some true → rkD ds d < rkD ds e := fun {d e} hd he h => by
    refine count_lt (fun x hx hxd => ?_) ⟨d, hd, by rw [decide_eq_true_eq]; exact h, ?_⟩
    · rw [decide_eq_true_eq] at hxd ⊢
      obtain ⟨q, hq⟩ := Option.isSome_iff_exists.mp (S.cmp x hx e he)
      rw [hq, plt_trans x d e q (S.pure x hx) (S.pure d hd) (S.pure e he) hxd h hq]
    · rw [decide_eq_false_iff_not]
      exact fun z => plt_asym d d (S.pure d hd) (S.pure d hd) z z
  cases r with
  | true =>
    have := up hd he h
    rw [decide_eq_true_eq]
    omega
  | false =>
    rw [decide_eq_false_iff_not]
    obtain ⟨q, hq⟩ := Option.isSome_iff_exists.mp (S.cmp e he d hd)
    cases q with
    | true =>
      have := up he hd hq
      omega
    | false =>
      rw [plt_tri d e (S.pure d hd) (S.pure e he) h hq]
      omega
section
variable {X : Cx} {pins : List (Addr × Obj)} {σ : L2.St} {H : Hp} {s : Shared}
theorem lex_dat {A : Around} (I : Inv X pins σ H s) (hu : A.units + 61 < cLine) {b : Bool} : ∀ (ds es : List D) (vs us : List V) (its jts : List Value) (i : Nat) (r : Bool) (Q : Bool → Shared → Prop), RepDL H ds vs → RepDL H es us → Vals vs its → Vals us jts → depL ds ≤ 60 → pltL ds es = some r →
    (b = true → i = 0 → ∀ d, ds.head? = some d → (∃ j, d = .int j) ∨ ∃ t, d = .str t) → Q r s → PySem.W.KatLex X.prog X.w A b (decide (ds.length < es.length)) Q (its.zip jts) i s
  | [], es, vs, us, its, jts, i, r, Q, r1, r2, v1, v2, _, h, _, hQ => by
    cases (show vs = [] from r1)
    cases v1
    cases es with
    | nil =>
      cases (show us = [] from r2)
      cases v2
      simp only [pltL, Option.some.injEq] at h
      subst h
      exact PySem.W.kat_nil hQ
    | cons e es =>
      simp only [pltL, Option.some.injEq] at h
      subst h
      exact PySem.W.kat_nil (by simpa using hQ)
  | d :: ds, es, vs, us, its, jts, i, r, Q, r1, r2, v1, v2, hd, h, hb, hQ => by
    obtain ⟨v, vr, e1, p1, p2⟩ := r1
    subst e1
    cases es with
    | nil =>
      cases (show us = [] from r2)
      cases v2
      simp only [pltL, Option.some.injEq] at h
      subst h
      rw [List.zip_nil_right]
      exact PySem.W.kat_nil (by simpa using hQ)
    | cons e es =>
      obtain ⟨u, ur, e2, q1, q2⟩ := r2
      subst e2
      cases v1 with
      | @cons _ x _ xs rv rt =>
        cases v2 with
        | @cons _ y _ ys ru rt2 =>
          obtain ⟨q, hq, hr⟩ := pltL_cons h
          have hdep : d.dep ≤ 60 ∧ depL ds ≤ 60 := by unfold depL at hd; omega
          show PySem.W.KatLex X.prog X.w A b _ Q ((x, y) :: xs.zip ys) i s
          refine PySem.W.kat_cons (eqAt_dat 60 A I d e v u x y hdep.1 p1 q1 rv ru (by omega) _ _ _ _ ?_)
          cases pe : peq d e with
          | true =>
            rw [pe, if_pos rfl] at hr
            cases hr
            refine PySem.W.kat_yes ?_
            have := lex_dat I hu (b := b) ds es vr ur xs ys (i + 1) r Q p2 q2 rt rt2 hdep.2 hq (fun _ z => nomatch z) hQ
            simpa using this
          | false =>
            rw [pe, if_neg Bool.false_ne_true] at hr
            refine PySem.W.kat_no ?_
            have gen : ∀ z : Bool, z = false → wpAny (model X.prog X.w) A (oneLt' z x y) Q (fun _ _ => False) s := fun z ez => by
              subst ez
              exact PySem.W.kat_one _ _ (ltAt_dat 60 A I d e v u x y r hdep.1 p1 q1 rv ru (by omega) hr _ _ _ _ hQ)
            cases hz : (b && i == 0) with
            | false => exact gen false rfl
            | true =>
              rw [Bool.and_eq_true] at hz
              rcases hb hz.1 (by simpa using hz.2) d rfl with ⟨j, rfl⟩ | ⟨t, rfl⟩
              · cases e with
                | int k =>
                  cases (show v = .int j from p1)
                  cases (show u = .int k from q1)
                  obtain ⟨t1, rfl⟩ := (show ∃ t, x = Value.int j t from rv)
                  obtain ⟨t2, rfl⟩ := (show ∃ t, y = Value.int k t from ru)
                  simp only [plt, Option.some.injEq] at hr
                  subst hr
                  exact oneLt_int hQ
                | _ => simp [plt] at hr
              · cases e with
                | str k =>
                  cases (show v = .str t from p1)
                  cases (show u = .str k from q1)
                  obtain ⟨t1, rfl⟩ := (show ∃ t', x = Value.str t t' from rv)
                  obtain ⟨t2, rfl⟩ := (show ∃ t', y = Value.str k t' from ru)
                  simp only [plt, Option.some.injEq] at hr
                  subst hr
                  exact oneLt_str hQ
                | _ => simp [plt] at hr
theorem kat_of (I : Inv X pins σ H s) : ∀ (ds : List D) (vs : List V) (its : List Value) (fs : List D), RepDL H ds vs → Vals vs its → fsts ds = some fs → ∃ ws : List V, ∃ us : List Value, PySem.W.KatTups s.heap its us ∧ RepDL H fs ws ∧ Vals ws us
  | [], vs, its, fs, r, v, h => by
    cases (show vs = [] from r)
    cases v
    cases h
    exact ⟨[], [], .nil, rfl, .nil⟩
  | d :: ds, vs, its, fs, r, v, h => by
    obtain ⟨v1, vr, e1, p1, p2⟩ := r
    subst e1
    cases v with
    | @cons _ x _ xs rv rt =>
      cases d with
      | tup ys =>
        cases ys with
        | nil => cases h
        | cons y ys =>
          simp only [fsts] at h
          cases e : fsts ds with
          | none => rw [e] at h; cases h
          | some gs =>
            rw [e] at h
            cases h
            obtain ⟨ws, us, k1, k2, k3⟩ := kat_of I ds vr xs gs p2 rt e
            obtain ⟨a, zs, rfl, h1, h2⟩ := p1
            cases (show x = Value.ref a from rv)
            obtain ⟨w, wr, e2, q1, q2⟩ := h2
            subst e2
            obtain ⟨_, jts, rz, o, ho, hc, n, hdt⟩ := tupAt I h1
            cases rz with
            | @cons _ u _ us' ru _ =>
              exact ⟨w :: ws, u :: us, PySem.W.KatTups.cons ho hc hdt (by simp) k1, ⟨w, ws, rfl, q1, k2⟩, .cons ru k3⟩
      | _ => cases h
/-- the rank of a value among the items -/
noncomputable def rkV (H : Hp) (ds : List D) (v : Value) : Int := by
  classical
  exact if h : ∃ d, d ∈ ds ∧ ∃ u, RepD H d u ∧ RelV u v then (rkD ds h.choose : Int) else 0
theorem isTupD {ds fs : List D} (h : fsts ds = some fs) : ∀ d ∈ ds, ∃ xs, d = .tup xs := by
  intro d hd
  induction ds generalizing fs with
  | nil => cases hd
  | cons e ds ih =>
    cases e with
    | tup ys =>
      cases ys with
      | nil => cases h
      | cons y ys =>
        simp only [fsts] at h
        cases e : fsts ds with
        | none => rw [e] at h; cases h
        | some gs =>
          rcases List.mem_cons.mp hd with z | z
          · exact ⟨_, z⟩
          · exact ih e z
    | _ => cases h
theorem rkV_of {ds : List D} {d : D} {u : V} {v : Value} (hd : d ∈ ds) (ht : ∀ e ∈ ds, ∃ xs, e = .tup xs) (r : RepD H d u) (rv : RelV u v) : rkV H ds v = rkD ds d := by
  unfold rkV
  have h : ∃ d, d ∈ ds ∧ ∃ u, RepD H d u ∧ RelV u v := ⟨d, hd, u, r, rv⟩
  rw [dif_pos h]
  obtain ⟨h1, u', h2, h3⟩ := h.choose_spec
  obtain ⟨xs, ex⟩ := ht _ hd
  obtain ⟨ys, ey⟩ := ht _ h1
  have e : h.choose = d := by
    rw [ey] at h2 ⊢
    subst ex
    obtain ⟨a, vs, rfl, q, qs⟩ := r
    obtain ⟨b, us, rfl, q', qs'⟩ := h2
    cases (show v = Value.ref a from rv)
    cases (show Value.ref a = Value.ref b from h3)
    exact RepD.inj ⟨a, us, rfl, q', qs'⟩ ⟨a, vs, rfl, q, qs⟩
  rw [e]
theorem items_at : ∀ {ds : List D} {vs : List V} {its : List Value} {v : Value}, RepDL H ds vs → Vals vs its → v ∈ its → ∃ d u, d ∈ ds ∧ RepD H d u ∧ RelV u v
  | [], vs, its, v, r, w, h => by
    cases (show vs = [] from r)
    cases w
    cases h
  | d :: ds, vs, its, v, r, w, h => by
    obtain ⟨v1, vr, e1, p1, p2⟩ := r
    subst e1
    cases w with
    | @cons _ x _ xs rv rt =>
      rcases List.mem_cons.mp h with e | h
      · subst e; exact ⟨d, v1, by simp, p1, rv⟩
      · obtain ⟨e, u, h1, h2, h3⟩ := items_at p2 rt h
        exact ⟨e, u, by simp [h1], h2, h3⟩
/-- the comparisons of a sort -/
theorem cmp_dat {A : Around} {E : Value → Shared → Prop} (I : Inv X pins σ H s) (hu : A.units + 61 < cLine) {ds : List D} {vs : List V} {its : List Value} (S : Sortd ds) (K : oneKind ds) (hdep : depL ds ≤ 60) (r : RepDL H ds vs) (rv : Vals vs its) (h2 : 2 ≤ its.length) (Q : SortKind → Shared → Prop)
    (h : ∀ κ, _root_.TS.Cmp X.prog X.w A s κ (pairsOf its) (rkV H ds) → Q κ s) : wpAny (model X.prog X.w) A (keyKind' its.toArray) Q E s := by
  obtain ⟨fs, hf, hk⟩ := K
  obtain ⟨ws, us, kt, rw_, vw⟩ := kat_of I ds vs its fs r rv hf
  have hlen : ∀ {ds fs : List D}, fsts ds = some fs → fs.length = ds.length := by
    intro ds
    induction ds with
    | nil => intro fs h; cases h; rfl
    | cons e ds ih =>
      intro fs h
      cases e with
      | tup ys =>
        cases ys with
        | nil => cases h
        | cons y ys =>
          simp only [fsts] at h
          cases e : fsts ds with
          | none => rw [e] at h; cases h
          | some gs => rw [e] at h; cases h; simp [ih e]
      | _ => cases h
  have hul : us.length = its.length := by
    rw [← vw.length, ← rw_.length, hlen hf, r.length, rv.length]
  have ht := isTupD hf
  have heads : ∀ (P : D → Prop), (∀ f ∈ fs, P f) → ∀ d ∈ ds, ∀ x xs, d = .tup (x :: xs) → P x := fun P hP d hd x xs e => by
    have key : ∀ {ds fs : List D}, fsts ds = some fs → (∀ f ∈ fs, P f) → ∀ d ∈ ds, ∀ x xs, d = .tup (x :: xs) → P x := by
      intro ds
      induction ds with
      | nil => intro fs _ _ d hd; cases hd
      | cons e ds ih =>
        intro fs h hP d hd x xs ed
        cases e with
        | tup ys =>
          cases ys with
          | nil => cases h
          | cons y ys =>
            simp only [fsts] at h
            cases e : fsts ds with
            | none => rw [e] at h; cases h
            | some gs =>
              rw [e] at h
              cases h
              rcases List.mem_cons.mp hd with z | z
              · rw [ed] at z
                cases z
                exact hP _ (by simp)
              · exact ih e (fun f hf => hP f (by simp [hf])) d z x xs ed
        | _ => cases h
    exact key hf hP d hd x xs e
  have cmp : ∀ b : Bool, (b = true → ∀ d ∈ ds, ∀ x xs, d = .tup (x :: xs) → (∃ j, x = .int j) ∨ ∃ t, x = .str t) → _root_.TS.Cmp X.prog X.w A s (tuples' b) (pairsOf its) (rkV H ds) := by
    intro b hb p q hp hq Q' E' hQ
    rw [pairsOf_toList] at hp hq
    obtain ⟨d, u, hd, r1, v1⟩ := items_at r rv (mem_zip_self hp).2
    obtain ⟨e, u', he, r2, v2⟩ := items_at r rv (mem_zip_self hq).2
    have ep : p.1 = p.2 := (mem_zip_self hp).1
    have eq' : q.1 = q.2 := (mem_zip_self hq).1
    obtain ⟨z, hz⟩ := Option.isSome_iff_exists.mp (S.cmp d hd e he)
    have hr := rk_lt S hd he hz
    rw [rkV_of hd ht r1 v1, rkV_of he ht r2 v2, hr] at hQ
    obtain ⟨xs, rfl⟩ := ht d hd
    obtain ⟨ys, rfl⟩ := ht e he
    obtain ⟨a, vs1, rfl, h1, rs1⟩ := r1
    obtain ⟨c, vs2, rfl, h2', rs2⟩ := r2
    have w1 : p.1 = Value.ref a := v1
    have w2 : q.1 = Value.ref c := v2
    rw [w1, w2]
    obtain ⟨_, i1, va, o1, ho1, hc1, n1, hd1⟩ := tupAt I h1
    obtain ⟨_, i2, vb, o2, ho2, hc2, n2, hd2⟩ := tupAt I h2'
    refine PySem.W.kat_lt ho1 hd1 ho2 hd2 ?_
    have l1 : i1.toArray.size = xs.length := by rw [List.size_toArray, ← va.length, rs1.length]
    have l2 : i2.toArray.size = ys.length := by rw [List.size_toArray, ← vb.length, rs2.length]
    rw [l1, l2]
    have dx : depL xs ≤ 60 := by
      have := dep_mem hd
      unfold D.dep at this
      omega
    have := lex_dat I hu (b := b) xs ys vs1 vs2 i1 i2 0 z Q' rs1 rs2 va vb dx hz (fun hb' _ f hf => by
      cases xs with
      | nil => cases hf
      | cons x xs =>
        cases hf
        exact hb hb' _ hd _ _ rfl) hQ
    simpa using this
  have vat : ∀ v ∈ us, ∃ f u, f ∈ fs ∧ RepD H f u ∧ RelV u v := fun v hv => items_at rw_ vw hv
  rcases hk with hk | hk | hk
  · refine PySem.W.kat_kind (T := Value.type "int") kt (by omega) (fun v hv => ?_) rfl (h _ (cmp _ fun _ d hd x xs e => .inl (heads (fun f => ∃ j, f = .int j) hk d hd x xs e)))
    obtain ⟨f, u, hf', r1, v1⟩ := vat v hv
    obtain ⟨j, rfl⟩ := hk f hf'
    cases (show u = .int j from r1)
    obtain ⟨t, rfl⟩ := (show ∃ t, v = Value.int j t from v1)
    exact PySem.W.Looks.of_pure rfl
  · refine PySem.W.kat_kind (T := Value.type "str") kt (by omega) (fun v hv => ?_) rfl (h _ (cmp _ fun _ d hd x xs e => .inr (heads (fun f => ∃ j, f = .str j) hk d hd x xs e)))
    obtain ⟨f, u, hf', r1, v1⟩ := vat v hv
    obtain ⟨j, rfl⟩ := hk f hf'
    cases (show u = .str j from r1)
    obtain ⟨t, rfl⟩ := (show ∃ t, v = Value.str j t from v1)
    exact PySem.W.Looks.of_pure rfl
  · refine PySem.W.kat_kind (T := Value.type "tuple") kt (by omega) (fun v hv => ?_) rfl (h _ (cmp _ fun hb => ?_))
    · obtain ⟨f, u, hf', r1, v1⟩ := vat v hv
      obtain ⟨xs, rfl⟩ := hk f hf'
      obtain ⟨a, vs1, rfl, h1, rs1⟩ := r1
      cases (show v = Value.ref a from v1)
      obtain ⟨_, i1, va, o1, ho1, hc1, n1, hd1⟩ := tupAt I h1
      have L : PySem.W.Looks (model X.prog X.w) s.heap (typeOf (.ref a)) o1.cls := (PySem.W.Looks.ld ho1).andThen .now
      rw [hc1] at L
      exact L
    · exact absurd hb (by decide)
/-- list.sort of nested tuples -/
theorem sort_dat {A : Around} {E : Value → Shared → Prop} {s0 : Shared} {a : Addr} {n : Nat} {P : PySem.Fin → Shared → Prop} {ds : List D} {vs : List V} {its : List Value} (ho : s0.heap.get? a = some (seqObj "list" its.toArray n)) (h64 : its.length < 64)
    (I : Inv X pins σ H { s0 with heap := TS.midHeap s0.heap a its }) (hu : A.units + 61 < cLine) (S : Sortd ds) (K : oneKind ds) (hdep : depL ds ≤ 60) (r : RepDL H ds vs) (rv : Vals vs its)
    (h : ∀ out : Array Value, out.toList.Perm its → out.toList.Pairwise (fun u v => rkV H ds u ≤ rkV H ds v) → P (.done (.ret .none)) { s0 with heap := sortedHeap s0.heap a its out }) : wpAny (model X.prog X.w) A (Builtin.«list.sort» ⟨[.ref a], []⟩) P E s0 := by
  refine SK.plain_sort (r := rkV H ds) ho h64 (fun h2 Q hQ => cmp_dat I hu S K hdep r rv h2 Q hQ) fun ps out h1 h2 h3 => ?_
  obtain ⟨p, o⟩ := _root_.TS.out_rank h1 h2 h3
  exact h out p o
theorem sorted_list {A : Around} {E : Value → Shared → Prop} {l : Addr} {Q : Value → Shared → Prop} {ds : List D} {vs : List V} {its : List Value} (I : Inv X pins σ H s) (hl : s.heap.IsList l its.toArray) (h64 : its.length < 64) (hu : A.units + 64 < cLine) (S : Sortd ds) (K : oneKind ds) (hdep : depL ds ≤ 60) (r : RepDL H ds vs) (rv : Vals vs its)
    (h : ∀ out : Array Value, out.toList.Perm its → out.toList.Pairwise (fun u v => rkV H ds u ≤ rkV H ds v) → Q (.ref (s.heap.objs.size + 1)) { s with heap := sortedAll s.heap its out }) : wpAny (model X.prog X.w) A (call (.builtin "sorted") [.ref l]) Q E s := by
  refine Calls.call_function_entry kind_sorted plain_sorted entry_sorted (args_sorted1 _) ?_
  unfold Builtin.«sorted»
  refine wpAny_bind (m := checkCount "sorted" 1 1 _) (wpAny_pure ?_)
  refine wpAny_bind (collect_list hl ?_ (by rw [sizeLine_eq]; omega))
  refine wpAny_bind (wpAny_newList ?_ (by rw [sizeLine_eq]; omega))
  obtain ⟨hp1, hhp1⟩ : ∃ h1, h1 = (s.heap.push (seqObj "list" #[] 0)).update s.heap.objs.size (Obj.mapSeq (· ++ its.toArray)) := ⟨_, rfl⟩
  have hsz : hp1.objs.size = s.heap.objs.size + 1 := by rw [hhp1, Heap.size_update, size_push']
  have old : ∀ b o, s.heap.get? b = some o → hp1.get? b = some o := fun b o q => by
    have hlt : b < s.heap.objs.size := Heap.lt_size q
    rw [hhp1, Heap.get?_update_ne _ _ _ _ (Nat.ne_of_lt hlt), Heap.get?_push_ne _ _ _ (Nat.ne_of_lt hlt)]
    exact q
  rw [← hhp1]
  have hoL : (hp1.push (seqObj "list" its.toArray 0)).get? (s.heap.objs.size + 1) = some (seqObj "list" its.toArray 0) := by
    rw [← hsz]; exact Heap.get?_push_size _ rfl
  have old2 : ∀ b o, s.heap.get? b = some o → (hp1.push (seqObj "list" its.toArray 0)).get? b = some o := fun b o q => Heap.get?_push_of_some _ (old b o q)
  have I2 : Inv X pins σ H { s with heap := TS.midHeap (hp1.push (seqObj "list" its.toArray 0)) (s.heap.objs.size + 1) its } :=
    I.kept (t' := s.toks) fun b o q => _root_.TS.midHeap_old (Nat.ne_of_lt (Nat.lt_succ_of_lt (Heap.lt_size q))) (old2 b o q)
  show wpAny _ _ _ _ _ { s with heap := hp1.push (seqObj "list" its.toArray 0) }
  rw [hsz]
  refine wpAny_bind (wpAny_holding (wpAny_call_entry slot_list_sort ⟨_, hoL, rfl⟩ entry_list_sort (sort_dat (s0 := { s with heap := hp1.push (seqObj "list" its.toArray 0) }) hoL h64 I2 ?_ S K hdep r rv fun out a1 a2 => ⟨_, rfl, ?_⟩) (args_list_sort _)))
  · simp
    omega
  · refine wpAny_pure ⟨_, rfl, ?_⟩
    have := h out a1 a2
    rw [hhp1]
    exact this
theorem perm_align {g : Gm} {M : Mem} : ∀ {its out : List Value}, its.Perm out → ∀ {ds : List D} {vs : List V}, RepL g M H ds vs → Vals vs its → ∃ ys us, ys.Perm ds ∧ RepL g M H ys us ∧ Vals us out := by
  intro its out p
  induction p with
  | nil => intro ds vs r v; exact ⟨ds, vs, .refl _, r, v⟩
  | cons x _ ih =>
    intro ds vs r v
    cases v with
    | @cons v1 _ vr _ rv rt =>
      cases ds with
      | nil => cases r
      | cons d ds =>
        obtain ⟨v', r', e, h1, h2⟩ := r
        cases e
        obtain ⟨ys, us, p1, p2, p3⟩ := ih h2 rt
        exact ⟨d :: ys, v1 :: us, p1.cons d, ⟨v1, us, rfl, h1, p2⟩, .cons rv p3⟩
  | swap x y l =>
    intro ds vs r v
    cases v with
    | @cons v1 _ vr _ rv rt =>
      cases rt with
      | @cons v2 _ vr2 _ rv2 rt2 =>
        cases ds with
        | nil => cases r
        | cons d ds =>
          obtain ⟨v', r', e, h1, h2⟩ := r
          cases e
          cases ds with
          | nil => cases h2
          | cons d2 ds =>
            obtain ⟨v'', r'', e, h3, h4⟩ := h2
            cases e
            exact ⟨d2 :: d :: ds, v2 :: v1 :: vr2, .swap _ _ _, ⟨v2, _, rfl, h3, v1, _, rfl, h1, h4⟩, .cons rv2 (.cons rv rt2)⟩
  | trans _ _ ih1 ih2 =>
    intro ds vs r v
    obtain ⟨ys, us, p1, p2, p3⟩ := ih1 r v
    obtain ⟨zs, ws, q1, q2, q3⟩ := ih2 p2 p3
    exact ⟨zs, ws, q1.trans p1, q2, q3⟩
theorem pw_align {ds : List D} (S : Sortd ds) (ht : ∀ e ∈ ds, ∃ xs, e = .tup xs) : ∀ {ys : List D} {us : List V} {out : List Value}, (∀ y ∈ ys, y ∈ ds) → RepDL H ys us → Vals us out → out.Pairwise (fun u v => rkV H ds u ≤ rkV H ds v) → ys.Pairwise fun a b => plt b a = some false
  | [], _, _, _, _, _, _ => .nil
  | y :: ys, us, out, hin, r, v, p => by
    obtain ⟨u, ur, e, h1, h2⟩ := r
    subst e
    cases v with
    | @cons _ x _ xs rv rt =>
      rw [List.pairwise_cons] at p ⊢
      refine ⟨fun z hz => ?_, pw_align S ht (fun z hz => hin z (by simp [hz])) h2 rt p.2⟩
      have hy := hin y (by simp)
      have hz' := hin z (by simp [hz])
      obtain ⟨q, hq⟩ := Option.isSome_iff_exists.mp (S.cmp z hz' y hy)
      cases q with
      | false => exact hq
      | true =>
        have hlt := rk_lt S hz' hy hq
        rw [decide_eq_true_eq] at hlt
        have find : ∀ {ys : List D} {us : List V} {out : List Value}, RepDL H ys us → Vals us out → z ∈ ys → ∃ w ∈ out, ∃ u, RepD H z u ∧ RelV u w := by
          intro ys
          induction ys with
          | nil => intro us out _ _ h; cases h
          | cons y ys ih =>
            intro us out r v h
            obtain ⟨u, ur, e, h1, h2⟩ := r
            subst e
            cases v with
            | @cons _ x _ xs rv rt =>
              rcases List.mem_cons.mp h with e | h
              · subst e; exact ⟨x, by simp, u, h1, rv⟩
              · obtain ⟨w, hw, r⟩ := ih h2 rt h
                exact ⟨w, by simp [hw], r⟩
        obtain ⟨w, hw, u', k1, k2⟩ := find h2 rt hz
        have hle := p.1 w hw
        rw [rkV_of hy ht h1 rv, rkV_of hz' ht k1 k2] at hle
        omega
/-- sorted(xs) -/
theorem call_sortedD {c : LC} {E' : KX} {m : Bool} {l : Addr} {Q : VK} {Q' : Dee.K} {ds : List D} {vs : List V} {M : Mem} (I : Inv X pins σ H s) (hu : X.A.units + 64 < cLine) (mr : MRep c.mg M H) (hr : Rd H l (.lst vs)) (rs : RepL c.mg M H ds vs) (ok : SortOk ds) (g : Goes c M H Q' Q)
    (w : ∀ ys, ys.Perm ds → ys.Pairwise (fun a b => plt b a = some false) → newL m ys M Q') : wpAny (model X.prog X.w) X.A (call (.builtin "sorted") [.ref l]) (EP X pins σ Q) X.xe s := by
  obtain ⟨o1, o2, o3, o4⟩ := ok
  obtain ⟨its, rv, pl, hz⟩ := I.list (show SqL X.K H l vs from .inl hr)
  have rd := rs.dat o4
  obtain ⟨fs, hf, _⟩ := id o3
  refine sorted_list I pl.isList (by rw [← rv.length, ← rs.length]; exact o1) hu o2 o3 o4 rd rv fun out p1 p2 => ?_
  obtain ⟨ys, us, q1, q2, q3⟩ := perm_align p1.symm rs rv
  have rdy : RepDL H ys us := q2.dat (by
    have : ∀ y ∈ ys, y.dep ≤ 60 := fun y hy => Nat.le_trans (dep_mem (q1.mem_iff.mp hy)) o4
    have key : ∀ {zs : List D}, (∀ y ∈ zs, y.dep ≤ 60) → depL zs ≤ 60 := by
      intro zs
      induction zs with
      | nil => intro _; exact Nat.zero_le _
      | cons z zs ih =>
        intro h
        unfold depL
        have h1 := h z (by simp)
        have h2 := ih fun y hy => h y (by simp [hy])
        omega
    exact key this)
  have pw := pw_align o2 (isTupD hf) (fun y hy => q1.mem_iff.mp hy) rdy q3 p2
  obtain ⟨ep, he'⟩ := PyProof.Rows.sortedAll_at s.heap its out
  have hlen : us.length ≤ sizeLine := by rw [← q2.length, q1.length_eq, sizeLine_eq]; omega
  have hn : H (s.heap.objs.size + 1) = none := I.hok.fresh (Nat.le_succ _)
  exact ⟨.ref _, upd H (s.heap.objs.size + 1) (.lst us), I.laid (t' := s.toks) (fun _ _ => PyProof.Rows.sortedAll_old) (Nat.le_succ _) ⟨hlen, out.toList, ep, q3, he'⟩, rfl, g.newL mr (w ys q1 pw) q2 hn⟩
end
end Dee

set_option Elab.async false
set_option linter.all false
set_option autoImplicit false
set_option maxRecDepth 100000
set_option maxHeartbeats 1000000
/-! Dee: sorted(set(..)), of nested tuples of numbers. -/
namespace Dee
open PySem PySem.Spec PyProof.Rows L2
theorem fsts_of : ∀ {ds : List D}, (∀ d ∈ ds, ∃ x xs, d = .tup (x :: xs)) → ∃ fs, fsts ds = some fs ∧ ∀ f ∈ fs, ∃ d ∈ ds, ∃ xs, d = .tup (f :: xs)
  | [], _ => ⟨[], rfl, fun _ h => nomatch h⟩
  | d :: ds, h => by
    obtain ⟨x, xs, rfl⟩ := h d (by simp)
    obtain ⟨fs, e, hf⟩ := fsts_of (ds := ds) fun d hd => h d (by simp [hd])
    refine ⟨x :: fs, by simp only [fsts, e, Option.map_some], fun f hf' => ?_⟩
    rcases List.mem_cons.mp hf' with z | z
    · subst z; exact ⟨_, by simp, xs, rfl⟩
    · obtain ⟨d, hd, ys, e⟩ := hf f z
      exact ⟨d, by simp [hd], ys, e⟩
theorem kinds_one {ds : List D} (h : kinds ds) : oneKind ds := by
  rcases h with h | h | h
  · obtain ⟨fs, e, hf⟩ := fsts_of (ds := ds) fun d hd => let ⟨j, xs, e⟩ := h d hd; ⟨_, xs, e⟩
    refine ⟨fs, e, .inl fun f hf' => ?_⟩
    obtain ⟨d, hd, ys, e⟩ := hf f hf'
    obtain ⟨j, xs, e2⟩ := h d hd
    rw [e] at e2
    cases e2
    exact ⟨j, rfl⟩
  · obtain ⟨fs, e, hf⟩ := fsts_of (ds := ds) fun d hd => let ⟨j, xs, e⟩ := h d hd; ⟨_, xs, e⟩
    refine ⟨fs, e, .inr (.inl fun f hf' => ?_)⟩
    obtain ⟨d, hd, ys, e⟩ := hf f hf'
    obtain ⟨j, xs, e2⟩ := h d hd
    rw [e] at e2
    cases e2
    exact ⟨j, rfl⟩
  · obtain ⟨fs, e, hf⟩ := fsts_of (ds := ds) fun d hd => let ⟨j, xs, e⟩ := h d hd; ⟨_, xs, e⟩
    refine ⟨fs, e, .inr (.inr fun f hf' => ?_)⟩
    obtain ⟨d, hd, ys, e⟩ := hf f hf'
    obtain ⟨j, xs, e2⟩ := h d hd
    rw [e] at e2
    cases e2
    exact ⟨j, rfl⟩
mutual
def toKey : D → NestedKey
  | .int i => .num i
  | .tup xs => .tup (toKeys xs)
  | .non => .none | .bl _ => .none | .str _ => .none | .lst _ => .none | .dct _ _ => .none | .obj _ _ => .none | .ref _ => .none | .clo _ _ => .none
def toKeys : List D → List NestedKey
  | [] => []
  | x :: xs => toKey x :: toKeys xs
end
mutual
theorem toKey_inj : ∀ (x y : D), pureI x = true → pureI y = true → toKey x = toKey y → x = y
  | .int i, y, _, h2, e => by
    cases y with
    | int j => simp only [toKey, NestedKey.num.injEq] at e; rw [e]
    | tup ys => simp [toKey] at e
    | _ => cases h2
  | .tup xs, y, h1, h2, e => by
    cases y with
    | int j => simp [toKey] at e
    | tup ys => simp only [toKey, NestedKey.tup.injEq] at e; rw [toKeys_inj xs ys h1 h2 e]
    | _ => cases h2
  | .non, _, h, _, _ => by cases h
  | .bl _, _, h, _, _ => by cases h
  | .str _, _, h, _, _ => by cases h
  | .lst _, _, h, _, _ => by cases h
  | .dct _ _, _, h, _, _ => by cases h
  | .obj _ _, _, h, _, _ => by cases h
  | .ref _, _, h, _, _ => by cases h
  | .clo _ _, _, h, _, _ => by cases h
theorem toKeys_inj : ∀ (xs ys : List D), pureIL xs = true → pureIL ys = true → toKeys xs = toKeys ys → xs = ys
  | [], ys, _, _, e => by cases ys with | nil => rfl | cons y ys => simp [toKeys] at e
  | x :: xs, ys, h1, h2, e => by
    cases ys with
    | nil => simp [toKeys] at e
    | cons y ys =>
      simp only [toKeys, List.cons.injEq] at e
      unfold pureIL at h1 h2
      rw [Bool.and_eq_true] at h1 h2
      rw [toKey_inj x y h1.1 h2.1 e.1, toKeys_inj xs ys h1.2 h2.2 e.2]
end
mutual
theorem toKey_only : ∀ (x : D), pureI x = true → DeeNest.onlyN (toKey x) = true ∧ (toKey x).depth = x.dep
  | .int i, _ => ⟨rfl, rfl⟩
  | .tup xs, h => by
    obtain ⟨h1, h2⟩ := toKeys_only xs h
    exact ⟨h1, by simp only [toKey, NestedKey.depth, D.dep, h2]⟩
  | .non, h => by cases h
  | .bl _, h => by cases h
  | .str _, h => by cases h
  | .lst _, h => by cases h
  | .dct _ _, h => by cases h
  | .obj _ _, h => by cases h
  | .ref _, h => by cases h
  | .clo _ _, h => by cases h
theorem toKeys_only : ∀ (xs : List D), pureIL xs = true → DeeNest.onlyNs (toKeys xs) = true ∧ NestedKey.depthAll (toKeys xs) = depL xs
  | [], _ => ⟨rfl, rfl⟩
  | x :: xs, h => by
    unfold pureIL at h
    rw [Bool.and_eq_true] at h
    obtain ⟨a1, a2⟩ := toKey_only x h.1
    obtain ⟨b1, b2⟩ := toKeys_only xs h.2
    refine ⟨?_, ?_⟩
    · simp only [toKeys, DeeNest.onlyNs, a1, b1, Bool.and_self]
    · simp only [toKeys, NestedKey.depthAll, depL, a2, b2]
end
section
variable {X : Cx} {pins : List (Addr × Obj)} {σ : L2.St} {H : Hp} {s : Shared}
mutual
theorem nested_of (I : Inv X pins σ H s) : ∀ (d : D) (v : V) (u : Value), pureI d = true → RepD H d v → RelV v u → NestedIs s.heap (toKey d) u
  | .int i, v, u, _, r, rv => by
    cases (show v = .int i from r)
    obtain ⟨t, rfl⟩ := (show ∃ t, u = Value.int i t from rv)
    exact .int i t
  | .tup xs, v, u, h, r, rv => by
    obtain ⟨a, vs, rfl, h1, rs⟩ := r
    cases (show u = Value.ref a from rv)
    obtain ⟨_, its, va, o, ho, hc, n, hd⟩ := tupAt I h1
    exact .tup ho hc hd (by simpa using nesteds_of I xs vs its h rs va)
  | .non, _, _, h, _, _ => by cases h
  | .bl _, _, _, h, _, _ => by cases h
  | .str _, _, _, h, _, _ => by cases h
  | .lst _, _, _, h, _, _ => by cases h
  | .dct _ _, _, _, h, _, _ => by cases h
  | .obj _ _, _, _, h, _, _ => by cases h
  | .ref _, _, _, h, _, _ => by cases h
  | .clo _ _, _, _, h, _, _ => by cases h
theorem nesteds_of (I : Inv X pins σ H s) : ∀ (ds : List D) (vs : List V) (us : List Value), pureIL ds = true → RepDL H ds vs → Vals vs us → NestedAll s.heap (toKeys ds) us
  | [], vs, us, _, r, v => by
    cases (show vs = [] from r)
    cases v
    exact .nil
  | d :: ds, vs, us, h, r, v => by
    obtain ⟨v1, vr, e, p1, p2⟩ := r
    subst e
    unfold pureIL at h
    rw [Bool.and_eq_true] at h
    cases v with
    | cons rv rt => exact .cons (nested_of I d v1 _ h.1 p1 rv) (nesteds_of I ds vr _ h.2 p2 rt)
end
/-- the items with their keys -/
theorem keyed {g : Gm} {M : Mem} : ∀ {ds : List D} {vs : List V} {its : List Value}, (∀ d ∈ ds, ∃ xs, d = .tup xs) → RepL g M H ds vs → Vals vs its → ∃ ks : List (Addr × NestedKey), its = ks.map (fun p => Value.ref p.1) ∧ ks.length = ds.length ∧ (∀ p ∈ ks, ∃ d ∈ ds, toKey d = p.2 ∧ Rep g M H d (.ref p.1)) ∧ ∀ d ∈ ds, ∃ p ∈ ks, toKey d = p.2
  | [], vs, its, _, r, v => by
    cases (show vs = [] from r)
    cases v
    exact ⟨[], rfl, rfl, fun p hp => (nomatch hp), fun d hd => (nomatch hd)⟩
  | d :: ds, vs, its, ht, r, v => by
    obtain ⟨v1, vr, e, p1, p2⟩ := r
    subst e
    cases v with
    | @cons _ x _ xs rv rt =>
      obtain ⟨ks, k1, k2, k3, k4⟩ := keyed (ds := ds) (fun d hd => ht d (by simp [hd])) p2 rt
      obtain ⟨ys, rfl⟩ := ht d (by simp)
      obtain ⟨a, ws, rfl, h⟩ := id p1
      cases (show x = Value.ref a from rv)
      refine ⟨(a, toKey (.tup ys)) :: ks, by rw [List.map_cons, k1], by simp [k2], fun p hp => ?_, fun e he => ?_⟩
      · rcases List.mem_cons.mp hp with z | z
        · subst z; exact ⟨_, by simp, rfl, p1⟩
        · obtain ⟨d, hd, h1, h2⟩ := k3 p z
          exact ⟨d, by simp [hd], h1, h2⟩
      · rcases List.mem_cons.mp he with z | z
        · subst z; exact ⟨(a, toKey (.tup ys)), List.mem_cons_self, rfl⟩
        · obtain ⟨p, hp, h1⟩ := k4 e z
          exact ⟨p, by simp [hp], h1⟩
/-- the set's rows as data -/
theorem unkey {g : Gm} {M : Mem} {ds : List D} : ∀ {L : List (Addr × NestedKey)}, (∀ p ∈ L, ∃ d ∈ ds, toKey d = p.2 ∧ Rep g M H d (.ref p.1)) → ∃ ys, RepL g M H ys (L.map fun p => V.ref p.1) ∧ (∀ y ∈ ys, y ∈ ds) ∧ ys.map toKey = L.map (·.2)
  | [], _ => ⟨[], rfl, fun y hy => (nomatch hy), rfl⟩
  | p :: L, h => by
    obtain ⟨d, hd, h1, h2⟩ := h p (by simp)
    obtain ⟨ys, q1, q2, q3⟩ := unkey (L := L) fun p hp => h p (by simp [hp])
    refine ⟨d :: ys, ⟨_, _, rfl, h2, q1⟩, fun y hy => ?_, by rw [List.map_cons, List.map_cons, h1, q3]⟩
    rcases List.mem_cons.mp hy with z | z
    · subst z; exact hd
    · exact q2 y z
theorem vals_refs : ∀ (L : List (Addr × NestedKey)), Vals (L.map fun p => V.ref p.1) (L.map fun p => Value.ref p.1)
  | [] => .nil
  | p :: L => .cons rfl (vals_refs L)
theorem depL_le' {n : Nat} : ∀ {zs : List D}, (∀ y ∈ zs, y.dep ≤ n) → depL zs ≤ n
  | [], _ => Nat.zero_le _
  | z :: zs, h => by
    unfold depL
    have h1 := h z (by simp)
    have h2 := depL_le' (zs := zs) fun y hy => h y (by simp [hy])
    omega
theorem kinds_sub {ds ys : List D} (h : kinds ds) (hs : ∀ y ∈ ys, y ∈ ds) : kinds ys := by
  rcases h with h | h | h
  · exact .inl fun d hd => h d (hs d hd)
  · exact .inr (.inl fun d hd => h d (hs d hd))
  · exact .inr (.inr fun d hd => h d (hs d hd))
theorem kinds_tup {ds : List D} (h : kinds ds) : ∀ d ∈ ds, ∃ xs, d = .tup xs := fun d hd => by
  rcases h with h | h | h <;> (obtain ⟨_, _, e⟩ := h d hd; exact ⟨_, e⟩)
/-- sorted(the set) -/
theorem sorted_setN {c : LC} {m : Bool} {a : Addr} {L : List (Addr × NestedKey)} {es : Array (Int × Value)} {ep : Nat} {t : SetTable} {Q : VK} {Q' : Dee.K} {M : Mem} {ds : List D} (hc : X.calm = true) (I : Inv X pins σ H s) (hu : X.A.units + 64 < cLine) (mr : MRep c.mg M H) (R : DeeNest.SetN X.prog X.w s.heap a L es ep t)
    (hL : ∀ p ∈ L, ∃ d ∈ ds, toKey d = p.2 ∧ Rep c.mg M H d (.ref p.1)) (hA : ∀ d ∈ ds, toKey d ∈ L.map (·.2)) (ok : SetOk ds) (g : Goes c M H Q' Q)
    (w : ∀ ys, (∀ y, y ∈ ys ↔ y ∈ ds) → ys.Nodup → ys.Pairwise (fun a b => plt b a = some false) → newL m ys M Q') : wpAny (model X.prog X.w) X.A (call (.builtin "sorted") [.ref a]) (EP X pins σ Q) X.xe s := by
  obtain ⟨o, ho, hex, hd⟩ := R.ob
  have hfew := R.few
  have hsz := R.size
  obtain ⟨ys, q1, q2, q3⟩ := unkey hL
  have hmem : ∀ y, y ∈ ys ↔ y ∈ ds := fun y => ⟨q2 y, fun hy => by
    have h1 := hA y hy
    rw [← q3] at h1
    obtain ⟨z, hz, e⟩ := List.mem_map.mp h1
    rw [← toKey_inj z y (ok.nums z (q2 z hz)) (ok.nums y hy) e]
    exact hz⟩
  have hnd : ys.Nodup := by
    have h1 : (ys.map toKey).Nodup := by rw [q3]; exact R.nd
    exact List.Pairwise.of_map toKey (fun _ _ hne e => hne (congrArg toKey e)) h1
  have S : Sortd ys := ⟨fun y hy => ok.srt.pure y (q2 y hy), fun x hx y hy => ok.srt.cmp x (q2 x hx) y (q2 y hy)⟩
  have K := kinds_one (kinds_sub ok.kind q2)
  have hdep : depL ys ≤ 60 := depL_le' fun y hy => Nat.le_trans (dep_mem (q2 y hy)) (Nat.le_trans ok.dep (by decide))
  refine Calls.call_function_entry kind_sorted plain_sorted entry_sorted (args_sorted1 _) ?_
  unfold Builtin.«sorted»
  refine wpAny_bind (m := checkCount "sorted" 1 1 _) (wpAny_pure ?_)
  refine wpAny_bind (collect_set (A := X.A.in1) (I.ok.hd hc) ⟨o, ho, hex.1, hd⟩ R.fits (by unfold scanBound; omega) R.tab.ris R.led fun s1 vs k1 hz g1 o1 pm => ?_)
  have hes : es.toList.map (·.2) = L.map fun q => Value.ref q.1 := by
    rw [R.rows]
    unfold DeeNest.rowsN
    rw [List.map_map] <;> rfl
  rw [hes] at pm
  have hvl : vs.length < 64 := by rw [pm.length_eq, List.length_map]; exact hfew
  obtain ⟨zs, us, z1, z2, z3⟩ := perm_align pm.symm q1 (vals_refs L)
  have S' : Sortd zs := ⟨fun y hy => S.pure y (z1.mem_iff.mp hy), fun x hx y hy => S.cmp x (z1.mem_iff.mp hx) y (z1.mem_iff.mp hy)⟩
  have K' := kinds_one (kinds_sub ok.kind fun y hy => q2 y (z1.mem_iff.mp hy))
  have hdep' : depL zs ≤ 60 := depL_le' fun y hy => Nat.le_trans (dep_mem (z1.mem_iff.mp hy)) hdep
  have rd := z2.dat hdep'
  refine wpAny_bind (wpAny_newList ?_ (by rw [sizeLine_eq]; omega))
  have hoL : (s1.heap.push (seqObj "list" vs.toArray 0)).get? s1.heap.objs.size = some (seqObj "list" vs.toArray 0) := Heap.get?_push_size _ rfl
  have k2 : ∀ b u, s.heap.get? b = some u → (TS.midHeap (s1.heap.push (seqObj "list" vs.toArray 0)) s1.heap.objs.size vs).get? b = some u := fun b u e =>
    _root_.TS.midHeap_old (Nat.ne_of_lt (Heap.lt_size (k1 b u e))) (Heap.get?_push_of_some _ (k1 b u e))
  have I2 : Inv X pins σ H { s1 with heap := TS.midHeap (s1.heap.push (seqObj "list" vs.toArray 0)) s1.heap.objs.size vs } :=
    I.call' (ch := []) o1 (Un.kept k2) (I.hok.kept k2) (by show AllBare s1.gens; rw [g1]; exact I.bare) fun _ z => nomatch z
  show wpAny _ _ _ _ _ { s1 with heap := s1.heap.push (seqObj "list" vs.toArray 0) }
  refine wpAny_bind (wpAny_holding (wpAny_call_entry slot_list_sort ⟨_, hoL, rfl⟩ entry_list_sort (sort_dat (s0 := { s1 with heap := s1.heap.push (seqObj "list" vs.toArray 0) }) hoL hvl I2 ?_ S' K' hdep' rd z3 fun out a1 a2 => ⟨_, rfl, ?_⟩) (args_list_sort _)))
  · simp
    omega
  · obtain ⟨cc, hcc⟩ := sortedHeap_at (vs := vs) (out := out) hoL
    obtain ⟨ys2, us2, w1, w2, w3⟩ := perm_align a1.symm z2 z3
    have pw := pw_align S' (fun e he => kinds_tup ok.kind e (q2 e (z1.mem_iff.mp he))) (fun y hy => w1.mem_iff.mp hy) (w2.dat (depL_le' fun y hy => Nat.le_trans (dep_mem (w1.mem_iff.mp hy)) hdep')) w3 a2
    have k3 : ∀ b u, s.heap.get? b = some u → (sortedHeap (s1.heap.push (seqObj "list" vs.toArray 0)) s1.heap.objs.size vs out).get? b = some u := fun b u e => by
      have q := k1 b u e
      have hlt := Heap.lt_size q
      rw [sortedHeap_old (Nat.ne_of_lt hlt) (by rw [size_push']; exact Nat.lt_succ_of_lt hlt)]
      exact Heap.get?_push_of_some _ q
    have hn : H s1.heap.objs.size = none := I.hok.fresh hz
    have hlen : us2.length ≤ sizeLine := by
      rw [← w2.length, w1.length_eq, z1.length_eq, q1.length, List.length_map, sizeLine_eq]
      omega
    have J : Inv X pins σ (upd H s1.heap.objs.size (.lst us2)) { s1 with heap := sortedHeap (s1.heap.push (seqObj "list" vs.toArray 0)) s1.heap.objs.size vs out } :=
      I.call' (ch := []) o1 (Un.laid k3 hz hn) (I.hok.laid k3 hz ⟨hlen, out.toList, cc, w3, hcc⟩) (by show AllBare s1.gens; rw [g1]; exact I.bare) fun _ z => nomatch z
    refine wpAny_pure ⟨_, rfl, ⟨.ref _, _, J, rfl, g.newL mr (w ys2 (fun y => ?_) ?_ pw) w2 hn⟩⟩
    · rw [w1.mem_iff, z1.mem_iff]
      exact hmem y
    · exact (w1.nodup_iff.mpr (z1.nodup_iff.mpr hnd))
end
end Dee

set_option Elab.async false
set_option linter.all false
set_option autoImplicit false
set_option maxRecDepth 100000
set_option maxHeartbeats 400000
/-! Dee: built-in functions, methods, isinstance. -/
namespace Dee
open PySem PySem.Spec PyProof.Rows L2
section
variable {X : Cx} {c : LC}
/-! ### built-in functions -/
def biOf : Bi → Value
  | .len => .builtin "len" | .abs => .builtin "abs" | .int => .type "int" | .str => .type "str" | .list => .type "list" | .tuple => .type "tuple" | .dict => .type "dict"
  | .all => .builtin "all" | .any => .builtin "any" | .sum => .builtin "sum" | .max2 => .builtin "max" | .min2 => .builtin "min" | .max1 => .builtin "max" | .min1 => .builtin "min"
  | .sorted => .builtin "sorted" | .lenset => .none | .sortset => .none
def rBi (c : LC) (b : Bi) (k : Bool) : List V → Hp → VK → Prop := fun xs H Q => ∃ ds M Q', MRep c.mg M H ∧ RepL c.mg M H ds xs ∧ biop b k ds M Q' ∧ Goes c M H Q' Q
theorem ints_V {mg : Gm} {M : Mem} {H : Hp} : ∀ {xs : List D} {vs : List V} {ns : List Int}, RepL mg M H xs vs → dInts xs = some ns → vs = ns.map V.int
  | [], _, _, h, e => by cases (show _ = [] from h); cases e; rfl
  | x :: xs, _, _, ⟨v, r, e1, hx, hr⟩, e => by
    subst e1
    cases x with
    | int i =>
      cases (show v = .int i from hx)
      simp only [dInts, Option.map_eq_some_iff] at e
      obtain ⟨ms, e2, rfl⟩ := e
      rw [ints_V hr e2]; rfl
    | _ => cases e
theorem bools_V {mg : Gm} {M : Mem} {H : Hp} : ∀ {xs : List D} {vs : List V} {ns : List Bool}, RepL mg M H xs vs → dBools xs = some ns → vs = ns.map V.bl
  | [], _, _, h, e => by cases (show _ = [] from h); cases e; rfl
  | x :: xs, _, _, ⟨v, r, e1, hx, hr⟩, e => by
    subst e1
    cases x with
    | bl i =>
      cases (show v = .bl i from hx)
      simp only [dBools, Option.map_eq_some_iff] at e
      obtain ⟨ms, e2, rfl⟩ := e
      rw [bools_V hr e2]; rfl
    | _ => cases e
theorem texts_V {mg : Gm} {M : Mem} {H : Hp} : ∀ {xs : List D} {vs : List V} {ns : List Str}, RepL mg M H xs vs → dTexts xs = some ns → vs = ns.map V.str
  | [], _, _, h, e => by cases (show _ = [] from h); cases e; rfl
  | x :: xs, _, _, ⟨v, r, e1, hx, hr⟩, e => by
    subst e1
    cases x with
    | str i =>
      cases (show v = .str i from hx)
      simp only [dTexts, Option.map_eq_some_iff] at e
      obtain ⟨ms, e2, rfl⟩ := e
      rw [texts_V hr e2]; rfl
    | _ => cases e
theorem lst_of {mg : Gm} {M : Mem} {H : Hp} (m : MRep mg M H) {d : D} {v : V} {xs : List D} (r : Rep mg M H d v) (t : isTup d = false) (e : seqM M d = some xs) : ∃ a vs, v = .ref a ∧ RepL mg M H xs vs ∧ Rd H a (.lst vs) := by
  obtain ⟨a, vs, ev, rs, h⟩ := seq_of m r e
  rcases h with ⟨z, _⟩ | ⟨_, h⟩
  · rw [t] at z; cases z
  · exact ⟨a, vs, ev, rs, h⟩
theorem dct_rd {mg : Gm} {M : Mem} {H : Hp} (m : MRep mg M H) {d : D} {v : V} {p : Bool × List (D × D)} (r : Rep mg M H d v) (e : dctM M d = some p) :
    ∃ a, v = .ref a ∧ ((p.1 = false ∧ ∃ ws, Rd H a (.dK ws) ∧ RepK mg M H p.2 ws) ∨ (p.1 = true ∧ ∃ ws, Rd H a (.dT ws) ∧ RepT mg M H p.2 ws)) := by
  obtain ⟨t, kvs⟩ := p
  exact dct_of m r e
theorem repK_keys {mg : Gm} {M : Mem} {H : Hp} : ∀ {kvs : List (D × D)} {ws : List (Key × V)}, RepK mg M H kvs ws → RepL mg M H (kvs.map (·.1)) (ws.map fun kv => kV kv.1)
  | [], _, h => by cases (show _ = [] from h); rfl
  | (k, d) :: kvs, _, ⟨j, v, r, e, hk, hd, hr⟩ => by
    subst e hk
    refine ⟨_, _, rfl, ?_, repK_keys hr⟩
    cases j <;> rfl
theorem pairs_V {mg : Gm} {M : Mem} {H : Hp} {K : PySem.W.Frag} : ∀ {xs : List D} {vs : List V} {ps : List (D × D)}, RepL mg M H xs vs → dPairs xs = some ps → (∀ p ∈ ps, isKey false p.1 = true) →
    ∃ (as : List Addr) (kvs : List (Key × V)), vs = as.map V.ref ∧ Paired (fun p kv => SqT K H p [kV kv.1, kv.2]) as kvs ∧ RepK mg M H ps kvs
  | [], _, _, h, e, _ => by cases (show _ = [] from h); cases e; exact ⟨[], [], rfl, .nil, rfl⟩
  | x :: xs, _, ps, ⟨v, r, e1, hx, hr⟩, e, hk => by
    subst e1
    obtain ⟨a, b, ex⟩ : ∃ a b, x = .tup [a, b] := by
      cases x with
      | tup ys =>
        cases ys with
        | nil => cases e
        | cons a ys =>
          cases ys with
          | nil => cases e
          | cons b ys =>
            cases ys with
            | nil => exact ⟨a, b, rfl⟩
            | cons _ _ => cases e
      | _ => cases e
    subst ex
    simp only [dPairs, Option.map_eq_some_iff] at e
    obtain ⟨qs, e2, e3⟩ := e
    subst e3
    obtain ⟨as, kvs, e3, pr, rk⟩ := pairs_V (K := K) hr e2 fun p hp => hk p (List.mem_cons_of_mem _ hp)
    obtain ⟨ad, us, ev, na, ha, ru⟩ := hx
    obtain ⟨ka, vb, eu, ra, rb⟩ := repL2 ru
    subst eu
    obtain ⟨j, ej, ek⟩ := repK_key (hk (a, b) List.mem_cons_self) ra
    exact ⟨ad :: as, (j, vb) :: kvs, by rw [ev, e3]; rfl, .cons (.inl (by rw [← ej]; exact ha.rd)) pr, ⟨_, _, _, rfl, ek, rb, rk⟩⟩
theorem putAll_K {mg : Gm} {M : Mem} {H : Hp} : ∀ {ps : List (D × D)} {ws : List (Key × V)} {kvs : List (D × D)} {us : List (Key × V)}, RepK mg M H ps ws → RepK mg M H kvs us → RepK mg M H (putAll kvs ps) (mergeK us ws)
  | [], _, _, _, h, h2 => by cases (show _ = [] from h); exact h2
  | (k, d) :: ps, _, kvs, us, ⟨j, v, r, e, hk, hd, hr⟩, h2 => by
    subst e hk
    show RepK mg M H (putAll (put kvs (keyD j) d) ps) (mergeK (putK us j v) r)
    exact putAll_K hr (repK_put hd h2)
/-- dict(t), t a plain tuple of pairs -/
theorem call_dictT {pins : List (Addr × Obj)} {σ : L2.St} {H : Hp} {s : Shared} {us : List Value} {Q : VK} {a : Addr} {ps : List Addr} {kvs : List (Key × V)} {o : Obj} (hc : X.calm = true) (I : Inv X pins σ H s) (r : Vals [V.ref a] us) (h : H a = some (.frz o (.tup (ps.map V.ref)))) (hdn : o.dict = none)
    (hp : Paired (fun p kv => SqT X.K H p [kV kv.1, kv.2]) ps kvs) (q : ∀ p, H p = none → Q (.ref p) (upd H p (.dK (mergeK [] kvs)))) : wpAny (model X.prog X.w) X.A (call (.type "dict") us) (EP X pins σ Q) X.xe s := by
  obtain ⟨u, rfl, ru⟩ := r.one
  cases ru
  obtain ⟨ho, hz, its, rv, o', ho', hcl, n, hdt⟩ := (show ObjOk X.prog X.w H s.heap a (.frz o (.tup (ps.map V.ref))) from I.hok a _ h)
  rw [ho] at ho'
  cases ho'
  have ei := refs_at rv
  subst ei
  rw [List.length_map] at hz
  obtain ⟨prs, rel, hl, hpr⟩ := pairs_of I hp
  have hx : ∀ j : Nat, ∃ p : Value × Value, ∀ q, prs[j]? = some q → ∃ b, ps[j]? = some b ∧ p.2 = q.2 ∧ IsTup s.heap b #[p.1, q.2] ∧ keyIs q.1 p.1 = true := fun j => by
    cases e : prs[j]? with
    | none => exact ⟨(.none, .none), fun q z => nomatch z⟩
    | some q =>
      obtain ⟨b, u, e1, e2, e3⟩ := hpr j q e
      exact ⟨(u, q.2), fun q' z => by cases z; exact ⟨b, e1, rfl, e2, e3⟩⟩
  obtain ⟨f, hf⟩ := Classical.skolem.mp hx
  have at_ : ∀ j k v, ((List.range prs.length).map f)[j]? = some (k, v) → ∃ (q : Key × Value) (b : Addr), prs[j]? = some q ∧ ps[j]? = some b ∧ v = q.2 ∧ IsTup s.heap b #[k, v] ∧ keyIs q.1 k = true := fun j k v e => by
    rw [List.getElem?_map] at e
    have hj : j < prs.length := by
      by_cases z : j < prs.length
      · exact z
      · rw [List.getElem?_eq_none (by simpa using z)] at e
        cases e
    rw [List.getElem?_range hj] at e
    have hq : prs[j]? = some prs[j] := List.getElem?_eq_getElem hj
    obtain ⟨b, e1, e2, e3, e4⟩ := hf j _ hq
    have e' : f j = (k, v) := by simpa using e
    rw [e'] at e2 e3 e4
    exact ⟨_, b, hq, e1, e2, by rw [show v = _ from e2]; exact e3, e4⟩
  have P := PairArg.tuple (prog := X.prog) (w := X.w) a (ps.map Value.ref).toArray (fun j => ps.getD j 0) ((List.range prs.length).map f)
  refine PySem.call_dict_pairs (knd := mixKind X.prog X.w) (kvs := prs) P (I.ok.hd hc) ⟨⟨o, n, ho, hcl, hdn, hdt⟩, by simp [hl], fun j k v e => ?_⟩ ⟨by simp, fun j k v e => ?_⟩ (by simp [hl]; exact hz) fun h' tk hd' k => ?_
  · obtain ⟨q', b, e1, e2, e3, e4, e5⟩ := at_ j k v e
    refine ⟨by simp [e2], .inl ?_⟩
    have : ps.getD j 0 = b := by simp [List.getD, e2]
    show s.heap.IsTuple (ps.getD j 0) #[k, v]
    rw [this]
    exact e4
  · obtain ⟨q', b, e1, e2, e3, e4, e5⟩ := at_ j k v e
    exact ⟨q'.1, by rw [e1, e3], e5⟩
  · have hm : (s.heap.objs.size == sysModules) = false := beq_eq_false_iff_ne.mpr (Nat.ne_of_gt I.big)
    have hlen : (mergeK [] kvs).length ≤ sizeLine := by
      refine Nat.le_trans (length_mergeK kvs []) ?_
      rw [List.length_nil, Nat.zero_add, rel.length, hl]
      exact hz
    exact ⟨.ref s.heap.objs.size, upd H s.heap.objs.size (.dK (mergeK [] kvs)), I.laid (t' := tk) (fun b o e => k b o List.not_mem_nil e) (Nat.le_refl _) (show ObjOk X.prog X.w _ _ _ (.dK (mergeK [] kvs)) from ⟨hlen, hm, merged [] prs, KV.merge rel .nil, hd'⟩), rfl, q _ (I.hok.fresh (Nat.le_refl _))⟩
theorem plnM_of {M : Mem} {d : D} {xs : List D} (h : plnM M d = some xs) : ∃ a, d = .ref a ∧ M a = some (.tup xs) := by
  cases d with
  | ref a =>
    unfold plnM at h
    dsimp only at h
    split at h
    · rename_i e; cases h; exact ⟨a, rfl, e⟩
    · cases h
  | _ => cases h
/-- tuple(xs), xs a list: a plain one -/
theorem call_tupleP {pins : List (Addr × Obj)} {σ : L2.St} {H : Hp} {s : Shared} {us : List Value} {Q : VK} {a : Addr} {ys : List V} (I : Inv X pins σ H s) (r : Vals [V.ref a] us) (h : Rd H a (.lst ys)) (q : ∀ p o, H p = none → o.dict = none → Q (.ref p) (upd H p (.frz o (.tup ys)))) : wpAny (model X.prog X.w) X.A (call (.type "tuple") us) (EP X pins σ Q) X.xe s := by
  obtain ⟨u, rfl, ru⟩ := r.one
  cases ru
  obtain ⟨its, r', pl, hz⟩ := I.list (show SqL X.K H a ys from .inl h)
  have hlen := r'.length
  refine call_tuple_list pl.isList (fun h' kp => ?_) (by simp only [List.size_toArray] <;> omega)
  have I1 : Inv X pins σ H { s with heap := h' } := I.kept (t' := s.toks) kp
  have I2 : Inv X pins σ (upd H h'.objs.size (.frz { cls := .type "tuple", data := .seq its.toArray } (.tup ys))) { s with heap := h'.push { cls := .type "tuple", data := .seq its.toArray } } :=
    I1.laid (t' := s.toks) (fun b o e => Heap.get?_push_of_some _ e) (Nat.le_refl _) (show ObjOk X.prog X.w _ _ _ (.frz _ (.tup ys)) from ⟨Heap.get?_push_size _ rfl, hz, its, r', IsTup.new _ _⟩)
  exact ⟨.ref h'.objs.size, _, I2, rfl, q _ _ (I1.hok.fresh (Nat.le_refl _)) rfl⟩
def biSup : Bi → Bool | .lenset => false | .sortset => false | _ => true
theorem bi_ok (b : Bi) (k : Bool) (hc : X.calm = true) (hu : X.A.units + 64 < cLine) (hb : biSup b = true) : CallR X (biOf b) (rBi c b k) := by
  intro pins s σ H xs us Q I r h
  obtain ⟨ds, M, Q', m, rs, w, g⟩ := h
  cases b with
  | len =>
    obtain ⟨d, rfl, w⟩ := on1_one w
    obtain ⟨v, rfl, rd⟩ := repL1 rs
    have gen : (match dctM M d with | some p => p.1 = false ∧ Q' (.int p.2.length) M | none => ob (seqM M d) fun xs => Q' (.int xs.length) M) → wpAny (model X.prog X.w) X.A (call (.builtin "len") us) (EP X pins σ Q) X.xe s := fun w => by
      split at w
      · rename_i p e
        obtain ⟨a, rfl, h⟩ := dct_rd m rd e
        rcases h with ⟨_, ws, h, hr⟩ | ⟨z, ws, h, hr⟩
        · obtain ⟨u, rfl, ru⟩ := r.one
          cases ru
          exact d_len I h fun t s' J => ⟨.int ws.length, H, J, ⟨_, rfl⟩, by rw [← hr.length]; exact g.now m w.2 rfl⟩
        · rw [w.1] at z; cases z
      · obtain ⟨xs, e, q⟩ := ob_some w
        obtain ⟨a, vs, rfl, rv, h⟩ := seq_of m rd e
        refine call_len_seq pins s σ H _ us Q I r ⟨a, vs, rfl, ?_, by rw [← rv.length]; exact g.now m q rfl⟩
        rcases h with ⟨_, h⟩ | ⟨_, h⟩
        · exact .inr ((.inl h))
        · exact .inl (.inl h)
    cases d with
    | str z => exact call_len_str pins s σ H _ us Q I r ⟨z, by rw [show v = .str z from rd], by rw [← line_eq]; exact w.1, g.now m w.2 rfl⟩
    | _ => exact gen w
  | abs =>
    obtain ⟨d, rfl, w⟩ := on1_one w
    obtain ⟨v, rfl, rd⟩ := repL1 rs
    obtain ⟨i, rfl, q⟩ := onI_int w
    exact call_abs pins s σ H _ us Q I r ⟨i, by rw [show v = .int i from rd], g.now m q rfl⟩
  | int =>
    obtain ⟨d, rfl, w⟩ := on1_one w
    obtain ⟨v, rfl, rd⟩ := repL1 rs
    obtain ⟨i, rfl, q⟩ := onI_int w
    exact call_int1 pins s σ H _ us Q I r (.inl ⟨i, by rw [show v = .int i from rd], g.now m q rfl⟩)
  | str =>
    obtain ⟨d, rfl, w⟩ := on1_one w
    obtain ⟨v, rfl, rd⟩ := repL1 rs
    obtain ⟨i, rfl, hz, q⟩ := onI_int w
    exact call_str_int pins s σ H _ us Q I r ⟨i, by rw [show v = .int i from rd], hz, g.now m q rfl⟩
  | list =>
    obtain ⟨d, ed, w1⟩ := on1_one w
    clear w
    subst ed
    obtain ⟨v, rfl, rd⟩ := repL1 rs
    split at w1
    · exact w1.elim
    · obtain ⟨xs, e, q⟩ := ob_some w1
      obtain ⟨a, vs, rfl, rv, h⟩ := seq_of m rd e
      refine call_list_of pins s σ H _ us Q I r ⟨a, vs, rfl, ?_, fun p hp => g.newL m q rv hp⟩
      rcases h with ⟨_, h⟩ | ⟨_, h⟩
      · exact .inr ((.inl h))
      · exact .inl (.inl h)
  | tuple =>
    obtain ⟨d, ed, w1⟩ := on1_one w
    clear w
    subst ed
    obtain ⟨v, rfl, rd⟩ := repL1 rs
    obtain ⟨xs, e, q⟩ := ob_some w1
    obtain ⟨a, vs, rfl, rv, h⟩ := seq_of m rd e
    cases k with
    | true =>
      rcases h with ⟨ht, h⟩ | ⟨ht, h⟩
      · refine call_tuple_of pins s σ H _ us Q I r ⟨a, vs, rfl, .inr ⟨.inl h, ?_⟩⟩
        rw [ht] at q
        cases d with
        | tup ys => cases e; exact g.now m q rd
        | _ => cases ht
      · rw [ht] at q
        exact call_tupleP I r h fun p o hp hd => g.pln m q rv hp hd
    | false =>
      have q : Q' (.tup xs) M := q
      refine call_tuple_of pins s σ H _ us Q I r ⟨a, vs, rfl, ?_⟩
      rcases h with ⟨ht, h⟩ | ⟨ht, h⟩
      · refine .inr ⟨(.inl h), ?_⟩
        cases d with
        | tup ys => cases e; exact g.now m q rd
        | _ => cases ht
      · exact .inl ⟨.inl h, fun p hp => g.tup m q rv hp⟩
  | dict =>
    obtain ⟨d, ed, w1⟩ := on1_one w
    clear w
    subst ed
    obtain ⟨v, rfl, rd⟩ := repL1 rs
    split at w1
    · exact w1.elim
    · obtain ⟨xs, e, w⟩ := ob_some w1
      obtain ⟨ps, e2, hk, q⟩ := ob_some w
      split at e
      · rename_i ys ey
        cases e
        obtain ⟨a, ea, ho⟩ := plnM_of ey
        subst ea
        cases (show v = V.ref a from rd)
        obtain ⟨o, vs, h, hdn, rv⟩ := m.std a _ ho
        obtain ⟨as, kvs, rfl, pr, rk⟩ := pairs_V (K := X.K) rv e2 hk
        exact call_dictT hc I r h hdn pr fun p hp => g.newK m q (putAll_K rk rfl) hp
      · cases t : isTup d with
        | true => rw [t, if_pos rfl] at e; cases e
        | false =>
          rw [t, if_neg Bool.false_ne_true] at e
          obtain ⟨a, vs, rfl, rv, h⟩ := lst_of m rd t e
          obtain ⟨as, kvs, rfl, pr, rk⟩ := pairs_V (K := X.K) rv e2 hk
          exact call_dictP hc pins s σ H _ us Q I r ⟨a, as, kvs, rfl, .inl h, pr, fun p hp => g.newK m q (putAll_K rk rfl) hp⟩
  | all =>
    obtain ⟨d, rfl, t, w⟩ := on1_one w
    obtain ⟨v, rfl, rd⟩ := repL1 rs
    obtain ⟨xs, e, w⟩ := ob_some w
    obtain ⟨bs, e2, q⟩ := ob_some w
    obtain ⟨a, vs, rfl, rv, h⟩ := lst_of m rd t e
    exact cr_all hc pins s σ H _ us Q I r ⟨a, bs, rfl, .inl (by rw [← bools_V rv e2]; exact h), g.now m q rfl⟩
  | any =>
    obtain ⟨d, rfl, t, w⟩ := on1_one w
    obtain ⟨v, rfl, rd⟩ := repL1 rs
    obtain ⟨xs, e, w⟩ := ob_some w
    obtain ⟨bs, e2, q⟩ := ob_some w
    obtain ⟨a, vs, rfl, rv, h⟩ := lst_of m rd t e
    exact cr_any hc pins s σ H _ us Q I r ⟨a, bs, rfl, .inl (by rw [← bools_V rv e2]; exact h), g.now m q rfl⟩
  | sum =>
    obtain ⟨d, rfl, t, w⟩ := on1_one w
    obtain ⟨v, rfl, rd⟩ := repL1 rs
    obtain ⟨xs, e, w⟩ := ob_some w
    obtain ⟨bs, e2, q⟩ := ob_some w
    obtain ⟨a, vs, rfl, rv, h⟩ := lst_of m rd t e
    exact cr_sum hc pins s σ H _ us Q I r ⟨a, bs, rfl, .inl (by rw [← ints_V rv e2]; exact h), g.now m q rfl⟩
  | sorted =>
    obtain ⟨d, ed, t, w1⟩ := on1_one w
    clear w
    subst ed
    obtain ⟨v, rfl, rd⟩ := repL1 rs
    obtain ⟨xs, e, ok, w⟩ := ob_some w1
    obtain ⟨a, vs, rfl, rv, h⟩ := lst_of m rd t e
    obtain ⟨u, rfl, ru⟩ := r.one
    cases ru
    exact call_sortedD (E' := fun _ _ => False) I hu m h rv ok g w
  | max2 =>
    obtain ⟨d, e, rfl, w⟩ := on2_two w
    obtain ⟨v, u, rfl, rd, re⟩ := repL2 rs
    obtain ⟨i, rfl, w⟩ := onI_int w
    obtain ⟨j, rfl, q⟩ := onI_int w
    exact call_max2 hc pins s σ H _ us Q I r ⟨i, j, by rw [show v = .int i from rd, show u = .int j from re], g.now m q rfl⟩
  | min2 =>
    obtain ⟨d, e, rfl, w⟩ := on2_two w
    obtain ⟨v, u, rfl, rd, re⟩ := repL2 rs
    obtain ⟨i, rfl, w⟩ := onI_int w
    obtain ⟨j, rfl, q⟩ := onI_int w
    exact call_min2 hc pins s σ H _ us Q I r ⟨i, j, by rw [show v = .int i from rd, show u = .int j from re], g.now m q rfl⟩
  | max1 =>
    obtain ⟨d, rfl, t, w⟩ := on1_one w
    obtain ⟨v, rfl, rd⟩ := repL1 rs
    obtain ⟨xs, e, w⟩ := ob_some w
    obtain ⟨bs, e2, h0, q⟩ := ob_some w
    obtain ⟨a, vs, rfl, rv, h⟩ := lst_of m rd t e
    exact cr_max hc pins s σ H _ us Q I r ⟨a, bs, rfl, .inl (by rw [← ints_V rv e2]; exact h), h0, fun k h1 h2 => g.now m (q k h1 h2) rfl⟩
  | min1 =>
    obtain ⟨d, rfl, t, w⟩ := on1_one w
    obtain ⟨v, rfl, rd⟩ := repL1 rs
    obtain ⟨xs, e, w⟩ := ob_some w
    obtain ⟨bs, e2, h0, q⟩ := ob_some w
    obtain ⟨a, vs, rfl, rv, h⟩ := lst_of m rd t e
    exact cr_min hc pins s σ H _ us Q I r ⟨a, bs, rfl, .inl (by rw [← ints_V rv e2]; exact h), h0, fun k h1 h2 => g.now m (q k h1 h2) rfl⟩
  | _ => cases hb

/-! ### methods -/
def mtOf : Mt → String | .append => "list.append" | .extend => "list.extend" | .pop => "list.pop" | .get => "dict.get" | .index => "list.index" | .count => "tuple.count" | .join => "str.join" | .split => "str.split"
def mtTy : Mt → String | .append => "list" | .extend => "list" | .pop => "list" | .get => "dict" | .index => "list" | .count => "tuple" | .join => "str" | .split => "str"
def rMt (c : LC) (x : Mt) : V → List V → Hp → VK → Prop := fun o xs H Q => ∃ d ds M Q', MRep c.mg M H ∧ Rep c.mg M H d o ∧ RepL c.mg M H ds xs ∧ mthop x d ds M Q' ∧ Goes c M H Q' Q
theorem atL_at {M : Mem} {a : Nat} {xs : List D} (h : atL M a = some xs) : M a = some (.lst xs) := by
  unfold atL at h
  split at h
  · rename_i ys e
    cases h
    exact e
  · cases h
theorem RepL.dropLast {mg : Gm} {M : Mem} {H : Hp} {ds : List D} {vs : List V} (h : RepL mg M H ds vs) : RepL mg M H ds.dropLast vs.dropLast := by
  rw [List.dropLast_eq_take, List.dropLast_eq_take, h.length]
  exact h.take _
def mtSup : Mt → Bool | .append => true | .extend => true | .pop => true | .join => true | .get => true | .index => true | _ => false
theorem mt_ok (k : Mt) (hu : X.A.units + 64 < cLine) (hb : mtSup k = true) : MtR X (mtOf k) (rMt c k) := by
  intro pins s σ H x xs v us Q I rx rs h
  obtain ⟨d, ds, M, Q', m, rd, rv, w, g⟩ := h
  cases k with
  | append =>
    obtain ⟨a, ea, w1⟩ := onR_ref w
    obtain ⟨ys, ey, w2⟩ := ob_some w1
    obtain ⟨e, ee, hl, q⟩ := on1_one w2
    subst ea ee
    have ex : x = .ref a := rd
    subst ex
    obtain ⟨u, eu, ru⟩ := repL1 rv
    subst eu
    have hm : H a = none ∨ ∃ y, M a = some y := .inr ⟨_, atL_at ey⟩
    obtain ⟨vs, hv, rvs⟩ := m.std a _ (atL_at ey)
    refine mt_append pins s σ H _ _ v us Q I rx rs ⟨a, vs, u, rfl, rfl, hv, by rw [← line_eq, ← rvs.length]; exact hl, ?_⟩
    exact g _ _ _ _ q (Mono.put hm) (m.put hm ⟨_, upd_same, (rvs.mono (Mono.put hm)).append ⟨u, [], rfl, ru.mono (Mono.put hm), rfl⟩⟩) rfl
  | extend =>
    obtain ⟨a, ea, w1⟩ := onR_ref w
    obtain ⟨ys, ey, w2⟩ := ob_some w1
    obtain ⟨e, ee, w3⟩ := on1_one w2
    obtain ⟨zs, ez, _, hl, q⟩ := ob_some w3
    subst ea ee
    have ex : x = .ref a := rd
    subst ex
    obtain ⟨u, eu, ru⟩ := repL1 rv
    subst eu
    have hm : H a = none ∨ ∃ y, M a = some y := .inr ⟨_, atL_at ey⟩
    obtain ⟨vs, hv, rvs⟩ := m.std a _ (atL_at ey)
    obtain ⟨b, ws, eb, rw', hw⟩ := seq_of m ru ez
    subst eb
    refine mt_extL pins s σ H _ _ v us Q I rx rs ⟨a, b, vs, ws, rfl, rfl, hv, ?_, by rw [← line_eq, ← rvs.length, ← rw'.length]; exact hl, ?_⟩
    · rcases hw with ⟨_, hw⟩ | ⟨_, hw⟩
      · exact .inr hw
      · exact .inl hw
    · exact g _ _ _ _ q (Mono.put hm) (m.put hm ⟨_, upd_same, (rvs.mono (Mono.put hm)).append (rw'.mono (Mono.put hm))⟩) rfl
  | pop =>
    obtain ⟨a, ea, w1⟩ := onR_ref w
    obtain ⟨ys, ey, ed, w2⟩ := ob_some w1
    obtain ⟨z, ez, q⟩ := ob_some w2
    subst ea ed
    have ex : x = .ref a := rd
    subst ex
    cases (show xs = [] from rv)
    have hm : H a = none ∨ ∃ y, M a = some y := .inr ⟨_, atL_at ey⟩
    obtain ⟨vs, hv, rvs⟩ := m.std a _ (atL_at ey)
    rw [List.getLast?_eq_getElem?] at ez
    obtain ⟨u, eu, ru⟩ := rvs.get ez
    refine mt_pop pins s σ H _ _ v us Q I rx rs ⟨a, vs, u, rfl, rfl, hv, by rw [← rvs.length]; exact eu, ?_⟩
    exact g _ _ _ _ q (Mono.put hm) (m.put hm ⟨_, upd_same, (rvs.mono (Mono.put hm)).dropLast⟩) (ru.mono (Mono.put hm))
  | get =>
    obtain ⟨p, ep, w1⟩ := ob_some w
    obtain ⟨e, f, ee, hk, q⟩ := on2_two w1
    subst ee
    obtain ⟨y, z, ey, re, rf⟩ := repL2 rv
    subst ey
    obtain ⟨a, r, ex, dg, l1, l2⟩ := dget_of m rd re ep hk
    subst ex
    cases (show v = Value.ref a from rx)
    obtain ⟨u1, u2, eu, r1, r2⟩ := rs.two
    subst eu
    refine d_get2 (by omega) I dg r1 r2 fun w' s' J rw' => ⟨_, H, J, rw', ?_⟩
    cases hl : look p.2 e with
    | none => rw [l2 hl]; rw [hl] at q; exact g.now m q rf
    | some t => obtain ⟨w, e2, rt⟩ := l1 t hl; rw [e2]; rw [hl] at q; exact g.now m q rt
  | index =>
    obtain ⟨ys, ey, w1⟩ := ob_some w
    obtain ⟨e, ee, ⟨h1, h2, h3⟩, w2⟩ := on1_one w1
    obtain ⟨j, ej, q⟩ := ob_some w2
    subst ee
    obtain ⟨y, ey', re⟩ := repL1 rv
    subst ey'
    obtain ⟨a, vs, ea, rvs, hat⟩ := seq_of m rd ey
    subst ea
    cases rx
    obtain ⟨u, rfl, ru⟩ := rs.one
    rcases hat with ⟨z, _⟩ | ⟨_, hat⟩
    · rw [h3] at z; cases z
    · obtain ⟨hz, its, n, r1, p⟩ := Rd.listAt I hat
      have hl := r1.length
      have hl2 := rvs.length
      obtain ⟨hj, e1, e2⟩ := List.findIdx?_eq_some_iff_getElem.mp ej
      have at_ : ∀ (i : Nat) (hi : i < its.toArray.size) (hi2 : i < ys.length), eU H e its.toArray[i] = peq ys[i] e := fun i hi hi2 => by
        obtain ⟨v', e3, r3⟩ := rvs.get (List.getElem?_eq_getElem hi2)
        obtain ⟨u', e4, r4⟩ := r1.get e3
        have : its.toArray[i] = u' := by
          have e5 : its.toArray[i]? = some u' := by simpa using e4
          rw [Array.getElem?_eq_getElem hi] at e5
          cases e5; rfl
        rw [this]
        exact eU_of (r3.dat (Nat.le_trans (dep_mem (List.getElem_mem hi2)) h2)) r4
      have hjs : j < its.toArray.size := by simp; omega
      have hsl := sizeLine_eq
      refine call_meets PySem.F.slot_list_index ⟨_, p, rfl⟩ PySem.F.entry_list_index (PySem.F.args_list_index_2 _ _)
        (SeqAt.list_indexAt a its.toArray n none #[] u (eU H e) j hjs (by omega) (by rw [at_ j hjs hj]; exact e1) fun i hi hij => ?_) ⟨p, fun w hw => mem_eU I (re.dat h1) ru (by omega) (rvs.dat h2) h2 r1 w (by simpa using hw), ?_⟩
      · rw [at_ i hi (by omega)]
        simpa using e2 i hij
      · exact ⟨.int (j : Nat), H, I.tok _, ⟨_, rfl⟩, g.now m q rfl⟩
  | join =>
    obtain ⟨z, ez, w1⟩ := onS_str w
    obtain ⟨e, ee, w2⟩ := on1_one w1
    obtain ⟨ys, ey, w3⟩ := ob_some w2
    obtain ⟨ts, et, hl, q⟩ := ob_some w3
    subst ez ee
    obtain ⟨u, eu, ru⟩ := repL1 rv
    subst eu
    obtain ⟨a, vs, ea, rvs, h⟩ := seq_of m ru ey
    subst ea
    have ev := texts_V rvs et
    subst ev
    refine mt_join pins s σ H _ _ v us Q I rx rs ⟨z, a, ts, rd, rfl, ?_, hl, ?_⟩
    · rcases h with ⟨_, h⟩ | ⟨_, h⟩
      · exact .inr ((.inl h))
      · exact .inl (.inl h)
    · rw [TL.join_eq]
      exact g.now m q rfl
  | _ => cases hb
end
end Dee

set_option Elab.async false
set_option linter.all false
set_option autoImplicit false
set_option maxRecDepth 100000
set_option maxHeartbeats 1000000
/-! Dee: a program of the small language says what the model does: the constructs, one by one. -/
namespace Dee
open PySem PySem.Spec PyProof.Rows L2

/-! ### readings -/
def tE (c : LC) (W : WX) (F : Sem) (e : Ex) : TE := fun σ H Q => ∃ ρ M Q' E', Rp c ρ M σ H ∧ wE F e ρ M Q' E' ∧ Goes c M H Q' Q ∧ Throws c (fun cls d H' => W cls d σ H') M H E'
def tT (c : LC) (W : WX) (F : Sem) (e : Ex) : TT := fun σ H Q => tE c W F e σ H fun v H1 => ∃ b, v = .bl b ∧ Q b H1
def tA (c : LC) (W : WX) (F : Sem) (es : List Ex) : TA := fun σ H Q => ∃ ρ M Q' E', Rp c ρ M σ H ∧ wEs F es ρ M Q' E' ∧
  (∀ ds M' vs H', ds.length = es.length → Q' ds M' → Mono M H M' H' → MRep c.mg M' H' → RepL c.mg M' H' ds vs → Q vs H') ∧ Throws c (fun cls d H' => W cls d σ H') M H E'
theorem PE.imp {X : Cx} {e : Expr} {t t' : TE} (h : PE X e t) (i : ∀ σ H Q, t' σ H Q → t σ H Q) : PE X e t' := ⟨fun pins s σ H Q I q => h.run pins s σ H Q I (i _ _ _ q)⟩
theorem PT.imp {X : Cx} {e : Expr} {t t' : TT} (h : PT X e t) (i : ∀ σ H Q, t' σ H Q → t σ H Q) : PT X e t' := ⟨fun pins s σ H Q I q => h.run pins s σ H Q I (i _ _ _ q)⟩
theorem PA.imp {X : Cx} {e : List Expr} {t t' : TA} (h : PA X e t) (i : ∀ σ H Q, t' σ H Q → t σ H Q) : PA X e t' := ⟨fun pos pins s σ H Q I q => h.run pos pins s σ H Q I (i _ _ _ q)⟩
section
variable {c : LC} {W : WX} {F : Sem} {σ : L2.St} {H : Hp} {ρ : Env} {M : Mem} {E' : KX}
/-- a part is asked, then the rest -/
theorem tE_bind {a : Ex} {k : K} {R : VK} (R0 : Rp c ρ M σ H) (w : wE F a ρ M k E') (t : Throws c (fun cls d H' => W cls d σ H') M H E')
    (g : ∀ d M1 v H1, k d M1 → Mono M H M1 H1 → Rp c ρ M1 σ H1 → Rep c.mg M1 H1 d v → R v H1) : tE c W F a σ H R :=
  ⟨ρ, M, k, E', R0, w, fun d M1 v H1 q m mr r => g d M1 v H1 q m (R0.mono m mr) r, t⟩
theorem tA_bind {a : List Ex} {k : List D → Mem → Prop} {R : List V → Hp → Prop} (R0 : Rp c ρ M σ H) (w : wEs F a ρ M k E') (t : Throws c (fun cls d H' => W cls d σ H') M H E')
    (g : ∀ d M1 v H1, d.length = a.length → k d M1 → Mono M H M1 H1 → Rp c ρ M1 σ H1 → RepL c.mg M1 H1 d v → R v H1) : tA c W F a σ H R :=
  ⟨ρ, M, k, E', R0, w, fun d M1 v H1 z q m mr r => g d M1 v H1 z q m (R0.mono m mr) r, t⟩
/-- a test -/
theorem tT_bind {a : Ex} {k : Bool → Mem → Prop} {R : Bool → Hp → Prop} (R0 : Rp c ρ M σ H) (w : wE F a ρ M (asB k) E') (t : Throws c (fun cls d H' => W cls d σ H') M H E')
    (g : ∀ b M1 H1, k b M1 → Mono M H M1 H1 → Rp c ρ M1 σ H1 → R b H1) : tT c W F a σ H R :=
  tE_bind R0 w t fun d M1 v H1 q m R1 r => by
    obtain ⟨b, e, q⟩ := asB_bl q
    subst e
    exact ⟨b, r, g b M1 H1 q m R1⟩
end

/-! ### what is looked at, of the text alone -/
/-- where one stands: the names by slot, the scope that runs and the names of one's own, the defs by number; hot: in an except suite; its name -/
structure Ck where
  N : List Str
  sc : Scope
  own : List (Str × NameKind)
  hot : Bool
  xs : Option (Nat × Str)
  fns : Nat → Option (Str × Nat)
  cls : List String
  /-- the first name holds a lambda -/
  act : Bool := false
  /-- the defs that take a lambda; what a lambda's text must be -/
  lfs : Nat → Option Str := fun _ => none
  lok : Nat → Expr → Scope → Bool := fun _ _ _ => false
def plainName (x : Str) : Bool := !(x == ("__debug__" : Str)) && !(x == ("__classdict__" : Str)) && !(x == ("__name__" : Str))
def isVis : Option NameKind → Bool | some .local => true | some .cell => true | some .free => true | _ => false
def isLoc : Option NameKind → Bool | some .local => true | some .cell => true | _ => false
def isGlo : Option NameKind → Bool | some .globalImplicit => true | _ => false
def Ck.vis (k : Ck) (i : Nat) (x : Str) : Bool := (match k.N[i]? with | some y => y == x | none => false) && isVis (k.sc.names.lookup x) && plainName x
def Ck.sto (k : Ck) (i : Nat) (x : Str) : Bool := (match k.N[i]? with | some y => y == x | none => false) && isLoc (k.own.lookup x) && (match k.xs with | some p => !(i == p.1) | none => true) && (!k.act || !(i == 0))
def Ck.glo (k : Ck) (x : Str) : Bool := isGlo (k.sc.names.lookup x) && plainName x
def biName : Bi → Str
  | .len => "len" | .abs => "abs" | .int => "int" | .str => "str" | .list => "list" | .tuple => "tuple" | .dict => "dict" | .all => "all" | .any => "any" | .sum => "sum"
  | .max2 => "max" | .min2 => "min" | .max1 => "max" | .min1 => "min" | .sorted => "sorted" | .lenset => "len" | .sortset => "sorted"
def blts : List Str := ["len", "abs", "int", "str", "list", "tuple", "dict", "all", "any", "sum", "max", "min", "sorted", "set", "range", "enumerate", "zip", "isinstance", "bool", "ValueError"]
def tyName : Ty → Str | .int => "int" | .bool => "bool" | .str => "str" | .tuple => "tuple" | .list => "list" | .dict => "dict"
def tyStr : Ty → String | .int => "int" | .bool => "bool" | .str => "str" | .tuple => "tuple" | .list => "list" | .dict => "dict"
def mtName : Mt → Str | .append => "append" | .extend => "extend" | .pop => "pop" | .get => "get" | .index => "index" | .count => "count" | .join => "join" | .split => "split"
def isStar : Expr → Bool | .Starred .. => true | _ => false
def isBase : Expr → Bool | .Call (.Name ..) [] [] _ => true | _ => false
def isSet : Expr → Bool | .Set .. => true | _ => false
def isIf : Expr → Bool | .IfExp .. => true | _ => false
def eqOp : Operator → Operator → Bool | .Add, .Add => true | .Sub, .Sub => true | .Mult, .Mult => true | .FloorDiv, .FloorDiv => true | .Mod, .Mod => true | .Pow, .Pow => true | _, _ => false
def eqCop : CmpOp → CmpOp → Bool | .Eq, .Eq => true | .NotEq, .NotEq => true | .Lt, .Lt => true | .LtE, .LtE => true | .Gt, .Gt => true | .GtE, .GtE => true | .In, .In => true | .NotIn, .NotIn => true | _, _ => false
theorem eqOp_ok {a b : Operator} (h : eqOp a b = true) : a = b := by cases a <;> cases b <;> first | rfl | cases h
theorem eqCop_ok {a b : CmpOp} (h : eqCop a b = true) : a = b := by cases a <;> cases b <;> first | rfl | cases h
mutual
def tgOwn : Tg → Expr → Option (List (Str × Nat))
  | .nm i, e => match e with | .Name x _ => some [(x, i)] | _ => none
  | .tu ts, e => match e with | .Tuple es _ _ => tgsOwn ts es | _ => none
def tgsOwn : List Tg → List Expr → Option (List (Str × Nat))
  | [], es => match es with | [] => some [] | _ :: _ => none
  | t :: ts, es => match es with
    | [] => none
    | e :: es => match tgOwn t e, tgsOwn ts es with | some a, some b => some (a ++ b) | _, _ => none
end
mutual
def chkTg (k : Ck) : Tg → Expr → Bool
  | .nm i, e => match e with | .Name x _ => k.sto i x | _ => false
  | .tu ts, e => match e with | .Tuple es _ _ => !k.hot && chkTgs k ts es | _ => false
def chkTgs (k : Ck) : List Tg → List Expr → Bool
  | [], es => match es with | [] => true | _ :: _ => false
  | t :: ts, es => match es with | [] => false | e :: es => chkTg k t e && chkTgs k ts es
end
/-- a comprehension's block -/
def Ck.blk (k : Ck) (scope : Scope) : Ck := { k with sc := relS scope k.sc, own := scope.names, act := false, lok := fun _ _ _ => false }
def noSlice : Expr → Bool | .Slice .. => false | _ => true
def tupTg : Ik → Tg → Bool | .enm, .tu _ => true | .zip, .tu _ => false | .seq, _ => true | .rng, _ => true | _, _ => false
/-- no parameters -/
def noPars : Arguments → Bool | ⟨[], [], none, [], [], none, []⟩ => true | _ => false
/-- at most one text -/
def strArgs : List Str → List Expr → Bool
  | [], es => match es with | [] => true | _ :: _ => false
  | [s], es => match es with | [.Constant (.str t) _ _] => s == t | _ => false
  | _ :: _ :: _, _ => false
/-- the parts of what is walked -/
def itArgs (k : Ck) (ik : Ik) (e : Expr) : Option (List Expr) := match ik with
  | .seq => if isSet e || isStar e then none else some [e]
  | .rng => (match e with
    | .Call (.Name x _) es [] _ => if k.glo x && x == ("range" : Str) && decide (1 ≤ es.length) && decide (es.length ≤ 3) then some es else none
    | _ => none)
  | .enm => (match e with
    | .Call (.Name x _) es [] _ => if k.glo x && x == ("enumerate" : Str) && decide (es.length = 1) then some es else none
    | _ => none)
  | .zip => (match e with
    | .Call (.Name x _) es [] _ => if k.glo x && x == ("zip" : Str) && decide (es.length = 2) then some es else none
    | _ => none)
mutual
def chkE (k : Ck) : Ex → Expr → Bool
  | .var i, e => match e with | .Name x _ => k.vis i x | _ => false
  | .int i, e => match e with | .Constant (.int j) _ _ => i == j | _ => false
  | .str s, e => match e with | .Constant (.str t) _ _ => s == t | _ => false
  | .bl b, e => match e with | .Constant (.bool d) _ _ => b == d | _ => false
  | .non, e => match e with | .Constant .none _ _ => true | _ => false
  | .glb x, e => match e with | .Name y _ => k.glo y && y == Str.ofString x | _ => false
  | .tup es, e => match e with | .Tuple es' _ _ => chkEs k es es' && decide (es.length ≤ 1000) | _ => false
  | .lst _ es, e => match e with | .List es' _ => chkEs k es es' && decide (es.length ≤ 1000) | _ => false
  | .dnew _ _ kvs, e => match e with | .Dict [] [] _ => kvs.isEmpty | _ => false
  | .bin o a b, e => match e with | .BinOp a' o' b' _ => eqOp (opOf o) o' && chkE k a a' && chkE k b b' | _ => false
  | .neg a, e => match e with | .UnaryOp .USub a' _ => chkE k a a' | _ => false
  | .cmp o a b, e => match e with | .Compare a' [o'] [b'] _ => eqCop (copOf o) o' && !behindInMarks o' b' && chkE k a a' && chkE k b b' | _ => false
  | .chain o o2 a b d, e => match e with | .Compare a' [o', o2'] [b', d'] _ => eqCop (copOf o) o' && eqCop (copOf o2) o2' && !lastMarks [o', o2'] [b', d'] && chkE k a a' && chkE k b b' && chkE k d d' | _ => false
  | .isN n a, e => match e with | .Compare a' [o'] [.Constant .none _ _] _ => (match o' with | .Is => !n | .IsNot => n | _ => false) && chkE k a a' | _ => false
  | .and es, e => match e with | .BoolOp .And es' _ => chkBs k es es' && !es.isEmpty | _ => false
  | .or es, e => match e with | .BoolOp .Or es' _ => chkBs k es es' && !es.isEmpty | _ => false
  | .not a, e => match e with | .UnaryOp .Not a' _ => chkE k a a' && !isIf a' | _ => false
  | .ifx d a b, e => match e with | .IfExp d' a' b' _ => chkE k d d' && !isIf d' && chkE k a a' && chkE k b b' | _ => false
  | .sub a i, e => match e with | .Subscript a' i' _ => noSlice i' && chkE k a a' && chkE k i i' | _ => false
  | .slc a lo hi, e => match e with | .Subscript a' (.Slice lo' hi' none _) _ => chkE k a a' && chkO k lo lo' && chkO k hi hi' | _ => false
  | .rev a, e => match e with | .Subscript a' (.Slice none none (some (.UnaryOp .USub (.Constant (.int i) _ _) _)) _) _ => decide (i = 1) && chkE k a a' | _ => false
  | .fld _ _, _ => false
  | .call f es, e => match e with
    | .Call (.Name x _) es' [] _ => !k.hot && k.glo x && (match k.fns f with | some p => p.1 == x | none => false) && chkEs k es es' && !es.isEmpty
    | _ => false
  | .mk _ _, _ => false
  | .bi b _ es, e => match e with
    | .Call (.Name x _) es' [] _ => !k.hot && biSup b && k.glo x && x == biName b && chkEs k es es' && !es.isEmpty
    | _ => false
  | .mth m a es, e => match e with
    | .Call (.Attribute a' x apos) es' [] cpos => !k.hot && mtSup m && x == mtName m && (apos.endLine == cpos.line) && !isBase a' && chkE k a a' && chkEs k es es' && decide (es.length < 10)
    | _ => false
  | .omth _ _ _ _, _ => false
  | .isi a ts, e => match e with
    | .Call (.Name x _) [a', t'] [] _ => k.glo x && x == ("isinstance" : Str) && !isStar a' && chkE k a a' && (match ts, t' with
      | [t], .Name y _ => k.glo y && y == tyName t
      | [t1, t2], .Tuple [.Name y1 _, .Name y2 _] _ _ => k.glo y1 && y1 == tyName t1 && k.glo y2 && y2 == tyName t2
      | _, _ => false)
    | _ => false
  | .comp _ e1 t ik es cs, e => match e with
    | .ListComp e1' [⟨t', it', ifs', 0⟩] scope _ => !k.hot && (match itArgs k ik it' with | some as => chkEs k es as | none => false) && tupTg ik t && (match tgOwn t t' with
        | some own => blkC k.N k.sc scope own && chkTg (k.blk scope) t t'
        | none => false) && chkBs (k.blk scope) cs ifs' && decide (cs.length ≤ 1) && chkE (k.blk scope) e1 e1'
    | _ => false
  | .lam _, _ => false
  | .clo i, e => match e with | .Call (.Name x _) [] [] _ => !k.hot && k.act && decide (i = 0) && k.vis 0 x | _ => false
  | .xfld f, e => match e with | .Attribute (.Name x _) y _ => (match k.xs with | some p => p.2 == x && k.vis p.1 x | none => false) && y == Str.ofString f | _ => false
  | .xisi, e => match e with
    | .Call (.Name z _) [.Name x _, .Name y _] [] _ => (match k.xs with | some p => p.2 == x && k.vis p.1 x | none => false) && k.glo z && z == ("isinstance" : Str) && k.glo y && y == ("ValueError" : Str)
    | _ => false
  | .fstr _, _ => false
  | .lcall f l ss, e => match e with
    | .Call (.Name x _) (.Lambda params body scope _ :: es') [] _ => !k.hot && k.glo x && (match k.lfs f with | some y => y == x | none => false) && noPars params && k.lok l body scope && strArgs ss es'
    | _ => false
  | .rep _ a b, e => match e with | .BinOp a' .Mult b' _ => chkE k a a' && chkE k b b' | _ => false
  | .lens a, e => match e with
    | .Call (.Name x _) [.Call (.Name y _) [a'] [] _] [] _ => !k.hot && k.glo x && x == ("len" : Str) && k.glo y && y == ("set" : Str) && chkE k a a' && !isStar a'
    | _ => false
  | .srts _ a, e => match e with
    | .Call (.Name x _) [.Call (.Name y _) [a'] [] _] [] _ => !k.hot && k.glo x && x == ("sorted" : Str) && k.glo y && y == ("set" : Str) && chkE k a a' && !isStar a'
    | _ => false
def chkEs (k : Ck) : List Ex → List Expr → Bool
  | [], es => match es with | [] => true | _ :: _ => false
  | x :: xs, es => match es with | [] => false | e :: es => chkE k x e && !isStar e && chkEs k xs es
def chkBs (k : Ck) : List Ex → List Expr → Bool
  | [], es => match es with | [] => true | _ :: _ => false
  | x :: xs, es => match es with | [] => false | e :: es => chkE k x e && !isIf e && chkBs k xs es
def chkO (k : Ck) : Option Ex → Option Expr → Bool
  | none, e => match e with | none => true | some _ => false
  | some x, e => match e with | none => false | some e => chkE k x e
end
/-! ### statements -/
def noComp : Expr → Bool | .ListComp .. => false | .SetComp .. => false | .DictComp .. => false | _ => true
def noSwap : Expr → Expr → Bool | .Tuple ts _ _, .Tuple vs _ _ => !(ts.length == 2 || ts.length == 3) || vs.all (foldedForSure 8) | .List .., .Tuple .. => false | _, _ => true
def locK (k : Ck) (x : Str) : Bool := match k.sc.names.lookup x with | some .local => true | _ => false
/-- a, b = x, y: stored from the right -/
def swp2 (k : Ck) (i j : Nat) (t v : Expr) : Bool := match t, v with
  | .Tuple [.Name x px, .Name y py] _ _, .Tuple [a, b] _ _ => k.sto i x && k.sto j y && locK k x && locK k y && !(i == j) && !(x == y) && py.line == px.line && !isStar a && !isStar b && !([a, b].all (foldedForSure 8)) && !([a, b].all (constantsAlone 8))
  | _, _ => false
def swp3 (k : Ck) (i j l : Nat) (t v : Expr) : Bool := match t, v with
  | .Tuple [.Name x px, .Name y py, .Name z pz] _ _, .Tuple [a, b, d] _ _ => k.sto i x && k.sto j y && k.sto l z && locK k x && locK k y && locK k z && !(i == j) && !(i == l) && !(j == l) && !(x == y) && !(x == z) && !(y == z) && py.line == px.line && pz.line == px.line && !isStar a && !isStar b && !isStar d && !([a, b, d].all (foldedForSure 8)) && !([a, b, d].all (constantsAlone 8))
  | _, _ => false
/-- name = [..]: the comprehension's name is none of its own -/
def lcSet (k : Ck) (t v : Expr) : Bool := match t, v with
  | .Name y py, .ListComp _ _ scope pos => locK k y && py.line == pos.line && !(scope.names.any fun (n, k) => n == y && (k == .local || k == .cell))
  | _, _ => false
/-- name = [..]: the name is captured -/
def lcNo (k : Ck) (t v : Expr) : Bool := match t, v with
  | .Name y _, .ListComp _ _ _ _ => !locK k y
  | _, _ => false
/-- a, b = x, y: some name is captured -/
def noSwapK (k : Ck) (t v : Expr) : Bool := match t, v with
  | .Tuple ts _ _, .Tuple _ _ _ => ts.any fun | .Name x _ => !locK k x | _ => false
  | _, _ => false
def augOk : Bop → Bool | .add => true | .sub => true | _ => false
mutual
def chkS (k : Ck) : St → Stmt → Bool
  | .asg t e, s => match s with
    | .Assign [tg] v _ => (match t, e with
        | .nm i, e => chkTg k (.nm i) tg && chkE k e v && noSwap tg v && (noComp v || lcSet k tg v || lcNo k tg v)
        | .tu ts, e => (chkTg k (.tu ts) tg && chkE k e v && (noSwap tg v || noSwapK k tg v) && noComp v) || (match ts, e, v with
          | [.nm i, .nm j], .tup es, .Tuple es' _ _ => !k.hot && swp2 k i j tg v && chkEs k es es'
          | [.nm i, .nm j, .nm l], .tup es, .Tuple es' _ _ => !k.hot && swp3 k i j l tg v && chkEs k es es'
          | _, _, _ => false))
    | _ => false
  | .asub o i e, s => match s with | .Assign [.Subscript o' i' _] v _ => noSlice i' && noComp v && chkE k o o' && chkE k i i' && chkE k e v | _ => false
  | .afld _ _ _, _ => false
  | .aug i op e, s => match s with | .AugAssign (.Name x _) op' v _ => augOk op && eqOp (opOf op) op' && k.sto i x && chkE k e v | _ => false
  | .augs o i op e, s => match s with | .AugAssign (.Subscript o' i' _) op' v _ => augOk op && eqOp (opOf op) op' && noSlice i' && chkE k o o' && chkE k i i' && chkE k e v | _ => false
  | .augf _ _ _ _, _ => false
  | .expr e, s => match s with | .Expr v _ => noComp v && chkE k e v | _ => false
  | .ret e, s => match s with | .Return (some v) _ => chkE k e v | _ => false
  | .retN, s => match s with | .Return none _ => true | _ => false
  | .ifs d a b, s => match s with | .If d' a' b' _ => chkE k d d' && !isIf d' && chkSs k a a' && chkSs k b b' | _ => false
  | .for t ik es b, s => match s with
    | .For tg it b' [] _ => !k.hot && (match itArgs k ik it with | some as => chkEs k es as | none => false) && tupTg ik t && chkTg k t tg && chkSs k b b'
    | _ => false
  | .whl d b, s => match s with | .While d' b' [] _ => !k.hot && chkE k d d' && !isIf d' && chkSs k b b' | _ => false
  | .brk, s => match s with | .Break _ => true | _ => false
  | .cont, s => match s with | .Continue _ => true | _ => false
  | .pass, s => match s with | .Pass _ => true | _ => false
  | .raise C es, s => match s with
    | .Raise (some (.Call (.Name x _) es' [] _)) none _ => !k.hot && k.glo x && x == Str.ofString C && chkEs k es es' && decide (es.length ≤ 900)
    | _ => false
  | .try b hs, s => match s with
    | .Try b' hs' [] [] _ => !k.hot && chkSs k b b' && !hs.isEmpty && (decide (hs.length = 1) || hs.all (·.2.1.isNone)) && chkHs k hs hs'
    | _ => false
  | .frz _, _ => false
def chkSs (k : Ck) : List St → List Stmt → Bool
  | [], es => match es with | [] => true | _ :: _ => false
  | x :: xs, es => match x with
    | .frz i => (match k.xs with | some p => !(i == p.1) | none => true) && chkSs k xs es
    | x => match es with | [] => false | e :: es => chkS k x e && chkSs k xs es
/-- clauses without names; or one, with a name -/
def chkHs (k : Ck) : List (String × Option Nat × List St) → List ExceptHandler → Bool
  | [], hs => match hs with | [] => true | _ :: _ => false
  | (C, n, b) :: r, hs => match hs with
    | .ExceptHandler (some (.Name x _)) m b' _ :: r' => k.glo x && x == Str.ofString C && k.cls.contains C && !b'.isEmpty && (match n, m with
      | none, none => chkSs { k with hot := true } b b'
      | some i, some nm => r.isEmpty && k.sto i nm && locK k nm && chkSs { k with hot := true, xs := some (i, nm) } b b'
      | _, _ => false) && chkHs k r r'
    | _ => false
end
end Dee

set_option Elab.async false
set_option linter.all false
set_option autoImplicit false
set_option maxRecDepth 100000
set_option maxHeartbeats 1000000
/-! Dee: the expressions of the small language are the model's. -/
namespace Dee
open PySem PySem.Spec PyProof.Rows L2

/-- a def called: its promise by what the small language says of it -/
def spF (c : LC) (call : List D → Mem → K → KX → Prop) : Sp := fun vs H Q E => ∃ ds M Q' E', RepL c.mg M H ds vs ∧ MRep c.mg M H ∧ call ds M Q' E' ∧ Goes c M H Q' Q ∧ Throws c E M H E'
/-- what an exception's own __init__ does: it keeps its values -/
def spI (a C : Addr) (fs : List String) (vs : List V) (H : Hp) (Q : VK) : Prop := ∃ ys, vs = .ref a :: ys ∧ ys.length = fs.length ∧ H a = some (exo a C none) ∧
  ∀ dx H', H dx = none → dx ≠ a → H' a = some (exo a C (some dx)) → H' dx = some (exd dx ((fs.map Str.ofString).zip ys).reverse) → (∀ b, b ≠ a → b ≠ dx → H' b = H b) → Q .non H'
/-- what the written part says of an exception's class -/
structure XFact (P : Program) (w : World) (K : PySem.W.Frag) (mg : Str → Option Value) (base : Heap) (C : String) (fs : List String) (a : Addr) : Prop where
  at_ : mg (Str.ofString C) = some (.ref a)
  xc : XfC K a
  no : ∀ f ∈ fs, PySem.W.findIn K (.ref a) (Str.ofString f) = some none
  ve : PySem.W.subIn K (.ref a) (.type "ValueError") = some true
  ty : PySem.W.typeIn K (.ref a) = some (.type "type")
  keep : PySem.W.keepIn K (.ref a) = true
  made : (fs = [] ∧ ∃ bmB, PySem.W.excIn K a bmB "ValueError.__new__" = true ∧ ExcBaseFacts "ValueError" "ValueError.__new__" "ValueError.__init__" bmB) ∨
    (fs ≠ [] ∧ (fs.map Str.ofString).Nodup ∧ OexC K a ∧ ∃ fI fd ps, PySem.W.findIn K (.ref a) "__init__" = some (some (.ref fI)) ∧ PySem.W.typeIn K (.ref fI) = some (.type "function") ∧ Binds K fd ps [] ∧ FnOk P w K mg base (L2.CX P w) 1 fI fd ps (fun vs H Q _ => ∃ e, spI e a fs vs H Q))
/-- the def that got the lambda calls it -/
def Act (X0 : Cx) (z : CloI) : Prop := ∀ (W : WX) (pn : List (Addr × Obj)) (xe : Value → Shared → Prop) (i : Nat) (a : Str) (p1 p2 : Pos), Takes (L2.Cx.tr X0 pn xe) W → X0.N[i]? = some a → Vis X0.env.scope a → (a == ("__debug__" : Str)) = false → (a == ("__classdict__" : Str)) = false →
  PE (L2.Cx.tr X0 pn xe) (.Call (.Name a p1) [] [] p2) (fun σZ HZ Q => σZ[i]? = some (some (.ref z.a)) ∧ HZ z.c = some (LamX.CodeO z.c z.q) ∧ z.tl (fun cls d H' => W cls d σZ H') HZ Q)
/-- what the lambda says -/
def LamRd (F : Sem) (c : LC) (z : CloI) : Prop := ∀ (M : Mem) (H : Hp) (Q' : K) (E' : KX) (Q : VK) (E : XK), F.lam z.l z.ρ M Q' E' → CloAt c.mg M H z → MRep c.mg M H → Goes c M H Q' Q → Throws c E M H E' → z.tl E H Q
/-- a lambda made here, handed to a def -/
def LamJob (X : Cx) (c : LC) (F : Sem) (f l : Nat) (x : Str) (body : Expr) (scope : Scope) : Prop :=
  ∃ (g : Addr) (fd : FuncData) (Ng ps : List Str) (nx qg : Str) (pg : Arguments) (bg : List Stmt) (sg : Scope) (dV kV doc pm cdv ct oc : Value) (an od : Option Addr) (osl : Array (Option Value)) (j : Nat) (c0 P : Addr) (tl : XK → L2.St → Hp → VK → Prop),
    X.mg x = some (.ref g) ∧ PySem.W.keepIn X.K (.ref g) = true ∧ X.K.lookup g = some ⟨oc, od, .func fd, osl⟩ ∧ fd = PySem.W.fnOf nx qg pg bg sg dV kV doc pm an cdv ct ∧ PySem.W.codeIn X.K cdv qg = true ∧ Binds X.K fd ps [] ∧ FnScope Ng ps sg ∧
    X.env.code = .ref c0 ∧ LamX.TabB X.base X.mg c0 P ∧ (P, X.env.qual ++ "<lambda>") ∈ c.mg.T ∧ (∀ p ∈ c.mg.T, p.1 = P → p.2 = X.env.qual ++ "<lambda>") ∧ Room (j + 2) X.A ∧ LamX.LamS X.env.scope scope ∧
    (∀ (A : Around) (outer : List PySem.Env) (s : Shared) (H : Hp) (E : XK) (f c' : Addr), Room j (A.deeper (LamX.lamEnv X scope s.heap.objs.size f c')) → PE (LamX.lamCx X A outer s H E scope f c') body (tl E)) ∧
    (∀ (ds : List D) (M : Mem) (Q' : K) (E' : KX), F.call f ds M Q' E' → ds.length = ps.length) ∧
    (∀ (s : Shared) (H : Hp) (z : CloI), z.l = l → (z.tl = fun E => tl E z.σ) → Room (j + 1) (X.A.deeper (envOfC qg sg s.heap.objs.size g cdv)) → Act (cxOf C8.CX0 X.prog X.w X.K X.mg X.base Ng qg sg g cdv X.A X.stack s H C8.E0) z →
      ∀ (ds : List D) (M : Mem) (vs : List V) (Q' : K) (Q : VK), RepL c.mg M H (.clo z.l z.ρ :: ds) (.ref z.a :: vs) → CloAt c.mg M H z → MRep c.mg M H → F.call f (.clo z.l z.ρ :: ds) M Q' (fun _ _ => False) → Goes c M H Q' Q →
        ∃ t, PSs (cxOf C8.CX0 X.prog X.w X.K X.mg X.base Ng qg sg g cdv X.A X.stack s H C8.E0) bg t ∧ t { nx := fun _ H' => Q .non H', rt := Q } (L2.start Ng (.ref z.a :: vs)) H)
structure Okc (X : Cx) (k : Ck) (F : Sem) (c : LC) (W : WX) : Prop where
  N : X.N = k.N
  nd : X.N.Nodup
  sc : X.env.scope = k.sc
  own : ∀ x, isLoc (k.own.lookup x) = true → Loc X.env.scope x ∧ (X.fn x = true ∨ X.env.scope.names.lookup x = some .local)
  calm : k.hot = false → X.calm = true
  un : X.A.units + 64 < cLine
  mg : c.mg.mg = X.mg
  blt : ∀ x ∈ blts, X.mg x = none
  tk : Takes X W
  xs : ∀ j a cls d ε, c.xi = some (j, a, cls, d, ε) → ∃ nm, k.xs = some (j, nm)
  hot0 : k.hot = false → c.xi = none
  fns : k.hot = false → ∀ f p, k.fns f = some p → ∃ ad fd ps j, X.mg p.1 = some (.ref ad) ∧ PySem.W.keepIn X.K (.ref ad) = true ∧ Binds X.K fd ps [] ∧ Room j X.A ∧ ∀ g : Gm, g.mg = X.mg → g.T = c.mg.T → FnOk X.prog X.w X.K X.mg X.base (L2.CX X.prog X.w) j ad fd ps (spF ⟨g, none, none⟩ (F.call f))
  cur : ∀ ε, F.cur = some ε → ∃ i a cls d, c.xi = some (i, a, cls, d, ε)
  sui : ∀ i a cls d ε, c.xi = some (i, a, cls, d, ε) → ∃ X0 pn oe, X = L2.Cx.suite X0 a ((a, oe) :: pn) ∧ Zc cls d oe ∧ ∃ vs, oe.data = .fields vs
  xf : ∀ C fs, F.xf C = some fs → ∃ a, XFact X.prog X.w X.K X.mg X.base C fs a
  sub : ∀ C1 fs, F.xf C1 = some fs → ∀ C2 ∈ k.cls, ∃ a1 a2, X.mg (Str.ofString C1) = some (.ref a1) ∧ X.mg (Str.ofString C2) = some (.ref a2) ∧ PySem.W.exmOne X.K (.ref a1) (.ref a2) = some (F.sub C1 C2)
  room : k.hot = false → Room 3 X.A
  cat : ∀ C ∈ k.cls, ∃ a, X.mg (Str.ofString C) = some (.ref a)
  glb : ∀ x d, F.glo x = some d → ∃ u v, X.mg (Str.ofString x) = some u ∧ RelV v u ∧ ∀ (g : Gm) (M : Mem) (H : Hp), Rep g M H d v
  lam1 : c.lam.isSome = true → k.act = true
  actz : k.hot = false → k.act = true → ∃ z X0 pn xe, c.lam = some z ∧ X = L2.Cx.tr X0 pn xe ∧ Act X0 z ∧ LamRd F c z
  job : k.hot = false → ∀ f x, k.lfs f = some x → ∀ l body scope, k.lok l body scope = true → LamJob X c F f l x body scope

section
variable {X : Cx} {k : Ck} {F : Sem} {c : LC} {W : WX}
theorem isVis_ok {sc : Scope} {x : Str} (h : isVis (sc.names.lookup x) = true) : Vis sc x := by
  unfold isVis at h
  split at h
  · rename_i e; exact .inl e
  · rename_i e; exact .inr (.inl e)
  · rename_i e; exact .inr (.inr e)
  · cases h
theorem slot_ok {N : List Str} {i : Nat} {x : Str} (h : (match N[i]? with | some y => y == x | none => false) = true) : N[i]? = some x := by
  split at h
  · rename_i y e
    rw [e, beq_iff_eq.mp h]
  · cases h
theorem Okc.vis (O : Okc X k F c W) {i : Nat} {x : Str} (h : k.vis i x = true) : X.N[i]? = some x ∧ Vis X.env.scope x ∧ (x == ("__debug__" : Str)) = false ∧ (x == ("__classdict__" : Str)) = false := by
  unfold Ck.vis plainName at h
  simp only [Bool.and_eq_true, Bool.not_eq_true'] at h
  obtain ⟨⟨h1, h2⟩, ⟨h3, h4⟩, h5⟩ := h
  exact ⟨by rw [O.N]; exact slot_ok h1, by rw [O.sc]; exact isVis_ok h2, h3, h4⟩
theorem Okc.glo (O : Okc X k F c W) {x : Str} (h : k.glo x = true) : Gl X x ∧ (x == ("__debug__" : Str)) = false ∧ x ≠ "__name__" := by
  unfold Ck.glo plainName at h
  simp only [Bool.and_eq_true, Bool.not_eq_true'] at h
  obtain ⟨h2, ⟨h3, h4⟩, h5⟩ := h
  refine ⟨?_, h3, fun e => by rw [e] at h5; simp at h5⟩
  show X.env.scope.names.lookup x = some .globalImplicit
  rw [O.sc]
  unfold isGlo at h2
  split at h2
  · rename_i e; exact e
  · cases h2
theorem Okc.sto (O : Okc X k F c W) {i : Nat} {x : Str} (h : k.sto i x = true) : X.N[i]? = some x ∧ Loc X.env.scope x ∧ (X.fn x = true ∨ X.env.scope.names.lookup x = some .local) ∧ c.Fr i := by
  unfold Ck.sto at h
  simp only [Bool.and_eq_true] at h
  obtain ⟨⟨⟨h1, h2⟩, h3⟩, h4⟩ := h
  obtain ⟨l, f⟩ := O.own x h2
  refine ⟨by rw [O.N]; exact slot_ok h1, l, f, fun j a cls d ε e z => ?_, fun e z => by
    rw [O.lam1 e] at h4
    simp [z] at h4⟩
  obtain ⟨nm, e2⟩ := O.xs j a cls d ε e
  rw [e2] at h3
  simp [z] at h3

/-! ### one by one -/
theorem se_var (O : Okc X k F c W) {i : Nat} {x : Str} {pos : Pos} (h : k.vis i x = true) : PE X (.Name x pos) (tE c W F (.var i)) := by
  obtain ⟨h1, h2, h3, h4⟩ := O.vis h
  refine PE.imp (pe_var h1 h2 h3 h4) fun σ H Q ⟨ρ, M, Q', E', R, w, g, t⟩ => ?_
  obtain ⟨d, e, q⟩ := ob_some w
  obtain ⟨v, ev, r⟩ := R.env i d e
  exact ⟨v, ev, g.now R.mem q r⟩
theorem se_glb (O : Okc X k F c W) {x : String} {y : Str} {pos : Pos} (h : k.glo y = true) (e : y = Str.ofString x) : PE X (.Name y pos) (tE c W F (.glb x)) := by
  obtain ⟨gl, hdb, hn⟩ := O.glo h
  refine ⟨fun pins s σ H Q I ⟨ρ, M, Q', E', R, w, g, t⟩ => ?_⟩
  obtain ⟨d, e1, q⟩ := ob_some w
  obtain ⟨u, v, m, r, rp⟩ := O.glb x d e1
  rw [← e] at m
  exact (pe_glob gl m r hdb).run pins s σ H Q I (g.now R.mem q (rp _ _ _))
theorem se_int {i : Int} {j pos} : PE X (.Constant (.int i) j pos) (tE c W F (.int i)) := PE.imp pe_int fun σ H Q ⟨ρ, M, Q', E', R, w, g, t⟩ => g.now R.mem w rfl
theorem se_str {i : Str} {j pos} : PE X (.Constant (.str i) j pos) (tE c W F (.str i)) := PE.imp pe_str fun σ H Q ⟨ρ, M, Q', E', R, w, g, t⟩ => g.now R.mem w rfl
theorem se_bl {i : Bool} {j pos} : PE X (.Constant (.bool i) j pos) (tE c W F (.bl i)) := PE.imp pe_bl fun σ H Q ⟨ρ, M, Q', E', R, w, g, t⟩ => g.now R.mem w rfl
theorem se_non {j pos} : PE X (.Constant .none j pos) (tE c W F .non) := PE.imp pe_non fun σ H Q ⟨ρ, M, Q', E', R, w, g, t⟩ => g.now R.mem w rfl
theorem sa_nil : PA X [] (tA c W F []) := PA.imp pa_nil fun σ H Q ⟨ρ, M, Q', E', R, w, g, t⟩ => g [] M [] H rfl w (Mono.refl _ _) R.mem rfl
theorem sa_cons {e : Expr} {es : List Expr} {x : Ex} {xs : List Ex} (ha : PE X e (tE c W F x)) (hr : PA X es (tA c W F xs)) (hs : starEach (e :: es) X.env = (false, eval e X.env) :: starEach es X.env) : PA X (e :: es) (tA c W F (x :: xs)) := by
  refine PA.imp (pa_cons ha hr hs) fun σ H Q ⟨ρ, M, Q', E', R, w, g, t⟩ => ?_
  exact tE_bind R w t fun d1 M1 v1 H1 w1 m1 R1 r1 => tA_bind R1 w1 (t.mono m1) fun d2 M2 v2 H2 z2 w2 m2 R2 r2 =>
    g (d1 :: d2) M2 (v1 :: v2) H2 (by simp [z2]) w2 (m1.trans m2) R2.mem ⟨v1, v2, rfl, r1.mono m2, r2⟩
theorem se_tup {es : List Ex} {es' : List Expr} {j pos} (ha : PA X es' (tA c W F es)) (hl : es.length ≤ 1000) : PE X (.Tuple es' j pos) (tE c W F (.tup es)) := by
  refine PE.imp (pe_tup ha) fun σ H Q ⟨ρ, M, Q', E', R, w, g, t⟩ => ?_
  refine tA_bind R w t fun ds M1 vs H1 hz q m1 R1 r => ⟨by rw [← r.length, hz, sizeLine_eq]; omega, fun p hp => (g.mono m1).tup R1.mem q r hp⟩
theorem se_lst {m : Bool} {es : List Ex} {es' : List Expr} {pos} (ha : PA X es' (tA c W F es)) (hl : es.length ≤ 1000) : PE X (.List es' pos) (tE c W F (.lst m es)) := by
  refine PE.imp (pe_lst ha) fun σ H Q ⟨ρ, M, Q', E', R, w, g, t⟩ => ?_
  refine tA_bind R w t fun ds M1 vs H1 hz q m1 R1 r => ⟨by rw [← r.length, hz, sizeLine_eq]; omega, fun p hp => (g.mono m1).newL R1.mem q r hp⟩
theorem se_dnew {m t : Bool} {pos} : PE X (.Dict [] [] pos) (tE c W F (.dnew m t [])) := by
  cases t with
  | false => exact PE.imp pe_dnewK fun σ H Q ⟨ρ, M, Q', E', R, ⟨_, w⟩, g, t⟩ p hp => g.newK R.mem w rfl hp
  | true => exact PE.imp pe_dnewT fun σ H Q ⟨ρ, M, Q', E', R, ⟨_, w⟩, g, t⟩ p hp => g.newT R.mem w rfl hp
theorem se_bin {o : Bop} {a b : Expr} {x y : Ex} {pos} (ha : PE X a (tE c W F x)) (hb : PE X b (tE c W F y)) : PE X (.BinOp a (opOf o) b pos) (tE c W F (.bin o x y)) := by
  refine PE.imp (pe_op (op_bin (c := c) o) ha hb) fun σ H Q ⟨ρ, M, Q', E', R, w, g, t⟩ => ?_
  exact tE_bind R w t fun d1 M1 v1 H1 w1 m1 R1 r1 => tE_bind R1 w1 (t.mono m1) fun d2 M2 v2 H2 w2 m2 R2 r2 => ⟨d1, d2, M2, Q', R2.mem, r1.mono m2, r2, w2, g.mono (m1.trans m2)⟩
theorem se_neg {a : Expr} {x : Ex} {pos} (ha : PE X a (tE c W F x)) : PE X (.UnaryOp .USub a pos) (tE c W F (.neg x)) := by
  refine PE.imp (pe_un un_neg ha) fun σ H Q ⟨ρ, M, Q', E', R, w, g, t⟩ => ?_
  refine tE_bind R w t fun d1 M1 v1 H1 w1 m1 R1 r1 => ?_
  obtain ⟨i, e, q⟩ := onI_int w1
  subst e
  exact ⟨i, r1, (g.mono m1).now R1.mem q rfl⟩
theorem cmp_read {o : Cop} {x y : Ex} {ta tb : TE} {σ : L2.St} {H : Hp} {Q : VK} (h : tE c W F (.cmp o x y) σ H Q) : tOp (rCmp c o) (tE c W F x) (tE c W F y) σ H Q := by
  obtain ⟨ρ, M, Q', E', R, w, g, t⟩ := h
  exact tE_bind R w t fun d1 M1 v1 H1 w1 m1 R1 r1 => tE_bind R1 w1 (t.mono m1) fun d2 M2 v2 H2 w2 m2 R2 r2 => ⟨d1, d2, M2, Q', R2.mem, r1.mono m2, r2, w2, g.mono (m1.trans m2)⟩
theorem se_cmp (O : Okc X k F c W) {o : Cop} {a b : Expr} {x y : Ex} {pos} (ha : PE X a (tE c W F x)) (hb : PE X b (tE c W F y)) (hm : behindInMarks (copOf o) b = false) : PE X (.Compare a [copOf o] [b] pos) (tE c W F (.cmp o x y)) :=
  PE.imp (pe_cmpR (op_cmp (c := c) o O.un) ha hb hm) fun σ H Q h => cmp_read (ta := tE c W F x) (tb := tE c W F y) h
theorem st_cmp (O : Okc X k F c W) {o : Cop} {a b : Expr} {x y : Ex} {pos} (ha : PE X a (tE c W F x)) (hb : PE X b (tE c W F y)) (hm : behindInMarks (copOf o) b = false) : PT X (.Compare a [copOf o] [b] pos) (tT c W F (.cmp o x y)) :=
  PT.imp (pt_cmpR (op_cmp (c := c) o O.un) ha hb hm) fun σ H Q h => cmp_read (ta := tE c W F x) (tb := tE c W F y) h
theorem ob_mono {α : Type} {o : Option α} {f g : α → Prop} (h : ∀ a, f a → g a) (w : ob o f) : ob o g := by
  cases o with
  | none => exact w
  | some a => exact h a w
theorem onI_mono {o : D} {f g : Int → Prop} (h : ∀ a, f a → g a) (w : onI o f) : onI o g := by
  cases o <;> first | exact h _ w | exact w
theorem onC_mono {o : D} {f g : Nat → Prop} (h : ∀ a, f a → g a) (w : onC o f) : onC o g := by
  cases o with
  | str t =>
    unfold onC at w ⊢
    dsimp only at w ⊢
    cases e : t.cps.toList with
    | nil => rw [e] at w; exact w
    | cons c r => cases r with
      | nil => rw [e] at w; exact h _ w
      | cons _ _ => rw [e] at w; exact w
  | _ => exact w
theorem inop_mono {a b : D} {M : Mem} {P P' : Bool → Prop} (h : ∀ r, P r → P' r) (w : inop a b M P) : inop a b M P' := by
  have gen : ∀ b : D, (match dctM M b with | some p => isKey p.1 a = true ∧ P (look p.2 a).isSome | none => ob (seqM M b) fun xs => (a.dep ≤ 60 ∧ depL xs ≤ 60) ∧ P (xs.any fun x => peq x a)) →
      (match dctM M b with | some p => isKey p.1 a = true ∧ P' (look p.2 a).isSome | none => ob (seqM M b) fun xs => (a.dep ≤ 60 ∧ depL xs ≤ 60) ∧ P' (xs.any fun x => peq x a)) := fun b w => by
    cases e : dctM M b with
    | some p => rw [e] at w; exact ⟨w.1, h _ w.2⟩
    | none => rw [e] at w; exact ob_mono (fun _ z => ⟨z.1, h _ z.2⟩) w
  cases b with
  | str s => exact onC_mono (fun _ => h _) w
  | non => unfold inop at w ⊢; exact gen .non w
  | bl z => unfold inop at w ⊢; exact gen (.bl z) w
  | int z => unfold inop at w ⊢; exact gen (.int z) w
  | tup z => unfold inop at w ⊢; exact gen (.tup z) w
  | lst z => unfold inop at w ⊢; exact gen (.lst z) w
  | dct z y => unfold inop at w ⊢; exact gen (.dct z y) w
  | obj z y => unfold inop at w ⊢; exact gen (.obj z y) w
  | ref z => unfold inop at w ⊢; exact gen (.ref z) w
  | clo z y => unfold inop at w ⊢; exact gen (.clo z y) w
theorem cmpop_mono {o : Cop} {a b : D} {M : Mem} {P P' : Bool → Prop} (h : ∀ r, P r → P' r) (w : cmpop o a b M P) : cmpop o a b M P' := by
  cases o with
  | eq => exact ⟨w.1, h _ w.2⟩
  | ne => exact ⟨w.1, h _ w.2⟩
  | lt => exact ⟨w.1, ob_mono h w.2⟩
  | le => exact onI_mono (fun _ => onI_mono fun _ => h _) w
  | gt => exact onI_mono (fun _ => onI_mono fun _ => h _) w
  | ge => exact onI_mono (fun _ => onI_mono fun _ => h _) w
  | isin => exact inop_mono h w
  | notin => exact inop_mono (fun _ => h _) w
theorem chain_read {o o2 : Cop} {x y z : Ex} {σ : L2.St} {H : Hp} {Q : VK} (h : tE c W F (.chain o o2 x y z) σ H Q) : tChain (rCmp c o) (rCmp c o2) (tE c W F x) (tE c W F y) (tE c W F z) σ H Q := by
  obtain ⟨ρ, M, Q', E', R, w, g, t⟩ := h
  refine tE_bind R w t fun d1 M1 v1 H1 w1 m1 R1 r1 => tE_bind R1 w1 (t.mono m1) fun d2 M2 v2 H2 w2 m2 R2 r2 => ?_
  refine ⟨d1, d2, M2, fun d M3 => ∃ b, d = .bl b ∧ M3 = M2 ∧ if b = true then wE F z ρ M2 (fun z M3 => cmpop o2 d2 z M3 fun r => Q' (.bl r) M3) E' else Q' (.bl false) M2, R2.mem, r1.mono m2, r2, ?_, ?_⟩
  · have w2' : cmpop o d1 d2 M2 (fun r => if r = true then wE F z ρ M2 (fun z M3 => cmpop o2 d2 z M3 fun r => Q' (.bl r) M3) E' else Q' (.bl false) M2) := w2
    have mono : ∀ {P P' : Bool → Prop}, (∀ r, P r → P' r) → cmpop o d1 d2 M2 P → cmpop o d1 d2 M2 P' := fun f h => cmpop_mono f h
    exact mono (fun r q => ⟨r, rfl, rfl, q⟩) w2'
  · rintro d M3 v3 H3 ⟨b, rfl, rfl, q⟩ m3 mr r3
    refine ⟨b, r3, ?_⟩
    have m13 := (m1.trans m2).trans m3
    cases b with
    | true =>
      rw [if_pos rfl] at q ⊢
      exact tE_bind (R2.mono m3 mr) q (t.mono m13) fun d4 M4 v4 H4 w4 m4 R4 r4 => ⟨d2, d4, M4, Q', R4.mem, (r2.mono m3).mono m4, r4, w4, g.mono (m13.trans m4)⟩
    | false =>
      rw [if_neg Bool.false_ne_true] at q ⊢
      exact (g.mono m13).now mr q rfl
theorem tB_T {e : Ex} : tB (tE c W F e) = tT c W F e := rfl
theorem se_chain (O : Okc X k F c W) {o o2 : Cop} {a b d : Expr} {x y z : Ex} {pos} (ha : PE X a (tE c W F x)) (hb : PE X b (tE c W F y)) (hd : PE X d (tE c W F z)) (hm : lastMarks [copOf o, copOf o2] [b, d] = false) : PE X (.Compare a [copOf o, copOf o2] [b, d] pos) (tE c W F (.chain o o2 x y z)) :=
  PE.imp (pe_chain (op_cmp (c := c) o O.un) (op_cmp (c := c) o2 O.un) ha hb hd hm) fun _ _ _ h => chain_read h
theorem st_chain (O : Okc X k F c W) {o o2 : Cop} {a b d : Expr} {x y z : Ex} {pos} (ha : PE X a (tE c W F x)) (hb : PE X b (tE c W F y)) (hd : PE X d (tE c W F z)) (hm : lastMarks [copOf o, copOf o2] [b, d] = false) : PT X (.Compare a [copOf o, copOf o2] [b, d] pos) (tT c W F (.chain o o2 x y z)) :=
  PT.imp (pt_chain (op_cmp (c := c) o O.un) (op_cmp (c := c) o2 O.un) ha hb hd hm) fun _ _ _ h => chain_read h
theorem Rep.non_iff {mg : Gm} {M : Mem} {H : Hp} {d : D} {v : V} (r : Rep mg M H d v) : (v = .non) ↔ (d = .non) := by
  cases d with
  | non => exact ⟨fun _ => rfl, fun _ => r⟩
  | bl _ => cases (show v = _ from r); exact ⟨fun e => (nomatch e), fun e => (nomatch e)⟩
  | int _ => cases (show v = _ from r); exact ⟨fun e => (nomatch e), fun e => (nomatch e)⟩
  | str _ => cases (show v = _ from r); exact ⟨fun e => (nomatch e), fun e => (nomatch e)⟩
  | ref _ => cases (show v = _ from r); exact ⟨fun e => (nomatch e), fun e => (nomatch e)⟩
  | tup _ => obtain ⟨a, _, e, _⟩ := r; subst e; exact ⟨fun e => (nomatch e), fun e => (nomatch e)⟩
  | lst _ => obtain ⟨a, _, e, _⟩ := r; subst e; exact ⟨fun e => (nomatch e), fun e => (nomatch e)⟩
  | dct _ _ => obtain ⟨a, e, _⟩ := r; subst e; exact ⟨fun e => (nomatch e), fun e => (nomatch e)⟩
  | obj _ _ => obtain ⟨a, _, _, _, e, _⟩ := r; subst e; exact ⟨fun e => (nomatch e), fun e => (nomatch e)⟩
  | clo _ _ => obtain ⟨a, e⟩ := r; subst e; exact ⟨fun e => (nomatch e), fun e => (nomatch e)⟩
theorem isN_read {a : Ex} {n : Bool} {σ : L2.St} {H : Hp} {Q : VK} (h : tE c W F (.isN n a) σ H Q) : tE c W F a σ H fun v H1 => Q (.bl (if v = .non then !n else n)) H1 := by
  obtain ⟨ρ, M, Q', E', R, w, g, t⟩ := h
  refine tE_bind R w t fun d1 M1 v1 H1 w1 m1 R1 r1 => (g.mono m1).now R1.mem w1 ?_
  by_cases e : d1 = .non
  · rw [if_pos e, if_pos (r1.non_iff.mpr e)]; rfl
  · rw [if_neg e, if_neg (fun z => e (r1.non_iff.mp z))]; rfl
theorem sc_isN {a : Expr} {x : Ex} {j pos'} (ha : PE X a (tE c W F x)) : PC X .Is a (.Constant .none j pos') (tE c W F (.isN false x)) := by
  refine ⟨fun pins s σ H Q I h => (pc_isN ha).run pins s σ H Q I ?_⟩
  have h := isN_read h
  have e : (fun (v : V) (H1 : Hp) => Q (.bl (if v = .non then !false else false)) H1) = fun v H1 => Q (.bl (decide (v = .non))) H1 := by
    funext v H1; by_cases e : v = .non <;> simp [e]
  rw [e] at h
  exact h
theorem sc_notN {a : Expr} {x : Ex} {j pos'} (ha : PE X a (tE c W F x)) : PC X .IsNot a (.Constant .none j pos') (tE c W F (.isN true x)) := by
  refine ⟨fun pins s σ H Q I h => (pc_notN ha).run pins s σ H Q I ?_⟩
  have h := isN_read h
  have e : (fun (v : V) (H1 : Hp) => Q (.bl (if v = .non then !true else true)) H1) = fun v H1 => Q (.bl (!decide (v = .non))) H1 := by
    funext v H1; by_cases e : v = .non <;> simp [e]
  rw [e] at h
  exact h
/-- each as a value and as a test -/
def Bs (X : Cx) (c : LC) (W : WX) (F : Sem) : List Ex → List Expr → Prop
  | [], es => es = []
  | x :: xs, es => ∃ e r, es = e :: r ∧ PE X e (tE c W F x) ∧ PT X e (tT c W F x) ∧ Bs X c W F xs r
theorem se_and {pos} : ∀ {xs : List Ex} {es : List Expr}, Bs X c W F xs es → xs ≠ [] → PE X (.BoolOp .And es pos) (tE c W F (.and xs))
  | [], _, _, n => absurd rfl n
  | [x], _, ⟨e, r, q, h1, h2, h3⟩, _ => by
    cases (show r = [] from h3)
    subst q
    refine PE.imp (pe_one h1) fun σ H Q ⟨ρ, M, Q', E', R, w, g, t⟩ => ?_
    have w : wE F x ρ M (asB fun b M1 => Q' (.bl b) M1) E' := w
    exact tE_bind R w t fun d1 M1 v1 H1 w1 m1 R1 r1 => by
      obtain ⟨b, e, q⟩ := asB_bl w1
      subst e
      exact (g.mono m1).now R1.mem q r1
  | x :: y :: xs, _, ⟨e, r, q, h1, h2, h3⟩, _ => by
    have h4 := h3
    obtain ⟨e2, r2, q2, _⟩ := h4
    subst q q2
    have ih := se_and (pos := pos) h3 (fun z => nomatch z)
    refine PE.imp (pe_and h1 ih) fun σ H Q ⟨ρ, M, Q', E', R, w, g, t⟩ => ?_
    have w : wE F x ρ M (asB fun b M1 => if b = true then wAnd F (y :: xs) ρ M1 Q' E' else Q' (.bl false) M1) E' := w
    exact tE_bind R w t fun d1 M1 v1 H1 w1 m1 R1 r1 => by
      obtain ⟨b, e, q⟩ := asB_bl w1
      subst e
      refine ⟨b, r1, ?_⟩
      cases b with
      | true => exact ⟨ρ, M1, Q', E', R1, q, g.mono m1, t.mono m1⟩
      | false => exact (g.mono m1).now R1.mem q rfl
theorem sw_and {pos} : ∀ {xs : List Ex} {es : List Expr}, Bs X c W F xs es → xs ≠ [] → PW X (.BoolOp .And es pos) (tT c W F (.and xs))
  | [], _, _, n => absurd rfl n
  | [x], _, ⟨e, r, q, h1, h2, h3⟩, _ => by
    cases (show r = [] from h3)
    subst q
    refine ⟨fun wh pins s σ H Q I h => (pw_and1 h2).run wh pins s σ H Q I ?_⟩
    obtain ⟨ρ, M, Q', E', R, w, g, t⟩ := h
    have w : wE F x ρ M (asB fun b M1 => Q' (.bl b) M1) E' := w
    exact tE_bind R w t fun d1 M1 v1 H1 w1 m1 R1 r1 => by
      obtain ⟨b, e, q⟩ := asB_bl w1
      subst e
      exact (g.mono m1).now R1.mem q r1
  | x :: y :: xs, _, ⟨e, r, q, h1, h2, h3⟩, _ => by
    have h4 := h3
    obtain ⟨e2, r2, q2, _⟩ := h4
    subst q q2
    have ih := sw_and (pos := pos) h3 (fun z => nomatch z)
    refine ⟨fun wh pins s σ H Q I h => (pw_and h2 ih).run wh pins s σ H Q I ?_⟩
    obtain ⟨ρ, M, Q', E', R, w, g, t⟩ := h
    have w : wE F x ρ M (asB fun b M1 => if b = true then wAnd F (y :: xs) ρ M1 Q' E' else Q' (.bl false) M1) E' := w
    exact tT_bind R w t fun b M1 H1 q m1 R1 => by
      cases b with
      | true => exact ⟨ρ, M1, Q', E', R1, q, g.mono m1, t.mono m1⟩
      | false =>
        obtain ⟨b, e, q⟩ := (g.mono m1).now R1.mem q rfl
        cases e
        exact q
theorem se_or {pos} : ∀ {xs : List Ex} {es : List Expr}, Bs X c W F xs es → xs ≠ [] → PE X (.BoolOp .Or es pos) (tE c W F (.or xs))
  | [], _, _, n => absurd rfl n
  | [x], _, ⟨e, r, q, h1, h2, h3⟩, _ => by
    cases (show r = [] from h3)
    subst q
    refine PE.imp (pe_one h1) fun σ H Q ⟨ρ, M, Q', E', R, w, g, t⟩ => ?_
    have w : wE F x ρ M (asB fun b M1 => Q' (.bl b) M1) E' := w
    exact tE_bind R w t fun d1 M1 v1 H1 w1 m1 R1 r1 => by
      obtain ⟨b, e, q⟩ := asB_bl w1
      subst e
      exact (g.mono m1).now R1.mem q r1
  | x :: y :: xs, _, ⟨e, r, q, h1, h2, h3⟩, _ => by
    have h4 := h3
    obtain ⟨e2, r2, q2, _⟩ := h4
    subst q q2
    have ih := se_or (pos := pos) h3 (fun z => nomatch z)
    refine PE.imp (pe_or h1 ih) fun σ H Q ⟨ρ, M, Q', E', R, w, g, t⟩ => ?_
    have w : wE F x ρ M (asB fun b M1 => if b = true then Q' (.bl true) M1 else wOr F (y :: xs) ρ M1 Q' E') E' := w
    exact tE_bind R w t fun d1 M1 v1 H1 w1 m1 R1 r1 => by
      obtain ⟨b, e, q⟩ := asB_bl w1
      subst e
      refine ⟨b, r1, ?_⟩
      cases b with
      | false => exact ⟨ρ, M1, Q', E', R1, q, g.mono m1, t.mono m1⟩
      | true => exact (g.mono m1).now R1.mem q rfl
theorem sw_or {pos} : ∀ {xs : List Ex} {es : List Expr}, Bs X c W F xs es → xs ≠ [] → PW X (.BoolOp .Or es pos) (tT c W F (.or xs))
  | [], _, _, n => absurd rfl n
  | [x], _, ⟨e, r, q, h1, h2, h3⟩, _ => by
    cases (show r = [] from h3)
    subst q
    refine ⟨fun wh pins s σ H Q I h => (pw_or1 h2).run wh pins s σ H Q I ?_⟩
    obtain ⟨ρ, M, Q', E', R, w, g, t⟩ := h
    have w : wE F x ρ M (asB fun b M1 => Q' (.bl b) M1) E' := w
    exact tE_bind R w t fun d1 M1 v1 H1 w1 m1 R1 r1 => by
      obtain ⟨b, e, q⟩ := asB_bl w1
      subst e
      exact (g.mono m1).now R1.mem q r1
  | x :: y :: xs, _, ⟨e, r, q, h1, h2, h3⟩, _ => by
    have h4 := h3
    obtain ⟨e2, r2, q2, _⟩ := h4
    subst q q2
    have ih := sw_or (pos := pos) h3 (fun z => nomatch z)
    refine ⟨fun wh pins s σ H Q I h => (pw_or h2 ih).run wh pins s σ H Q I ?_⟩
    obtain ⟨ρ, M, Q', E', R, w, g, t⟩ := h
    have w : wE F x ρ M (asB fun b M1 => if b = true then Q' (.bl true) M1 else wOr F (y :: xs) ρ M1 Q' E') E' := w
    exact tT_bind R w t fun b M1 H1 q m1 R1 => by
      cases b with
      | false => exact ⟨ρ, M1, Q', E', R1, q, g.mono m1, t.mono m1⟩
      | true =>
        obtain ⟨b, e, q⟩ := (g.mono m1).now R1.mem q rfl
        cases e
        exact q
theorem se_not {a : Expr} {x : Ex} {pos} (h : PE X a (tE c W F x)) : PE X (.UnaryOp .Not a pos) (tE c W F (.not x)) := by
  refine PE.imp (pe_not h) fun σ H Q ⟨ρ, M, Q', E', R, w, g, t⟩ => ?_
  have w : wE F x ρ M (asB fun b M1 => Q' (.bl (!b)) M1) E' := w
  exact tE_bind R w t fun d1 M1 v1 H1 w1 m1 R1 r1 => by
    obtain ⟨b, e, q⟩ := asB_bl w1
    subst e
    exact ⟨b, r1, (g.mono m1).now R1.mem q rfl⟩
theorem st_not {a : Expr} {x : Ex} {pos} (h : PT X a (tT c W F x)) : PT X (.UnaryOp .Not a pos) (tT c W F (.not x)) := by
  refine PT.imp (pt_not h) fun σ H Q ⟨ρ, M, Q', E', R, w, g, t⟩ => ?_
  have w : wE F x ρ M (asB fun b M1 => Q' (.bl (!b)) M1) E' := w
  exact tT_bind R w t fun b M1 H1 q m1 R1 => by
    obtain ⟨b, e, q⟩ := (g.mono m1).now R1.mem q rfl
    cases e
    exact q
theorem se_ifx {d a b : Expr} {x y z : Ex} {pos} (hd : PT X d (tT c W F x)) (ha : PE X a (tE c W F y)) (hb : PE X b (tE c W F z)) : PE X (.IfExp d a b pos) (tE c W F (.ifx x y z)) := by
  refine PE.imp (pe_ifExp hd ha hb) fun σ H Q ⟨ρ, M, Q', E', R, w, g, t⟩ => ?_
  have w : wE F x ρ M (asB fun r M1 => if r = true then wE F y ρ M1 Q' E' else wE F z ρ M1 Q' E') E' := w
  exact tT_bind R w t fun b M1 H1 q m1 R1 => by
    cases b with
    | true => exact ⟨ρ, M1, Q', E', R1, q, g.mono m1, t.mono m1⟩
    | false => exact ⟨ρ, M1, Q', E', R1, q, g.mono m1, t.mono m1⟩
theorem plainIx_ok {b : Expr} (h : noSlice b = true) : PlainIx b := by
  intro o i
  cases b <;> first | rfl | cases h
theorem se_sub (O : Okc X k F c W) {a b : Expr} {x y : Ex} {pos} (hs : noSlice b = true) (ha : PE X a (tE c W F x)) (hb : PE X b (tE c W F y)) : PE X (.Subscript a b pos) (tE c W F (.sub x y)) := by
  refine PE.imp (pe_ix (ix_all (c := c) O.un) ha hb (plainIx_ok hs)) fun σ H Q ⟨ρ, M, Q', E', R, w, g, t⟩ => ?_
  exact tE_bind R w t fun d1 M1 v1 H1 w1 m1 R1 r1 => tE_bind R1 w1 (t.mono m1) fun d2 M2 v2 H2 w2 m2 R2 r2 => ⟨d1, d2, M2, Q', R2.mem, r1.mono m2, r2, w2, g.mono (m1.trans m2)⟩
end
end Dee

set_option Elab.async false
set_option linter.all false
set_option autoImplicit false
set_option maxRecDepth 100000
set_option maxHeartbeats 1000000
/-! Dee: calls, targets, walks. -/
namespace Dee
open PySem PySem.Spec PyProof.Rows L2
section
variable {X : Cx} {k : Ck} {F : Sem} {c : LC} {W : WX}
theorem star_cons {e : Expr} {es : List Expr} {env : PySem.Env} (h : isStar e = false) : starEach (e :: es) env = (false, eval e env) :: starEach es env := by
  cases e <;> first | rfl | cases h
def noStars (es : List Expr) : Bool := es.all fun e => !isStar e
theorem star_all {env : PySem.Env} : ∀ {es : List Expr}, noStars es = true → ∀ p ∈ starEach es env, p.1 = false
  | [], _ => fun p hp => by cases hp
  | e :: es, h => by
    unfold noStars at h
    simp only [List.all_cons, Bool.and_eq_true, Bool.not_eq_true'] at h
    rw [star_cons h.1]
    intro p hp
    rcases List.mem_cons.mp hp with rfl | hp
    · rfl
    · exact star_all (es := es) h.2 p hp
theorem star_back {env : PySem.Env} {pos : Pos} {es : List Expr} (h : noStars es = true) : (backTo pos (starEach es env)).any (·.1) = false := by
  rw [List.any_eq_false]
  intro p hp
  unfold backTo at hp
  obtain ⟨q, hq, rfl⟩ := List.mem_map.mp hp
  simp [star_all h q hq]
theorem star_len {env : PySem.Env} : ∀ {es : List Expr}, (starEach es env).length = es.length
  | [] => rfl
  | e :: es => by cases e <;> simp [starEach, star_len]
theorem base_ok {o : Expr} {nm : Str} {env : PySem.Env} {w : PySem.Sem Value} (h : isBase o = false) : attributeBase o nm env w = w := by
  cases o with
  | Call f as ks p =>
    cases f with
    | Name x q =>
      cases as with
      | nil => cases ks with
        | nil => cases h
        | cons _ _ => rfl
      | cons _ _ => rfl
    | _ => rfl
  | _ => rfl

/-! ### o[lo:hi] -/
/-- a part of a slice -/
def tO (c : LC) (W : WX) (F : Sem) (o : Option Ex) : TO := fun σ H Q => ∃ ρ M Q' E', Rp c ρ M σ H ∧ wO F o ρ M Q' E' ∧
  (∀ d M' H', Q' d M' → Mono M H M' H' → MRep c.mg M' H' → Q d H') ∧ Throws c (fun cls d H' => W cls d σ H') M H E'
theorem so_none : PO X none (tO c W F none) := by
  refine ⟨fun pins s σ H Q I ⟨ρ, M, Q', E', R, w, g, t⟩ => po_none.run pins s σ H Q I ?_⟩
  exact g none M H w (Mono.refl _ _) R.mem
theorem so_some {e : Expr} {x : Ex} (h : PE X e (tE c W F x)) : PO X (some e) (tO c W F (some x)) := by
  refine ⟨fun pins s σ H Q I ⟨ρ, M, Q', E', R, w, g, t⟩ => (po_some h).run pins s σ H Q I ?_⟩
  refine tE_bind R w t fun d M1 v H1 q m R1 r => ?_
  obtain ⟨i, e, q⟩ := onI_int q
  subst e
  exact ⟨i, r, g (some i) M1 H1 q m R1.mem⟩
theorem se_slc {a : Expr} {x : Ex} {lo hi : Option Ex} {lo' hi' : Option Expr} {p2 pos} (ha : PE X a (tE c W F x)) (hl : PO X lo' (tO c W F lo)) (hh : PO X hi' (tO c W F hi)) : PE X (.Subscript a (.Slice lo' hi' none p2) pos) (tE c W F (.slc x lo hi)) := by
  refine PE.imp (pe_slice (sl_all (c := c)) ha hl hh) fun σ H Q ⟨ρ, M, Q', E', R, w, g, t⟩ => ?_
  refine tE_bind R w t fun d1 M1 v1 H1 w1 m1 R1 r1 => ?_
  refine ⟨ρ, M1, _, E', R1, w1, fun l M2 H2 w2 m2 mr2 => ?_, t.mono m1⟩
  refine ⟨ρ, M2, _, E', R1.mono m2 mr2, w2, fun h M3 H3 w3 m3 mr3 => ?_, (t.mono m1).mono m2⟩
  refine ⟨d1, M3, Q', mr3, (r1.mono m2).mono m3, ?_, g.mono ((m1.trans m2).trans m3)⟩
  cases d1 <;> exact w3

/-! ### calls -/
theorem se_call (O : Okc X k F c W) {f : Nat} {p : Str × Nat} {xs : List Ex} {e : Expr} {es : List Expr} {p' pos} (hh : k.hot = false) (hg : k.glo p.1 = true) (hf : k.fns f = some p) (ha : PA X (e :: es) (tA c W F xs)) (h1 : isStar e = false) (h2 : noStars es = true) :
    PE X (.Call (.Name p.1 p') (e :: es) [] pos) (tE c W F (.call f xs)) := by
  obtain ⟨ad, fd, ps, j, hm, hk, hb, hr, fok⟩ := O.fns hh f p hf
  obtain ⟨gl, hdb, hn⟩ := O.glo hg
  refine PE.imp (pe_callS (fok c.mg O.mg rfl) hr gl hm hk hb (passAt O.tk) ha hdb (star_cons h1) (star_back h2)) fun σ H Q ⟨ρ, M, Q', E', R, w, g, t⟩ => ?_
  exact tA_bind R w t fun ds M1 vs H1 _ w1 m1 R1 rs => ⟨ds, M1, Q', E', rs, R1.mem, w1, g.mono m1, t.mono m1⟩
theorem boot_of (b : Bi) (hb : biSup b = true) : bootBuiltins (biName b) = some (biOf b) := by
  cases b with
  | len => decide +kernel
  | abs => decide +kernel
  | int => decide +kernel
  | str => decide +kernel
  | list => decide +kernel
  | tuple => decide +kernel
  | dict => decide +kernel
  | all => decide +kernel
  | any => decide +kernel
  | sum => decide +kernel
  | max2 => decide +kernel
  | min2 => decide +kernel
  | max1 => decide +kernel
  | min1 => decide +kernel
  | sorted => decide +kernel
  | _ => cases hb
theorem bi_blt (b : Bi) : biName b ∈ blts := by cases b <;> decide
theorem se_bi (O : Okc X k F c W) {b : Bi} {m : Bool} {xs : List Ex} {e : Expr} {es : List Expr} {p' pos} (hh : k.hot = false) (hb : biSup b = true) (hg : k.glo (biName b) = true) (ha : PA X (e :: es) (tA c W F xs)) (h1 : isStar e = false) (h2 : noStars es = true) :
    PE X (.Call (.Name (biName b) p') (e :: es) [] pos) (tE c W F (.bi b m xs)) := by
  obtain ⟨gl, hdb, hn⟩ := O.glo hg
  have hm := O.blt _ (bi_blt b)
  have hv := boot_of b hb
  have ok := bi_ok (X := X) (c := c) b m (O.calm hh) O.un hb
  have rd : ∀ σ H Q, tE c W F (.bi b m xs) σ H Q → tCB (rBi c b m) (tA c W F xs) σ H Q := fun σ H Q ⟨ρ, M, Q', E', R, w, g, t⟩ =>
    tA_bind R w t fun ds M1 vs H1 _ w1 m1 R1 rs => ⟨ds, M1, Q', R1.mem, rs, w1, g.mono m1⟩
  have fn : ∀ id, biOf b = .builtin id → PE X (.Call (.Name (biName b) p') (e :: es) [] pos) (tE c W F (.bi b m xs)) := fun id q => by
    rw [q] at ok hv
    exact PE.imp (pe_callB ok gl hm hv ha hn hdb (star_cons h1) (star_back h2)) rd
  have ty : ∀ id, biOf b = .type id → PE X (.Call (.Name (biName b) p') (e :: es) [] pos) (tE c W F (.bi b m xs)) := fun id q => by
    rw [q] at ok hv
    exact PE.imp (pe_callTy ok gl hm hv ha hn hdb (star_cons h1) (star_back h2)) rd
  cases b <;> first | exact fn _ rfl | exact ty _ rfl | cases hb
/-! ### methods -/
theorem pe_bmP {o e : Expr} {es : List Expr} {to : TE} {t : TA} {name : Str} {apos cpos : Pos} {T id : String} {r : V → List V → Hp → VK → Prop} (P : V → Hp → Prop)
    (hP : ∀ (pins : List (Addr × Obj)) (σ : L2.St) (H : Hp) (s : Shared) (x : V) (v : Value), Inv X pins σ H s → RelV x v → P x H → s.TypeIs v T ∧ ∀ a, v = .ref a → ∃ ob, s.heap.get? a = some ob ∧ ob.dict = none)
    (pa : PlainAttrs T) (slot : Slot T name id) (hty : typeOf (.builtin id) = pure (.type "method_descriptor")) (hm : MtR X id r) (ho : PE X o to) (ha : PA X (e :: es) t)
    (hbase : attributeBase o name X.env (eval o X.env) = eval o X.env)
    (hfew : ((backTo cpos (starEach (e :: es) X.env)).all (fun x => !x.1) && (backToKw cpos (keywordEach [] X.env)).all (fun x => x.1.isSome)
      && decide ((e :: es).length + ([] : List Keyword).length + (if ([] : List Keyword).isEmpty then 0 else 1) < 30)) = true)
    (hline : (apos.endLine == cpos.line) = true) (hs : starEach (e :: es) X.env = (false, eval e X.env) :: starEach es X.env) (hplain : (backTo cpos (starEach es X.env)).any (·.1) = false) :
    PE X (.Call (.Attribute o name apos) (e :: es) [] cpos) (fun σ H Q => to σ H fun x H1 => P x H1 ∧ t σ H1 fun xs H2 => r x xs H2 Q) := by
  refine ⟨fun pins s σ H Q I h => ?_⟩
  refine wpAny_Call_method_late hbase hfew hline rfl (thn (ho.run pins s σ H _ I h) fun v s1 ⟨x, H1, I1, r1, ty, q1⟩ => ?_)
  obtain ⟨h1, h2⟩ := hP pins σ H1 s1 x v I1 r1 ty
  refine ⟨T, id, pa, slot, hty, h1, h2, ?_⟩
  have hA := ha.run cpos pins s1 σ H1 _ I1 q1
  rw [hs] at hA ⊢
  refine Calls.callWith_builtin (by show (false || (backTo cpos (starEach es X.env)).any (·.1)) = false; rw [hplain] <;> rfl) (Calls.evalArgs_plain ?_)
  exact thn hA fun us s2 ⟨vs, H2, I2, r2, q2⟩ => hm pins s2 σ H2 x vs v us Q I2 r1 r2 q2
theorem pe_bmP0 {o : Expr} {to : TE} {name : Str} {apos cpos : Pos} {T id : String} {r : V → List V → Hp → VK → Prop} (P : V → Hp → Prop)
    (hP : ∀ (pins : List (Addr × Obj)) (σ : L2.St) (H : Hp) (s : Shared) (x : V) (v : Value), Inv X pins σ H s → RelV x v → P x H → s.TypeIs v T ∧ ∀ a, v = .ref a → ∃ ob, s.heap.get? a = some ob ∧ ob.dict = none)
    (pa : PlainAttrs T) (slot : Slot T name id) (hty : typeOf (.builtin id) = pure (.type "method_descriptor")) (hm : MtR X id r) (ho : PE X o to)
    (hbase : attributeBase o name X.env (eval o X.env) = eval o X.env) (hline : (apos.endLine == cpos.line) = true) : PE X (.Call (.Attribute o name apos) [] [] cpos) (fun σ H Q => to σ H fun x H1 => P x H1 ∧ r x [] H1 Q) := by
  refine ⟨fun pins s σ H Q I h => ?_⟩
  refine wpAny_Call_method0_late hbase hline (thn (ho.run pins s σ H _ I h) fun v s1 ⟨x, H1, I1, r1, ty, q1⟩ => ?_)
  obtain ⟨h1, h2⟩ := hP pins σ H1 s1 x v I1 r1 ty
  exact ⟨T, id, pa, slot, hty, h1, h2, Calls.callWith_builtin rfl (PySem.evalArgs_none (hm pins s1 σ H1 x [] v [] Q I1 r1 .nil q1))⟩
/-- what a method's object is -/
def mtP (K : PySem.W.Frag) : Mt → V → Hp → Prop
  | .get => fun x H => ∃ a, x = .ref a ∧ IsD H a
  | .join => fun x _ => ∃ s, x = .str s
  | .append => fun x H => ∃ a xs, x = .ref a ∧ SqL K H a xs
  | .extend => fun x H => ∃ a xs, x = .ref a ∧ SqL K H a xs
  | .pop => fun x H => ∃ a xs, x = .ref a ∧ SqL K H a xs
  | .index => fun x H => ∃ a xs, x = .ref a ∧ SqL K H a xs
  | _ => fun _ _ => False
theorem mtP_is (m : Mt) (pins : List (Addr × Obj)) (σ : L2.St) (H : Hp) (s : Shared) (x : V) (v : Value) (I : Inv X pins σ H s) (r : RelV x v) (h : mtP X.K m x H) : s.TypeIs v (mtTy m) ∧ ∀ a, v = .ref a → ∃ ob, s.heap.get? a = some ob ∧ ob.dict = none := by
  have ls : (∃ a xs, x = V.ref a ∧ SqL X.K H a xs) → s.TypeIs v "list" ∧ ∀ a, v = .ref a → ∃ ob, s.heap.get? a = some ob ∧ ob.dict = none := fun ⟨a, xs, e, q⟩ => by
    subst e
    exact tyV_is (T := "list") I r (.inl ⟨rfl, xs, q⟩)
  cases m with
  | get =>
    obtain ⟨a, e, d⟩ := h
    subst e
    cases (show v = Value.ref a from r)
    obtain ⟨h1, h2, _⟩ := isD_at I d
    exact ⟨h1, h2⟩
  | join =>
    obtain ⟨z, e⟩ := h
    subst e
    exact tyV_is (T := "str") I r rfl
  | append => exact ls h
  | extend => exact ls h
  | pop => exact ls h
  | index => exact ls h
  | _ => exact h.elim
theorem mtP_of {m : Mt} {o : D} {M : Mem} {H : Hp} {x : V} {K : PySem.W.Frag} (hb : mtSup m = true) (mr : MRep c.mg M H) (r : Rep c.mg M H o x) (h : mtIs m o M) : mtP K m x H := by
  have ls : (isTup o = false ∧ (seqM M o).isSome = true) → ∃ a xs, x = V.ref a ∧ SqL K H a xs := fun ⟨h1, h2⟩ => by
    obtain ⟨xs, e⟩ := Option.isSome_iff_exists.mp h2
    obtain ⟨a, vs, ea, _, q⟩ := lst_of mr r h1 e
    exact ⟨a, vs, ea, .inl q⟩
  cases m with
  | append => exact ls h
  | extend => exact ls h
  | pop => exact ls h
  | index => exact ls h
  | get =>
    obtain ⟨p, e⟩ := Option.isSome_iff_exists.mp (show (dctM M o).isSome = true from h)
    obtain ⟨t, kvs⟩ := p
    obtain ⟨a, ea, h⟩ := dct_of mr r e
    refine ⟨a, ea, ?_⟩
    rcases h with ⟨_, ws, q, _⟩ | ⟨_, ws, q, _⟩
    · exact .inl ⟨ws, q⟩
    · exact .inr ⟨ws, q⟩
  | join =>
    cases o with
    | str z => exact ⟨z, r⟩
    | _ => cases (show false = true from h)
  | _ => cases hb
theorem se_mth (O : Okc X k F c W) {m : Mt} {a : Ex} {xs : List Ex} {o : Expr} {es : List Expr} {apos cpos} (hb : mtSup m = true) (ho : PE X o (tE c W F a)) (ha : PA X es (tA c W F xs)) (h1 : isBase o = false) (h2 : noStars es = true) (hl : es.length < 10) (hline : (apos.endLine == cpos.line) = true)
    (h0 : es = [] → xs = []) : PE X (.Call (.Attribute o (mtName m) apos) es [] cpos) (tE c W F (.mth m a xs)) := by
  have pa : PlainAttrs (mtTy m) := by
    cases m with
    | append => exact PySem.F.plainAttrs_list
    | extend => exact PySem.F.plainAttrs_list
    | pop => exact PySem.F.plainAttrs_list
    | index => exact PySem.F.plainAttrs_list
    | get => exact PySem.F.plainAttrs_dict
    | join => exact PySem.F.plainAttrs_str
    | _ => cases hb
  have sl : Slot (mtTy m) (mtName m) (mtOf m) := by
    cases m with
    | append => exact PySem.F.slot_list_append
    | extend => exact PySem.F.slot_list_extend
    | pop => exact PySem.F.slot_list_pop
    | index => exact PySem.F.slot_list_index
    | get => exact PySem.F.slot_dict_get
    | join => exact PySem.F.slot_str_join
    | _ => cases hb
  have ty : typeOf (.builtin (mtOf m)) = pure (.type "method_descriptor") := by
    cases m with
    | append => exact PySem.F.type_list_append
    | extend => exact PySem.F.type_list_extend
    | pop => exact PySem.F.type_list_pop
    | index => exact PySem.F.type_list_index
    | get => exact PySem.F.type_dict_get
    | join => exact PySem.F.type_str_join
    | _ => cases hb
  cases es with
  | nil =>
    cases h0 rfl
    refine PE.imp (pe_bmP0 (mtP X.K m) (mtP_is m) pa sl ty (mt_ok (c := c) m O.un hb) ho (base_ok h1) hline) fun σ H Q ⟨ρ, M, Q', E', R, w, g, t⟩ => ?_
    refine tE_bind R w t fun d M1 v H1 ⟨w0, w1⟩ m1 R1 r1 => ⟨mtP_of hb R1.mem r1 w0, ?_⟩
    exact ⟨d, [], M1, Q', R1.mem, r1, rfl, w1, g.mono m1⟩
  | cons e es =>
    have hs : isStar e = false := by
      unfold noStars at h2
      simp only [List.all_cons, Bool.and_eq_true, Bool.not_eq_true'] at h2
      exact h2.1
    have hs2 : noStars es = true := by
      unfold noStars at h2 ⊢
      simp only [List.all_cons, Bool.and_eq_true, Bool.not_eq_true'] at h2
      exact h2.2
    have hfew : ((backTo cpos (starEach (e :: es) X.env)).all (fun x => !x.1) && (backToKw cpos (keywordEach [] X.env)).all (fun x => x.1.isSome)
      && decide ((e :: es).length + ([] : List Keyword).length + (if ([] : List Keyword).isEmpty then 0 else 1) < 30)) = true := by
      have q1 : (backTo cpos (starEach (e :: es) X.env)).all (fun x => !x.1) = true := by
        have := star_back (env := X.env) (pos := cpos) h2
        rw [List.any_eq_false] at this
        rw [List.all_eq_true]
        intro x hx
        have := this x hx
        simpa using this
      rw [q1]
      simp only [List.length_cons] at hl
      simp [keywordEach, backToKw]
      omega
    refine PE.imp (pe_bmP (mtP X.K m) (mtP_is m) pa sl ty (mt_ok (c := c) m O.un hb) ho ha (base_ok h1) hfew hline (star_cons hs) (star_back hs2)) fun σ H Q ⟨ρ, M, Q', E', R, w, g, t⟩ => ?_
    refine tE_bind R w t fun d M1 v H1 ⟨w0, w1⟩ m1 R1 r1 => ⟨mtP_of hb R1.mem r1 w0, ?_⟩
    exact tA_bind R1 w1 (t.mono m1) fun ds M2 vs H2 _ w2 m2 R2 rs => ⟨d, ds, M2, Q', R2.mem, r1.mono m2, rs, w2, g.mono (m1.trans m2)⟩
/-! ### isinstance -/
theorem kit_all (t u : Ty) : kitB (tyStr t) (tyStr u) = some (u == t || (u == .int && t == .bool)) := by
  cases t <;> cases u <;> decide +kernel
theorem kit_non (u : Ty) : kitB "NoneType" (tyStr u) = some false := by cases u <;> decide +kernel
theorem tyX_of {d : D} {M : Mem} {H : Hp} {v : V} {K : PySem.W.Frag} {t : Ty} (mr : MRep c.mg M H) (r : Rep c.mg M H d v) (h : tyOf M d = some t) : TyX K H v (.type (tyStr t)) := by
  have ls : ∀ {a : Addr} {vs : List V}, Rd H a (.lst vs) → TyX K H (.ref a) (.type "list") := fun q => by
    rcases q with q | ⟨o, q⟩
    · exact .base (.lst q)
    · exact .base (.frz q)
  have ds : ∀ {a : Addr} {vs : List (Key × V)}, Rd H a (.dK vs) → TyX K H (.ref a) (.type "dict") := fun q => by
    rcases q with q | ⟨o, q⟩
    · exact .base (.dK q)
    · exact .fDict q
  cases d with
  | bl b => cases h; cases (show v = _ from r); exact .base (.bl _)
  | int b => cases h; cases (show v = _ from r); exact .base (.int _)
  | str b => cases h; cases (show v = _ from r); exact .base (.str _)
  | tup b =>
    cases h
    obtain ⟨a, vs, e, _, q, _⟩ := r
    subst e
    rcases q with q | ⟨_, o, q⟩
    · exact .base (.tup q)
    · exact .fTuple q
  | lst b => cases h; obtain ⟨a, vs, e, _, q, _⟩ := r; subst e; exact ls q
  | dct z b =>
    cases z with
    | false => cases h; obtain ⟨a, e, _, vs, q, _⟩ := r; subst e; exact ds q
    | true => cases h
  | ref a =>
    cases (show v = _ from r)
    unfold tyOf at h
    dsimp only at h
    split at h
    · rename_i xs e
      cases h
      obtain ⟨vs, q, _⟩ := mr.std a _ e
      exact .base (.lst q)
    · rename_i t' xs e
      cases h
      cases t' with
      | false =>
        obtain ⟨vs, q, _⟩ := mr.std a _ e
        exact .base (.dK q)
      | true =>
        obtain ⟨vs, q, _⟩ := mr.std a _ e
        exact .base (.dT q)
    · cases h
  | _ => cases h
theorem ty_boot (t : Ty) : bootBuiltins (tyName t) = some (.type (tyStr t)) := by cases t <;> decide +kernel
theorem ty_blt (t : Ty) : tyName t ∈ blts := by cases t <;> decide
theorem boot_isi : bootBuiltins "isinstance" = some (.builtin "isinstance") := by decide +kernel
theorem pe_tyName (O : Okc X k F c W) {t : Ty} {p} (hg : k.glo (tyName t) = true) : PE X (.Name (tyName t) p) (tC (.ty (tyStr t))) := by
  obtain ⟨gl, hdb, hn⟩ := O.glo hg
  exact pe_bltn gl (O.blt _ (ty_blt t)) (ty_boot t) rfl hn hdb
theorem se_isi (O : Okc X k F c W) {a : Ex} {t : Ty} {e : Expr} {p1 p2 pos} (hg : k.glo "isinstance" = true) (hy : k.glo (tyName t) = true) (he : isStar e = false) (ha : PE X e (tE c W F a)) :
    PE X (.Call (.Name "isinstance" p1) [e, .Name (tyName t) p2] [] pos) (tE c W F (.isi a [t])) := by
  obtain ⟨gl, hdb, hn⟩ := O.glo hg
  have as : PA X [e, .Name (tyName t) p2] _ := pa_cons ha (pa_cons (pe_tyName O hy) pa_nil rfl) (star_cons he)
  refine PE.imp (pe_callB call_isi gl (O.blt _ (by decide)) boot_isi as hn hdb (star_cons he) rfl) fun σ H Q ⟨ρ, M, Q', E', R, w, g, tt⟩ => ?_
  refine tE_bind R w tt fun d M1 v H1 w1 m1 R1 r1 => ?_
  show rIsi X.K [v, .ty (tyStr t)] H1 Q
  by_cases z : d = .non
  · subst z
    cases (show v = V.non from r1)
    exact ⟨.non, .ty (tyStr t), .type "NoneType", .type (tyStr t), false, rfl, .ty _, .base .non, kit_ty (kit_non t), (g.mono m1).now R1.mem w1 rfl⟩
  · have w2 : ob (tyOf M1 d) fun t' => Q' (.bl ([t].any fun x => x == t' || (x == .int && t' == .bool))) M1 := by
      cases d <;> first | exact absurd rfl z | exact w1
    obtain ⟨t', e', q⟩ := ob_some w2
    refine ⟨v, .ty (tyStr t), .type (tyStr t'), .type (tyStr t), _, rfl, .ty _, tyX_of R1.mem r1 e', kit_ty (kit_all t' t), ?_⟩
    have q2 : Q' (.bl (t == t' || (t == .int && t' == .bool))) M1 := by simpa using q
    exact (g.mono m1).now R1.mem q2 rfl
end
end Dee

set_option Elab.async false
set_option linter.all false
set_option autoImplicit false
set_option maxRecDepth 100000
/-! A set made of a list: any keys that are flat. -/
namespace DeeSet
open PySem PySem.Spec PyProof.Rows
section
variable {κ : Type} [DecidableEq κ] [BEq κ] [LawfulBEq κ]
/-- one key more: at the end, if it is new -/
def stepK (σ : List κ) (v : κ) : List κ := if σ.any (· == v) then σ else σ ++ [v]
def metK (val : Nat → κ) (i : Nat) : List κ := ((List.range i).map val).foldl stepK []
theorem metK_succ (val : Nat → κ) (i : Nat) : metK val (i + 1) = stepK (metK val i) (val i) := by
  unfold metK; rw [List.range_succ, List.map_append, List.foldl_append] <;> rfl
theorem stepK_length (σ : List κ) (v : κ) : (stepK σ v).length = if σ.any (· == v) then σ.length else σ.length + 1 := by
  unfold stepK; split <;> simp
theorem metK_length_le (val : Nat → κ) : ∀ i, (metK val i).length ≤ i
  | 0 => Nat.le_refl _
  | i + 1 => by
    rw [metK_succ, stepK_length]
    have := metK_length_le val i
    split <;> omega
theorem stepK_any (σ : List κ) (v k : κ) : (stepK σ v).any (· == k) = (σ.any (· == k) || decide (k = v)) := by
  unfold stepK
  by_cases e : k = v
  · subst e
    split
    · rename_i h; simp [h]
    · simp
  · have hb : (v == k) = false := by simpa [beq_iff_eq] using (fun h' : v = k => e h'.symm)
    split <;> simp [e, hb]
end
section
variable {prog : Program} {w : World} {A : Around} {R : Result → Shared → Prop} {I : Addr} {fp wr : List Addr} {G : Array GenState → Array GenState → Prop} {n : Nat} {P : Nat → Value → Prop} {St : Nat → Shared → Prop} {κ : Type} [DecidableEq κ] [BEq κ] [LawfulBEq κ] {knd : KeyKind prog w κ}
theorem set_loopK (W : WalksS prog w A.in1 I fp wr G n P St) (S : Addr) (hSf : S ∉ fp)
    (val : Nat → κ) (hval : ∀ i v, P i v → knd.is (val i) v = true ∧ v.scannable = true) (hb : n + 1 < scanBound) :
    ∀ (k i : Nat) (s : Shared), n - i = k → i ≤ n → St i s →
      s.heap.SetOf knd S (fun k' => (metK val i).any (· == k')) (metK val i).length →
      (∀ s', Moved (S :: wr) G s s' → s'.heap.SetOf knd S (fun k' => (metK val n).any (· == k')) (metK val n).length → R (.ok (.ret .none)) s') →
      codeAny (model prog w) A (.builtin "set.update.loop" ⟨[.ref S, .ref I], []⟩) R s := by
  have hSw : S ∉ wr := fun h => hSf (W.sub _ h)
  have hsub : ∀ b ∈ wr, b ∈ S :: wr := fun b hb => List.mem_cons_of_mem _ hb
  intro k
  induction k with
  | zero =>
    intro i s hk hi hst hS hR
    have hin : i = n := by omega
    subst hin
    refine codeAny_builtin PyProof.Rows.F.entry_set_update_loop ?_
    rw [Around.under_plainId PyProof.Rows.F.plain_set_update_loop _]
    show wpAny _ A.in1 (pyNext (.ref I) >>= _) _ _ s
    refine wpAny_bind (W.done s _ _ hst fun s' hm => ?_)
    show wpAny _ A.in1 (ret Value.none) _ _ s'
    exact wpAny_pure (hR s' (hm.mono hsub) (by
      obtain ⟨o, es, ep, t, ho, rest⟩ := hS
      exact ⟨o, es, ep, t, hm.heap S _ hSw ho, rest⟩))
  | succ k ih =>
    intro i s hk hi hst hS hR
    have hlt : i < n := by omega
    refine codeAny_builtin PyProof.Rows.F.entry_set_update_loop ?_
    rw [Around.under_plainId PyProof.Rows.F.plain_set_update_loop _]
    show wpAny _ A.in1 (pyNext (.ref I) >>= _) _ _ s
    refine wpAny_bind (W.item i s _ _ hlt hst fun v s' hP hst' hm => ?_)
    obtain ⟨hk1, hk2⟩ := hval i v hP
    have hS' : s'.heap.SetOf knd S (fun k' => (metK val i).any (· == k')) (metK val i).length := by
      obtain ⟨o, es, ep, tb, ho, rest⟩ := hS
      exact ⟨o, es, ep, tb, hm.heap S _ hSw ho, rest⟩
    show wpAny _ A.in1 (holding [v] (setAdd S v) >>= _) _ _ s'
    refine wpAny_bind (wpAny_holding ?_)
    unfold setAdd
    refine wpAny_holding ?_
    refine wpAny_bind (knd.pyHash (k := val i) (hk1) ?_)
    have hroom : (metK val i).length + 1 < scanBound := by have := metK_length_le val i; omega
    refine wpAny_setAddHashed_of (knd := knd) (s := { s' with toks := s'.toks + 1 }) hk1 hk2 hS' hroom fun h' hsb hS2 => ?_

    have hSi : h'.SetOf knd S (fun k' => (metK val (i + 1)).any (· == k')) (metK val (i + 1)).length :=
      SetOf_congr hS2 (fun k' => by rw [metK_succ, stepK_any]) (by rw [metK_succ, stepK_length])
    refine wpAny_pure ⟨plainId_quiet PyProof.Rows.F.plain_set_update_loop _, ih (i + 1) _ (by omega) hlt (W.frame _ s' _ _ hst' (Nat.le_succ _) fun b hb o e => ?_) hSi fun s'' hm'' hS'' => ?_⟩
    · rw [hsb.2 b (fun h : b = S => hSf (by rw [← h]; exact hb))]; exact e
    · refine hR s'' (Moved.trans W.gtrans ((hm.mono hsub).then_heap (Nat.le_succ _) fun b o hb e => ?_) hm'') hS''
      rw [hsb.2 b (fun h : b = S => hb (by rw [h]; exact List.mem_cons_self))]; exact e
end
section
variable {prog : Program} {w : World} {A : Around} {E : Value → Shared → Prop} {s : Shared} {κ : Type} [DecidableEq κ] [BEq κ] [LawfulBEq κ] {knd : KeyKind prog w κ}
set_option maxHeartbeats 3200000 in
theorem call_set_listK {l : Addr} {items : Array Value} (val : Nat → κ) {Q : Value → Shared → Prop}
    (hh : A.handled = none) (hl : s.heap.IsList l items) (hval : ∀ i v, items[i]? = some v → knd.is (val i) v = true ∧ v.scannable = true) (hb : items.size + 1 < scanBound)
    (h : ∀ (h' : Heap) (tk : Nat), h'.SetOf (knd) s.heap.objs.size (fun k' => (metK val items.size).any (· == k')) (metK val items.size).length →
      (∀ b o, b < s.heap.objs.size → s.heap.get? b = some o → h'.get? b = some o) → Q (.ref s.heap.objs.size) { s with heap := h', toks := tk }) :
    wpAny (model prog w) A (call (.type "set") [.ref l]) Q E s := by
  obtain ⟨c, tl, hmro⟩ := PySem.F.called_set.mro
  have hmade := PySem.F.called_set.made
  have hsub := PySem.F.called_set.sub
  refine wpAny_call (codeAny_of_tree ?_)
  show wpAny _ _ (callAny (.type "set") _) _ _ _
  refine wpAny_pure ⟨Code.quiet_builtin _ (by decide +kernel), codeAny_builtin PySem.F.entry_type_call ?_⟩
  rw [Around.under_plain (weight_type_call_type "set" [.ref l] []) rfl]
  have h1 := PySem.F.called_set.notType
  have h2 := PySem.F.called_set.canCreate
  have hct := PySem.F.typeCall_set_1 (.ref l)
  repeat (any_goals (first | assumption | wp_step))

  refine codeAny_mono (code_set_new_1 (.ref l) (E := E) (Q₁ := fun obj s₁ => ∃ led : Bool, obj = .ref s.heap.objs.size ∧ s₁ = { s with heap := s.heap.push { cls := .type "set", dict := none, data := .set #[] 0 (.fresh 0 0 led) } }) fun led => ⟨led, rfl, rfl⟩) fun r s₁ hr => ?_
  cases r with
  | error e => exact hr
  | ok fl =>
    cases fl with
    | ret obj =>
      obtain ⟨led, rfl, rfl⟩ := hr
      have hS : (s.heap.push { cls := .type "set", dict := none, data := .set #[] 0 (.fresh 0 0 led) }).get? s.heap.objs.size = some { cls := .type "set", dict := none, data := .set #[] 0 (.fresh 0 0 led) } := Heap.get?_push_size _ rfl
      have hT : Shared.TypeIs { s with heap := s.heap.push { cls := .type "set", dict := none, data := .set #[] 0 (.fresh 0 0 led) } } (.ref s.heap.objs.size) "set" := ⟨_, hS, rfl⟩
      have hli := PySem.F.called_set.init.lookup
      have hbi := PySem.F.called_set.init.bind (.ref s.heap.objs.size)
      repeat (any_goals (first | assumption | wp_step))

      refine codeAny_mono (codeAny_call_builtin (R := wants (fun r s₂ => r = .none ∧ ∃ h' tk, s₂ = { s with heap := h', toks := tk } ∧
          h'.SetOf (knd) s.heap.objs.size (fun k' => (metK val items.size).any (· == k')) (metK val items.size).length ∧
          (∀ b o, b < s.heap.objs.size → s.heap.get? b = some o → h'.get? b = some o)) E) PySem.F.called_set.init.plain PySem.F.entry_set_init (check_set_init_1 hT ?_)) fun r₂ s₂ hr₂ => ?_
      · obtain ⟨ol, hol, hcl, nl, hdl⟩ := hl
        obtain ⟨ocls, odict, odata, oslots⟩ := ol
        simp only at hcl hdl
        subst hcl; subst hdl
        have hol' : (s.heap.push { cls := .type "set", dict := none, data := .set #[] 0 (.fresh 0 0 led) }).get? l = some { cls := .type "list", dict := odict, data := .seq items nl, slots := oslots } := Heap.get?_push_of_some _ hol
        have hsls := PySem.F.sub_list_set
        have hslf := PySem.F.sub_list_frozenset
        have hne : (Value.type "list" == Value.type "dict") = false := by decide
        have hl1 : (s.heap.push { cls := .type "set", dict := none, data := .set #[] 0 (.fresh 0 0 led) }).IsList l items := ⟨_, hol', rfl, nl, rfl⟩
        unfold Builtin.«set.__init__» noKeywords Builtin.Frozenset.updateFrom
        generalize hPI : pyIter = PI
        wp_walk
        subst hPI

        refine wpAny_pyIter_list hl1 ?_
        refine wpAny_bind (wpAny_runValue ?_)
        have hlS : l < s.heap.objs.size := Heap.lt_size hol
        have hh3 : A.in1.in1.in1.handled = none := by simp [hh]
        have hneI : l ≠ (s.heap.push { cls := .type "set", dict := none, data := .set #[] 0 (.fresh 0 0 led) }).objs.size := by
          rw [Heap.size_push]; exact Nat.ne_of_lt (Nat.lt_succ_of_lt hlS)
        have hSf : s.heap.objs.size ∉ [(s.heap.push { cls := .type "set", dict := none, data := .set #[] 0 (.fresh 0 0 led) }).objs.size, l] := by
          rw [Heap.size_push]; simp only [List.mem_cons, List.mem_singleton, List.not_mem_nil, or_false, not_or]
          exact ⟨Nat.ne_of_lt (Nat.lt_succ_self _), Nat.ne_of_gt hlS⟩
        refine set_loopK ((Walks.list hh3 _ l hneI items).toS) s.heap.objs.size
          hSf val hval hb (items.size - 0) 0 _ (by omega) (Nat.zero_le _)
          ⟨⟨_, Heap.get?_push_size _ rfl, rfl, rfl⟩, (hl1.push _)⟩ ?hS0 ?hR
        case hS0 =>
          have hget : ((s.heap.push { cls := .type "set", dict := none, data := .set #[] 0 (.fresh 0 0 led) }).push { cls := .type "list_iterator", data := .fields #[.ref l, .int 0 0] }).get? s.heap.objs.size
              = some { cls := .type "set", dict := none, data := .set #[] 0 (.fresh 0 0 led) } := Heap.get?_push_of_some _ hS
          exact PyProof.Rows.SetOf_congr ((PyProof.Rows.setObjOf_fresh (knd := knd) led).setOf hget (by unfold scanBound; omega)) (fun _ => rfl) rfl
        case hR =>
          intro s' hm hS'
          obtain ⟨h', g', d', tk', os'⟩ := s'
          have eg : g' = s.gens := hm.gens
          have ed : d' = s.drawn := hm.drawn
          have eo : os' = s.os := hm.os
          subst eg; subst ed; subst eo
          show wpAny _ _ _ _ _ _
          refine wpAny_pure ?_
          show wpAny _ _ (ret Value.none) _ _ _
          refine wpAny_pure ⟨rfl, h', tk', rfl, hS', fun b o hb e => ?_⟩
          have hb1 : b ≠ s.heap.objs.size := Nat.ne_of_lt hb
          have hb2 : b ≠ (s.heap.push { cls := .type "set", dict := none, data := .set #[] 0 (.fresh 0 0 led) }).objs.size := by
            rw [Heap.size_push]; exact Nat.ne_of_lt (Nat.lt_succ_of_lt hb)
          exact hm.heap b o (by simp only [List.mem_cons, List.mem_singleton, List.not_mem_nil, or_false, not_or]; exact ⟨hb1, hb2⟩) (Heap.get?_push_of_some _ (Heap.get?_push_of_some _ e))

      · cases r₂ with
        | error e => exact hr₂
        | ok fl₂ =>
          cases fl₂ with
          | ret r =>
            obtain ⟨rfl, h', tk, rfl, hS', hk'⟩ := hr₂
            repeat (any_goals (first | assumption | wp_step))
            exact h _ _ hS' hk'
          | _ => exact hr₂.elim
    | _ => exact hr.elim
end
end DeeSet

set_option Elab.async false
set_option linter.all false
set_option autoImplicit false
set_option maxRecDepth 100000
set_option maxHeartbeats 1000000
/-! Dee: a lambda without parameters, handed to a def that calls it. -/
namespace Dee
open PySem PySem.Spec PyProof.Rows L2
section
variable {X : Cx} {k : Ck} {F : Sem} {c : LC} {W : WX}
/-- the name of a lambda -/
abbrev lamQ (X : Cx) : Str := X.env.qual ++ "<lambda>"
theorem act_of {pins : List (Addr × Obj)} {σ : L2.St} {H : Hp} {s : Shared} {Ng : List Str} {qg : Str} {sg scope : Scope} {g f c' : Addr} {cdg pm ctv : Value} {params : Arguments} {body : Expr} {j l : Nat} {ρ : Env} {tl : XK → L2.St → Hp → VK → Prop}
    (I : Inv X pins σ H s) (L : LamX.LamS X.env.scope scope) (hf : s.heap.get? f = some (PySem.W.kla_obj "<lambda>" (lamQ X) params body scope (cloFrom X.env.cells scope.names []) pm c' ctv)) (hfn : H f = none) (hfr : f ∉ frs X.stack)
    (hbind : bindArgs (PySem.W.kla_fn "<lambda>" (lamQ X) params body scope (cloFrom X.env.cells scope.names []) pm (.ref c') ctv) ⟨[], []⟩ = pure [])
    (hr : Room (j + 1) (X.A.deeper (envOfC qg sg s.heap.objs.size g cdg)))
    (hbody : ∀ (A : Around) (outer : List PySem.Env) (s : Shared) (H : Hp) (E : XK) (f c' : Addr), Room j (A.deeper (LamX.lamEnv X scope s.heap.objs.size f c')) → PE (LamX.lamCx X A outer s H E scope f c') body (tl E)) :
    Act (cxOf C8.CX0 X.prog X.w X.K X.mg X.base Ng qg sg g cdg X.A X.stack s H C8.E0) ⟨f, c', lamQ X, l, ρ, σ, fun E => tl E σ⟩ := by
  intro W pn xe i a p1 p2 tk hN hv hd hcd
  refine ⟨fun pinsZ sZ σZ HZ Q IZ ⟨hs, hc, ht⟩ => ?_⟩
  have pv : PE (L2.Cx.tr (cxOf C8.CX0 X.prog X.w X.K X.mg X.base Ng qg sg g cdg X.A X.stack s H C8.E0) pn xe) (.Name a p1) (fun σ H Q => ∃ v, σ[i]? = some (some v) ∧ Q v H) := pe_var (X := L2.Cx.tr (cxOf C8.CX0 X.prog X.w X.K X.mg X.base Ng qg sg g cdg X.A X.stack s H C8.E0) pn xe) (i := i) hN hv hd hcd
  refine wpAny_Call_Name_kw (thn (pv.run pinsZ sZ σZ HZ (fun v H1 => v = .ref f ∧ H1 = HZ) IZ ⟨.ref f, hs, rfl, rfl⟩) fun u s1 ⟨v, H1, I1, r1, ev, eH⟩ => ?_)
  subst ev eH
  cases (show u = Value.ref f from r1)
  have of1 := I1.base.keep f _ hf hfn hfr (fun z => nomatch (show f ∈ ([] : List Addr) from z))
  refine PySem.W.callWith_F0 ⟨_, _, _, _, of1⟩ ?_
  have un : L2.Un (frs X.stack) [] H H1 s.heap s1.heap := I1.base
  obtain ⟨⟨oc, vs, t, hoc, hdc, hvc⟩, _, _⟩ := I1.hok c' _ hc
  have rc : codeAny (model X.prog X.w) (X.A.deeper (envOfC qg sg s.heap.objs.size g cdg)) (.call (.ref f) ⟨[], []⟩) (CR (L2.CX X.prog X.w) (envOfC qg sg s.heap.objs.size g cdg :: X.stack) X.prog X.w H1 s1 Q fun cls d H' => W cls d σZ H') s1 := by
    refine PySem.W.kla_callFunE hr.depth of1 rfl L.co L.gen rfl ⟨c', oc, vs, t, rfl, hoc, hdc, hvc⟩ ?_
    rw [hbind]
    refine wpAny_pure (wpAny_newFunctionEnv (fun y hy => (L.own y hy).2) (fun y hy => absurd hy (by simp)) (fun h₁ hns hsb => ⟨I1.nolimit.fresh _ hsb, ?_⟩) L.kind)
    show codeAny _ _ (.expr body (LamX.lamEnv X scope s1.heap.objs.size f c')) _ _
    have kp : ∀ b o, s1.heap.get? b = some o → h₁.get? b = some o := fun b o e => hsb.extBut b o (Nat.ne_of_lt (Heap.lt_size e)) (Heap.get?_push_of_some _ e)
    have J := LamX.lam_start2 (E := fun cls d H' => W cls d σZ H') (f := f) (c' := c') (tk := s1.toks + ([] : List (Str × Value)).length) I L I1.env0 hr.hd un hns kp
    exact PySem.W.kla_codeExpr (wpAny_mono ((hbody _ _ s1 H1 _ f c' (hr.deeper _)).run [] _ _ H1 Q J ht) (fun v s' ⟨w', H', J', rv, q⟩ => ⟨w', H', J'.os, J'.bare, J'.base, J'.hok, rv, q⟩) fun e s' hq => hq)
  refine wpAny_call (codeAny_mono rc fun r s' hq => ?_)
  cases r with
  | error e => exact passAt tk σZ pinsZ H1 s1 e s' I1 hq
  | ok fl =>
    cases fl with
    | ret u => exact I1.after hq
    | next => exact False.elim hq
    | brk => exact False.elim hq
    | cont => exact False.elim hq
/-- x(), x the lambda -/
theorem se_clo (O : Okc X k F c W) {x : Str} {p1 p2 : Pos} (hh : k.hot = false) (ha : k.act = true) (hv : k.vis 0 x = true) : PE X (.Call (.Name x p1) [] [] p2) (tE c W F (.clo 0)) := by
  obtain ⟨z, X0, pn, xe, hz, rfl, act, rd⟩ := O.actz hh ha
  obtain ⟨v1, v2, v3, v4⟩ := O.vis hv
  refine PE.imp (act W pn xe 0 x p1 p2 O.tk v1 v2 v3 v4) fun σ H Q ⟨ρ, M, Q', E', R, w, g, t⟩ => ?_
  obtain ⟨l1, l2, l3⟩ := R.lam z hz
  refine ⟨l2, l3.code, rd M H Q' E' Q _ ?_ l3 R.mem g t⟩
  have w : (match lk ρ 0 with | some (.clo l ρ) => F.lam l ρ M Q' E' | _ => False) := w
  rw [l1] at w
  exact w
theorem back_cons {pos : Pos} {t : PySem.Sem Value} {r : List (Bool × PySem.Sem Value)} : backTo pos ((false, t) :: r) = (false, t) :: backTo pos r := rfl
theorem noPars_ok {params : Arguments} (h : noPars params = true) : params = ⟨[], [], none, [], [], none, []⟩ := by
  unfold noPars at h
  split at h
  · rfl
  · cases h
/-- the table grows: what the small language sees stays -/
theorem MRep.extN {g : Gm} {M : Mem} {H H1 : Hp} (m : MRep g M H) (e : LamX.ExtN H H1) (t : LamX.Tabs g.T H1) : Mono M H M H1 ∧ MRep g M H1 := by
  have st : ∀ b u, H b = some u → (∀ ps, u ≠ .tbl ps) → H1 b = some u := fun b u h n => e b u h n
  have mo : Mono M H M H1 := by
    refine ⟨fun a u nf n r => ⟨n, ?_⟩, fun a u ow n h => ⟨n, st a u h fun ps z => by subst z; exact ow⟩⟩
    rcases r with h | ⟨ob, h⟩
    · exact .inl (st a u h fun ps z => by subst z; exact nf)
    · exact .inr ⟨ob, st a _ h fun ps z => nomatch z⟩
  refine ⟨mo, fun a o q => ?_, fun a h => ?_, t⟩
  · obtain ⟨u, h1, h2⟩ := (m.std a o q).at2
    have h3 := st a u h1 fun ps z => by subst z; exact h2
    exact (m.std a o q).mono mo (h3.trans h1.symm)
  · obtain ⟨n, u, h1, h2⟩ := m.hid a h
    exact ⟨n, u, st a u h1 fun ps z => by subst z; exact h2, h2⟩
theorem repL_strs {g : Gm} {M : Mem} {H : Hp} : ∀ ss : List Str, RepL g M H (ss.map D.str) (ss.map V.str)
  | [] => rfl
  | s :: ss => ⟨.str s, _, rfl, rfl, repL_strs ss⟩
theorem strArgs_ok {ss : List Str} {es : List Expr} (h : strArgs ss es = true) : (ss = [] ∧ es = []) ∨ ∃ t j p, ss = [t] ∧ es = [.Constant (.str t) j p] := by
  match ss, es, h with
  | [], [], _ => exact .inl ⟨rfl, rfl⟩
  | [t], es, h =>
    simp only [strArgs] at h
    split at h
    · rename_i u j p
      rw [beq_iff_eq] at h
      subst h
      exact .inr ⟨_, _, _, rfl, rfl⟩
    · cases h
/-- the texts behind the lambda -/
theorem run_strs {pins : List (Addr × Obj)} {σ : L2.St} {H : Hp} {pos : Pos} {E : Value → Shared → Prop} {ss : List Str} {es : List Expr} {s : Shared} {R : List Value → Shared → Prop} (h : strArgs ss es = true) (I : Inv X pins σ H s)
    (q : ∀ us t, Vals (ss.map V.str) us → Inv X pins σ H { s with toks := t } → R us { s with toks := t }) : wpAny (model X.prog X.w) X.A (spliced (backTo pos (starEach es X.env))) R E s := by
  rcases strArgs_ok h with ⟨rfl, rfl⟩ | ⟨t, j, p, rfl, rfl⟩
  · exact Calls.spliced_nil (q [] s.toks .nil I)
  · refine Calls.spliced_cons (Calls.Constant_str (k := j) (pos := p) ?_)
    exact Calls.spliced_nil (q [_] _ (.cons ⟨_, rfl⟩ .nil) (I.tok _))
theorem strs_plain {ss : List Str} {es : List Expr} {env : PySem.Env} {pos : Pos} (h : strArgs ss es = true) : (backTo pos (starEach es env)).any (·.1) = false := by
  rcases strArgs_ok h with ⟨rfl, rfl⟩ | ⟨t, j, p, rfl, rfl⟩ <;> rfl
/-- f(lambda: body, 'text') -/
theorem se_lcall (O : Okc X k F c W) {f l : Nat} {ss : List Str} {x : Str} {params : Arguments} {body : Expr} {scope : Scope} {es : List Expr} {p lpos pos : Pos} (hh : k.hot = false) (hg : k.glo x = true) (hf : k.lfs f = some x) (hp : noPars params = true) (hl : k.lok l body scope = true) (hs : strArgs ss es = true) :
    PE X (.Call (.Name x p) (.Lambda params body scope lpos :: es) [] pos) (tE c W F (.lcall f l ss)) := by
  obtain ⟨g, fd, Ng, ps, nx, qg, pg, bg, sg, dV, kV, doc, pm, cdv, ct, oc, an, od, osl, j, c0, P, tl, hm, hk, lk, efd, hcg, hb, Sg, hcode, TB, hmT, hu, hr, L, hbody, hlen, give⟩ := O.job hh f x hf l body scope hl
  obtain ⟨gl, hdb, hnn⟩ := O.glo hg
  cases (noPars_ok hp)
  refine ⟨fun pins s σ H Q I ⟨ρ, M, Q', E', R, w, g', t⟩ => ?_⟩
  have w : F.call f (.clo l ρ :: ss.map D.str) M Q' (fun _ _ => False) := w
  refine wpAny_Call_Name_kw (ld_glob I gl hm ?_ hdb)
  refine PySem.W.callWith_K (h₀ := X.base) I.ok.mod.kin hk ?_ (star_cons rfl) (strs_plain hs)
  rw [star_cons (e := .Lambda _ body scope lpos) rfl]
  rw [back_cons]
  refine Calls.spliced_cons (LamX.lam_make2 I TB hcode hmT hu R.mem.tab rfl (L.has I.ok) fun fL c' pm' ctv H1 s' I1 eN T1 hfl hfn hfr hco => ?_)
  refine run_strs hs I1 fun us t' rv I2 => ?_
  refine ⟨I2.kIn, ?_⟩
  obtain ⟨mo, mr1⟩ := R.mem.extN eN T1
  have R1 := R.mono mo mr1
  have hlen2 : (ss.map V.str).length + 1 = ps.length := by
    have := hlen _ _ _ _ w
    simpa using this
  have hlu : (Value.ref fL :: us).length = ps.length := by
    have := rv.length
    simp only [List.length_cons]
    omega
  have bind := hb { s' with toks := t' } (.ref fL :: us) I2.kIn (by rw [List.append_nil]; exact hlu)
  rw [List.append_nil] at bind
  have rc : codeAny (model X.prog X.w) X.A (.call (.ref g) ⟨.ref fL :: us, []⟩) (CR C8.CX0 X.stack X.prog X.w H1 { s' with toks := t' } Q C8.E0) { s' with toks := t' } := by
    subst efd
    refine LamX.run_ofS (N := Ng) (ps := ps) (us := .ref fL :: us) (vs := .ref fL :: ss.map V.str) lk hcg Sg hr I2.env0 bind (.cons rfl rv) (by simpa using hlen2) fun hr' => ?_
    have ca : CloAt c.mg M H1 ⟨fL, c', lamQ X, l, ρ, σ, fun E => tl E σ⟩ := by
      refine ⟨?_, hco, R1.len, R1.env⟩
      cases e : M c' with
      | none => rfl
      | some o =>
        obtain ⟨u, q, ok⟩ := (mr1.std c' o e).at2
        rw [hco] at q
        cases q
        exact ok.elim
    have act := act_of (X := X) (Ng := Ng) (qg := qg) (sg := sg) (g := g) (cdg := cdv) (j := j) (l := l) (ρ := ρ) (tl := tl) I2 L hfl hfn hfr rfl hr' hbody
    exact give { s' with toks := t' } H1 ⟨fL, c', lamQ X, l, ρ, σ, fun E => tl E σ⟩ rfl rfl hr' act (ss.map D.str) M (ss.map V.str) Q' Q ⟨.ref fL, _, rfl, ⟨fL, rfl⟩, repL_strs ss⟩ ca mr1 w (g'.mono mo)
  refine wpAny_call (codeAny_mono rc fun r s2 hq => ?_)
  cases r with
  | error e => exact (show False from hq).elim
  | ok fl =>
    cases fl with
    | ret u => exact I2.after hq
    | next => exact False.elim hq
    | brk => exact False.elim hq
    | cont => exact False.elim hq
/-! ### isinstance with two types -/
theorem se_isi2 (O : Okc X k F c W) {a : Ex} {t1 t2 : Ty} {e : Expr} {kt : Nat} {p1 p2 p3 p4 pos : Pos} (hg : k.glo "isinstance" = true) (hy1 : k.glo (tyName t1) = true) (hy2 : k.glo (tyName t2) = true) (he : isStar e = false) (ha : PE X e (tE c W F a)) :
    PE X (.Call (.Name "isinstance" p1) [e, .Tuple [.Name (tyName t1) p2, .Name (tyName t2) p3] kt p4] [] pos) (tE c W F (.isi a [t1, t2])) := by
  obtain ⟨gl, hdb, hn⟩ := O.glo hg
  have tp : PE X (.Tuple [.Name (tyName t1) p2, .Name (tyName t2) p3] kt p4) _ := pe_tup (pa_cons (pe_tyName O hy1) (pa_cons (pe_tyName O hy2) pa_nil rfl) rfl)
  have as : PA X [e, .Tuple [.Name (tyName t1) p2, .Name (tyName t2) p3] kt p4] _ := pa_cons ha (pa_cons tp pa_nil rfl) (star_cons he)
  refine PE.imp (pe_callB call_isiT gl (O.blt _ (by decide)) boot_isi as hn hdb (star_cons he) rfl) fun σ H Q ⟨ρ, M, Q', E', R, w, g, tt⟩ => ?_
  refine tE_bind R w tt fun d M1 v H1 w1 m1 R1 r1 => ?_
  refine ⟨by simp [sizeLine_eq], fun p hp => ?_⟩
  have m2 : Mono M1 H1 M1 (upd H1 p (.tup [.ty (tyStr t1), .ty (tyStr t2)])) := Mono.new hp
  have mr2 := R1.mem.new (o := .tup [.ty (tyStr t1), .ty (tyStr t2)]) hp
  have r2 := r1.mono m2
  have pr : Paired ClsV [.ty (tyStr t1), .ty (tyStr t2)] [.type (tyStr t1), .type (tyStr t2)] := .cons (.ty _) (.cons (.ty _) .nil)
  by_cases z : d = .non
  · subst z
    cases (show v = V.non from r1)
    exact ⟨.non, p, _, .type "NoneType", _, false, rfl, upd_same, pr, .base .non, kitAny_cons (kit_ty (kit_non t1)) (fun _ => kitAny_cons (kit_ty (kit_non t2)) (fun _ => rfl) (fun z => nomatch z)) (fun z => nomatch z), ((g.mono m1).mono m2).now mr2 w1 rfl⟩
  · have w2 : ob (tyOf M1 d) fun t' => Q' (.bl ([t1, t2].any fun x => x == t' || (x == .int && t' == .bool))) M1 := by
      cases d <;> first | exact absurd rfl z | exact w1
    obtain ⟨t', e', q⟩ := ob_some w2
    refine ⟨v, p, _, .type (tyStr t'), _, _, rfl, upd_same, pr, tyX_of mr2 r2 e', ?_, ((g.mono m1).mono m2).now mr2 q rfl⟩
    refine kitAny_cons (kit_ty (kit_all t' t1)) (fun z1 => kitAny_cons (kit_ty (kit_all t' t2)) (fun z2 => ?_) fun z2 => ?_) fun z1 => ?_
    · show some false = _
      simp only [List.any_cons, List.any_nil, z1, z2, Bool.or_false]
    · simp only [List.any_cons, List.any_nil, z1, z2, Bool.or_false, Bool.or_true]
    · simp only [List.any_cons, List.any_nil, z1, Bool.true_or]
/-! ### len(set(xs)) -/
theorem metK_list (ts : List Str) : DeeSet.metK (fun i => ts.getD i Str.empty) ts.length = ts.foldl (fun acc t => if acc.any (· == t) then acc else acc ++ [t]) [] := by
  have e : (List.range ts.length).map (fun i => ts.getD i Str.empty) = ts := by
    apply List.ext_getElem
    · simp
    · intro i h1 h2
      simp [List.getElem_map, List.getElem_range, List.getD_eq_getElem?_getD, List.getElem?_eq_getElem h2]
  unfold DeeSet.metK
  rw [e]
  rfl
theorem repL_texts {mg : Gm} {M : Mem} {H : Hp} : ∀ {xs : List D} {vs : List V} {ts : List Str}, RepL mg M H xs vs → dTexts xs = some ts → vs = ts.map V.str
  | [], _, _, r, e => by cases r; cases e; rfl
  | x :: xs, _, ts, ⟨v, r, e1, h, hr⟩, e => by
    subst e1
    cases x with
    | str s =>
      unfold dTexts at e
      cases q : dTexts xs with
      | none => rw [q] at e; cases e
      | some us =>
        rw [q] at e
        cases e
        cases (show v = V.str s from h)
        rw [repL_texts hr q]
        rfl
    | _ => cases e
theorem se_lens (O : Okc X k F c W) {a : Expr} {x : Ex} {p p2 q pos : Pos} (hh : k.hot = false) (h1 : k.glo "len" = true) (h2 : k.glo "set" = true) (ha : PE X a (tE c W F x)) (hs : isStar a = false) :
    PE X (.Call (.Name "len" p) [.Call (.Name "set" p2) [a] [] q] [] pos) (tE c W F (.lens x)) := by
  obtain ⟨g1, d1, n1⟩ := O.glo h1
  obtain ⟨g2, d2, n2⟩ := O.glo h2
  have hc := O.calm hh
  refine ⟨fun pins s σ H Q I ⟨ρ, M, Q', E', R, w, g, t⟩ => ?_⟩
  refine Call_ (ld_blt I g1 (O.blt _ (by decide)) (show bootBuiltins "len" = some (.builtin "len") by decide +kernel) ?_ n1 d1)
  refine PyProof.Rows.callWith_builtin1 (PyProof.Rows.args_cons ?_ rfl) rfl rfl
  refine Call_ (ld_blt I g2 (O.blt _ (by decide)) (show bootBuiltins "set" = some (.type "set") by decide +kernel) ?_ n2 d2)
  have rd : tE c W F x σ H fun v H1 => ∃ (l : Addr) (ts : List Str), v = .ref l ∧ Rd H1 l (.lst (ts.map V.str)) ∧ ts.length ≤ 4000 ∧ Q (.int (distS ts)) H1 := by
    refine tE_bind R w t fun d M1 v H1 w1 m1 R1 r1 => ?_
    obtain ⟨nt, w1⟩ := w1
    obtain ⟨xs, e1, w1⟩ := ob_some w1
    obtain ⟨ts, e2, w1⟩ := ob_some w1
    obtain ⟨al, vs, ev, rs, hat⟩ := seq_of R1.mem r1 e1
    rcases hat with ⟨z, _⟩ | ⟨_, hr⟩
    · rw [nt] at z; cases z
    · rw [repL_texts rs e2] at hr
      exact ⟨al, ts, ev, hr, w1.1, (g.mono m1).now R1.mem w1.2 rfl⟩
  refine PyProof.Rows.callWith_type1 (PyProof.Rows.args_cons (thn (ha.run pins s σ H _ I rd) fun v s1 ⟨y, H1, I1, r1, q1⟩ => PyProof.Rows.args_nil ?_) (star_cons hs)) (star_cons hs) rfl
  obtain ⟨l, ts, rfl, hq, hl, q1⟩ := q1
  cases r1
  obtain ⟨its, rv, pl, hz⟩ := I1.list (.inl hq)
  have hlen : its.toArray.size = ts.length := by rw [List.size_toArray, ← rv.length, List.length_map]
  have hval : ∀ (i : Nat) (v : Value), its.toArray[i]? = some v → (PySem.strKind X.prog X.w).is (ts.getD i Str.empty) v = true ∧ v.scannable = true := fun i v hv => by
    obtain ⟨t, rfl⟩ := SS.strs_at (by simpa using strsAre_of rv) i v (by rw [Array.getElem?_toList]; exact hv)
    exact ⟨strKind_is _ _ _ _, rfl⟩
  refine DeeSet.call_set_listK (knd := PySem.strKind X.prog X.w) (fun i => ts.getD i Str.empty) (I1.ok.hd hc) pl.isList hval (by rw [hlen]; unfold scanBound; omega) fun h' tk hS hk => ?_
  refine PyProof.Rows.args_nil ?_
  rw [hlen] at hS
  obtain ⟨o, es, ep, tb, ho, hex, hd, _, _, _, hf, hn⟩ := hS
  have I2 : Inv X pins σ H1 { s1 with heap := h', toks := tk } := I1.kept fun b o e => hk b o (Heap.lt_size e) e
  have hle := DeeSet.metK_length_le (fun i => ts.getD i Str.empty) ts.length
  rw [metK_list] at hn hle
  exact call_len_set ho hex hd hf (by rw [hn] <;> omega) ⟨.int (distS ts), H1, I2.tok _, ⟨_, by rw [hn] <;> rfl⟩, q1⟩
/-! ### [x] * n -/
theorem se_rep (O : Okc X k F c W) {m : Bool} {a b : Expr} {x y : Ex} {pos : Pos} (ha : PE X a (tE c W F x)) (hb : PE X b (tE c W F y)) : PE X (.BinOp a .Mult b pos) (tE c W F (.rep m x y)) := by
  refine PE.imp (pe_op op_repL ha hb) fun σ H Q ⟨ρ, M, Q', E', R, w, g, t⟩ => ?_
  refine tE_bind R w t fun d1 M1 v1 H1 w1 m1 R1 r1 => tE_bind R1 w1 (t.mono m1) fun d2 M2 v2 H2 w2 m2 R2 r2 => ?_
  obtain ⟨j, rfl, w2⟩ := onI_int w2
  obtain ⟨xs, e1, ⟨nt, h0, h1, h2⟩, q⟩ := ob_some w2
  cases (show v2 = V.int j from r2)
  obtain ⟨al, vs, rfl, rs, hat⟩ := seq_of R2.mem (r1.mono m2) e1
  rcases hat with ⟨z, _⟩ | ⟨_, hr⟩
  · rw [nt] at z; cases z
  · have hl : vs.length = xs.length := rs.length.symm
    have hj : j ≤ 16777216 := h1
    refine ⟨al, j, vs, rfl, rfl, hr, by omega, by omega, by rw [hl, ← line_eq]; exact h2, fun p hp => ?_⟩
    exact (g.mono (m1.trans m2)).newL R2.mem q (rs.flat j.toNat) hp
end
end Dee

set_option Elab.async false
set_option linter.all false
set_option autoImplicit false
set_option maxRecDepth 100000
set_option maxHeartbeats 1000000
/-! Dee: targets, walks, comprehensions. -/
namespace Dee
open PySem PySem.Spec PyProof.Rows L2
section
variable {X : Cx} {k : Ck} {F : Sem} {c : LC} {W : WX}
/-! ### targets -/
/-- only the names at l have changed -/
def Off (l : List Nat) (σ σ' : L2.St) : Prop := σ'.length = σ.length ∧ ∀ i, i ∉ l → σ'[i]? = σ[i]?
def tG (c : LC) (t : Tg) : TG := fun v σ H Q => ∃ ρ M d Q', Rp c ρ M σ H ∧ Rep c.mg M H d v ∧ wTg t d ρ Q' ∧ (∀ ρ' σ', Q' ρ' → Rp c ρ' M σ' H → Off (tgSlots t) σ σ' → Q σ' H)
def tGs (c : LC) (ts : List Tg) : TGs := fun vs σ H Q => ∃ ρ M ds Q', Rp c ρ M σ H ∧ RepL c.mg M H ds vs ∧ wTgs ts ds ρ Q' ∧ (∀ ρ' σ', Q' ρ' → Rp c ρ' M σ' H → Off (tgsSlots ts) σ σ' → Q σ' H)
theorem PG.imp {X : Cx} {e : Expr} {t t' : TG} (h : PG X e t) (i : ∀ v σ H Q, t' v σ H Q → t v σ H Q) : PG X e t' := ⟨fun pins s σ H v u Q I r q => h.run pins s σ H v u Q I r (i _ _ _ _ q)⟩
theorem PGs.imp {X : Cx} {e : List Expr} {t t' : TGs} (h : PGs X e t) (i : ∀ v σ H Q, t' v σ H Q → t v σ H Q) : PGs X e t' := ⟨fun pins s σ H v u Q I r q => h.run pins s σ H v u Q I r (i _ _ _ _ q)⟩
mutual
theorem wTg_out : ∀ {t : Tg} {d : D} {ρ : Env} {Q : Env → Prop}, wTg t d ρ Q → ∃ ρ', Q ρ'
  | .nm _, _, _, _, h => ⟨_, h⟩
  | .tu _, d, _, _, h => by
    cases d <;> first | exact wTgs_out h | exact h.elim
theorem wTgs_out : ∀ {ts : List Tg} {ds : List D} {ρ : Env} {Q : Env → Prop}, wTgs ts ds ρ Q → ∃ ρ', Q ρ'
  | [], [], _, _, h => ⟨_, h⟩
  | [], _ :: _, _, _, h => h.elim
  | _ :: _, [], _, _, h => h.elim
  | t :: ts, d :: ds, _, _, h => by
    obtain ⟨_, h⟩ := wTg_out (t := t) h
    exact wTgs_out h
end
theorem wTgs_len : ∀ {ts : List Tg} {ds : List D} {ρ : Env} {Q : Env → Prop}, wTgs ts ds ρ Q → ds.length = ts.length
  | [], [], _, _, h => rfl
  | [], _ :: _, _, _, h => h.elim
  | _ :: _, [], _, _, h => h.elim
  | t :: ts, d :: ds, _, _, h => by
    obtain ⟨_, h⟩ := wTg_out (t := t) h
    simp [wTgs_len h]
theorem onT_tup {d : D} {f : List D → Prop} (h : onT d f) : ∃ xs, d = .tup xs ∧ f xs := by cases d <;> first | exact ⟨_, rfl, h⟩ | exact h.elim
theorem chkTg_cons {k : Ck} {t : Tg} {e : Expr} {es : List Expr} {env : PySem.Env} (h : chkTg k t e = true) : assignEach (e :: es) env = (false, assign e env) :: assignEach es env := by
  cases t with
  | nm i => cases e <;> first | rfl | cases h
  | tu ts => cases e <;> first | rfl | cases h
theorem chkTgs_plain {k : Ck} {env : PySem.Env} : ∀ {ts : List Tg} {es : List Expr}, chkTgs k ts es = true → (assignEach es env).length = ts.length ∧ (assignEach es env).findIdx? (·.1) = none
  | [], [], _ => ⟨rfl, rfl⟩
  | [], _ :: _, h => by cases h
  | _ :: _, [], h => by cases h
  | t :: ts, e :: es, h => by
    unfold chkTgs at h
    simp only [Bool.and_eq_true] at h
    obtain ⟨h1, h2⟩ := chkTgs_plain (env := env) h.2
    rw [chkTg_cons h.1]
    refine ⟨by simp [h1], ?_⟩
    simp [List.findIdx?_cons, h2]
mutual
theorem sg (O : Okc X k F c W) : ∀ {t : Tg} {e : Expr}, chkTg k t e = true → PG X e (tG c t)
  | .nm i, e, h => by
    cases e <;> first | cases h | skip
    rename_i x pos
    obtain ⟨h1, h2, h3, h4⟩ := O.sto (show k.sto i x = true from h)
    exact PG.imp (pg_name O.nd h1 h2 h3) fun v σ H Q ⟨ρ, M, d, Q', R, r, w, g⟩ => g _ _ w (R.set r h4) ⟨by simp, fun j hj => by
      rw [List.getElem?_set_ne]
      rintro rfl
      exact hj (by simp [tgSlots])⟩
  | .tu ts, e, h => by
    cases e <;> first | cases h | skip
    rename_i es kk pos
    have h : (!k.hot && chkTgs k ts es) = true := h
    simp only [Bool.and_eq_true, Bool.not_eq_true'] at h
    obtain ⟨p1, p2⟩ := chkTgs_plain (env := X.env) h.2
    refine PG.imp (pg_tup (O.calm h.1) (sgs O h.2) p1 p2) fun v σ H Q ⟨ρ, M, d, Q', R, r, w, g⟩ => ?_
    obtain ⟨xs, e, w⟩ := onT_tup w
    subst e
    obtain ⟨a, vs, ea, _, hq, rs⟩ := r
    exact ⟨a, vs, ea, (.inl hq.rd), by rw [← rs.length]; exact wTgs_len w, ρ, M, xs, Q', R, rs, w, g⟩
theorem sgs (O : Okc X k F c W) : ∀ {ts : List Tg} {es : List Expr}, chkTgs k ts es = true → PGs X es (tGs c ts)
  | [], [], _ => PGs.imp pgs_nil fun v σ H Q ⟨ρ, M, ds, Q', R, r, w, g⟩ => by
    cases ds with
    | nil => exact ⟨r, g _ _ w R ⟨rfl, fun _ _ => rfl⟩⟩
    | cons _ _ => exact w.elim
  | [], _ :: _, h => by cases h
  | _ :: _, [], h => by cases h
  | t :: ts, e :: es, h => by
    unfold chkTgs at h
    simp only [Bool.and_eq_true] at h
    refine PGs.imp (pgs_cons (sg O h.1) (sgs O h.2) (by rw [chkTg_cons h.1] <;> rfl)) fun v σ H Q ⟨ρ, M, ds, Q', R, r, w, g⟩ => ?_
    cases ds with
    | nil => exact w.elim
    | cons d ds =>
      obtain ⟨u, us, e, r1, rs⟩ := r
      exact ⟨u, us, e, ρ, M, d, _, R, r1, w, fun ρ' σ' w' R' o1 => ⟨ρ', M, ds, Q', R', rs, w', fun ρ2 σ2 w2 R2 o2 => g ρ2 σ2 w2 R2 ⟨o2.1.trans o1.1, fun i hi => by
        have hi : i ∉ tgSlots t ++ tgsSlots ts := hi
        rw [List.mem_append, not_or] at hi
        exact (o2.2 i hi.2).trans (o1.2 i hi.1)⟩⟩⟩
end
/-! ### walks -/
/-- an iterator over the data xs -/
structure Walks (g0 : Gm) (J : It) (xs : List D) (M0 : Mem) (H0 : Hp) : Prop where
  len : xs.length ≤ sizeLine
  go : ∀ g i M H, Keeps g0 g M0 H0 M H → i < xs.length → J.go i H
  stop : ∀ g i M H, Keeps g0 g M0 H0 M H → xs.length ≤ i → J.stop i H
  yld : ∀ g i M H v H', Keeps g0 g M0 H0 M H → MRep g M H → J.yld i H v H' → ∀ d, xs[i]? = some d → (H' = H ∨ ∃ p vs, H p = none ∧ H' = upd H p (.tup vs)) ∧ Rep g M H' d v
theorem walks_list {g0 : Gm} {K : PySem.W.Frag} {a : Addr} {xs : List D} {vs : List V} {M : Mem} {H : Hp} (hn : Un g0 M a) (hr : Rd H a (.lst vs)) (rs : RepL g0 M H xs vs) (hl : vs.length ≤ sizeLine) : Walks g0 (Itl K a) xs M H := by
  have len := rs.length
  refine ⟨by omega, fun g i M1 H1 m h => ?_, fun g i M1 H1 m h => ?_, fun g i M1 H1 v H' m mr y d e => ?_⟩
  · obtain ⟨_, r⟩ := m.keep a (.lst vs) True.intro hn hr
    exact ⟨vs, vs[i]'(by omega), .inl r, List.getElem?_eq_getElem _⟩
  · obtain ⟨_, r⟩ := m.keep a (.lst vs) True.intro hn hr
    exact ⟨vs, .inl r, by omega⟩
  · obtain ⟨rfl, y⟩ := y
    obtain ⟨_, r⟩ := m.keep a (.lst vs) True.intro hn hr
    have e2 := y vs (.inl r)
    refine ⟨.inl rfl, ?_⟩
    obtain ⟨d', e3, r3⟩ := rs.get' e2
    rw [e] at e3
    cases e3
    exact r3.keeps m
theorem walks_tup {g0 : Gm} {K : PySem.W.Frag} {a : Addr} {xs : List D} {vs : List V} {M : Mem} {H : Hp} (hn : Un g0 M a) (hr : Rd H a (.tup vs)) (rs : RepL g0 M H xs vs) (hl : vs.length ≤ sizeLine) : Walks g0 (Itt K a) xs M H := by
  have len := rs.length
  refine ⟨by omega, fun g i M1 H1 m h => ?_, fun g i M1 H1 m h => ?_, fun g i M1 H1 v H' m mr y d e => ?_⟩
  · exact ⟨vs, vs[i]'(by omega), (.inl (m.keep a (.tup vs) True.intro hn hr).2), List.getElem?_eq_getElem _⟩
  · exact ⟨vs, (.inl (m.keep a (.tup vs) True.intro hn hr).2), by omega⟩
  · obtain ⟨rfl, y⟩ := y
    have e2 := y vs ((.inl (m.keep a (.tup vs) True.intro hn hr).2))
    refine ⟨.inl rfl, ?_⟩
    obtain ⟨d', e3, r3⟩ := rs.get' e2
    rw [e] at e3
    cases e3
    exact r3.keeps m
theorem repK_keysD {g0 : Gm} {M : Mem} {H : Hp} : ∀ {kvs : List (D × D)} {ws : List (Key × V)} {i : Nat} {k : Key} {v : V}, RepK g0 M H kvs ws → ws[i]? = some (k, v) → (kvs.map (·.1))[i]? = some (keyD k)
  | [], _, i, k, v, h, e => by cases (show _ = [] from h); simp at e
  | (k0, d) :: kvs, _, i, k, v, ⟨j, u, r, e1, hk, hd, hr⟩, e => by
    subst e1 hk
    cases i with
    | zero => simp at e; simp [e.1]
    | succ i => simpa using repK_keysD hr (by simpa using e)
theorem keyD_rep {g0 : Gm} {M : Mem} {H : Hp} (k : Key) : Rep g0 M H (keyD k) (kV k) := by cases k <;> rfl
theorem walks_keys {g0 : Gm} {a : Addr} {ob : Obj} {kvs : List (D × D)} {ws : List (Key × V)} {M : Mem} {H : Hp} (hn : Un g0 M a) (hr : H a = some (.frz ob (.dK ws))) (rk : RepK g0 M H kvs ws) (hl : ws.length ≤ sizeLine) : Walks g0 (Itk a ob ws) (kvs.map (·.1)) M H := by
  have len := rk.length
  have hz : (kvs.map (·.1)).length = ws.length := by rw [List.length_map]; exact len
  refine ⟨by omega, fun g i M1 H1 m h => ⟨m.frz a ob _ True.intro hn hr, by omega⟩, fun g i M1 H1 m h => ⟨m.frz a ob _ True.intro hn hr, by omega⟩, fun g i M1 H1 v H' m mr y d e => ?_⟩
  obtain ⟨rfl, k, u, e2, rfl⟩ := y
  have e3 := repK_keysD rk e2
  rw [e] at e3
  cases e3
  exact ⟨.inl rfl, keyD_rep k⟩
theorem walks_str {g0 : Gm} {s : Str} {M : Mem} {H : Hp} (hl : s.length ≤ line) : Walks g0 (Its s) (s.cps.toList.map strOf) M H := by
  have hz : s.cps.size = s.length := rfl
  refine ⟨by rw [← line_eq, List.length_map, Array.length_toList]; exact hl, fun g i M1 H1 m h => ?_, fun g i M1 H1 m h => ?_, fun g i M1 H1 v H' m mr y d e => ?_⟩
  · show i < s.cps.size
    simpa using h
  · show s.cps.size ≤ i
    simpa using h
  · obtain ⟨rfl, ch, e2, e3⟩ := y
    refine ⟨.inl rfl, ?_⟩
    rw [List.getElem?_map, Array.getElem?_toList, e2] at e
    cases e
    exact e3
theorem walks_rng {g0 : Gm} {lo : Int} {n : Nat} {M : Mem} {H : Hp} (hl : n ≤ line) : Walks g0 (Itr lo n) ((List.range n).map fun (m : Nat) => D.int (lo + (m : Nat))) M H := by
  refine ⟨by rw [← line_eq]; simpa using hl, fun g i M1 H1 m h => (show i < n by simpa using h), fun g i M1 H1 m h => (show n ≤ i by simpa using h), fun g i M1 H1 v H' m mr y d e => ?_⟩
  obtain ⟨rfl, e3⟩ := y
  refine ⟨.inl rfl, ?_⟩
  rw [List.getElem?_map] at e
  have hi : i < n := by
    by_cases z : i < n
    · exact z
    · rw [List.getElem?_eq_none (by simpa using z)] at e
      cases e
  rw [List.getElem?_range hi] at e
  cases e
  exact e3
theorem walks_rngC {g0 : Gm} {lo : Int} {n : Nat} {M : Mem} {H : Hp} (hl : n ≤ line) : Walks g0 (Itc lo (-1) n) ((List.range n).map fun (m : Nat) => D.int (lo - (m : Nat))) M H := by
  refine ⟨by rw [← line_eq]; simpa using hl, fun g i M1 H1 m h => (show i < n by simpa using h), fun g i M1 H1 m h => (show n ≤ i by simpa using h), fun g i M1 H1 v H' m mr y d e => ?_⟩
  obtain ⟨rfl, e3⟩ := y
  refine ⟨.inl rfl, ?_⟩
  rw [List.getElem?_map] at e
  have hi : i < n := by
    by_cases z : i < n
    · exact z
    · rw [List.getElem?_eq_none (by simpa using z)] at e
      cases e
  rw [List.getElem?_range hi] at e
  cases e
  show v = _
  rw [e3]
  congr 1
  omega
/-- what is walked -/
def tI (c : LC) (W : WX) (F : Sem) (ik : Ik) (es : List Ex) : TI := fun σ H R => ∃ (ρ : Env) (M : Mem) (Q' : List D → Mem → Prop) (E' : KX), Rp c ρ M σ H ∧ wEs F es ρ M (fun ds M1 => itop ik ds fun xs => Q' xs M1) E' ∧
  (∀ xs M1 H1 J, Q' xs M1 → Mono M H M1 H1 → MRep c.mg M1 H1 → Walks c.mg J xs M1 H1 → R J H1) ∧ Throws c (fun cls d H' => W cls d σ H') M H E'
theorem PI.imp {X : Cx} {tg e : Expr} {t t' : TI} (h : PI X tg e t) (i : ∀ σ H Q, t' σ H Q → t σ H Q) : PI X tg e t' := ⟨fun pins s σ H Q I q => h.run pins s σ H Q I (i _ _ _ q)⟩
/-- over a list, a tuple, a text -/
theorem si_seq {tg e : Expr} {x : Ex} (he : PE X e (tE c W F x)) : PI X tg e (tI c W F .seq [x]) := by
  refine ⟨fun pins s σ H R I ⟨ρ, M, Q', E', R0, w, g, t⟩ => ?_⟩
  have w : wE F x ρ M (fun d M1 => ob (still d) fun xs => Q' xs M1) E' := w
  refine thn (he.run pins s σ H _ I (tE_bind R0 w t (R := fun v H1 => ∃ d M1, (ob (still d) fun xs => Q' xs M1) ∧ Mono M H M1 H1 ∧ Rp c ρ M1 σ H1 ∧ Rep c.mg M1 H1 d v) fun d M1 v H1 w1 m1 R1 r1 => ⟨d, M1, w1, m1, R1, r1⟩)) fun v s1 ⟨y, H1, I1, r1, d, M1, w1, m1, R1, rr⟩ => ?_
  obtain ⟨xs, ex, q⟩ := ob_some w1
  cases d with
  | tup ds =>
    cases ex
    obtain ⟨a, vs, ea, hn, hq, rs⟩ := rr
    subst ea
    cases r1
    obtain ⟨its, rv, p, hz⟩ := I1.tuple ((.inl hq.rd))
    refine wpAny_pyIter_tuple (show s1.heap.IsTuple a its.toArray from p) ?_
    refine ⟨s1.heap.objs.size, [s1.heap.objs.size], _, _, H1, rfl, I1.kept (t' := s1.toks) fun b o e => Heap.get?_push_of_some _ e, turn_tuple a _, ⟨_, Heap.get?_push_size _ rfl, rfl, rfl⟩, fun b hb => ?_, g _ _ _ _ q m1 R1.mem (walks_tup hn hq.rd rs hz)⟩
    have e : b = s1.heap.objs.size := by simpa using hb
    subst e
    exact I1.fpOk (Nat.le_refl _) (I1.hok.fresh (Nat.le_refl _))
  | lst ds =>
    cases ex
    obtain ⟨a, vs, ea, hn, hq, rs⟩ := rr
    subst ea
    cases r1
    obtain ⟨its, rv, p, hz⟩ := I1.list (.inl hq)
    refine wpAny_pyIter_list p.isList ?_
    refine ⟨s1.heap.objs.size, [s1.heap.objs.size], _, _, H1, rfl, I1.kept (t' := s1.toks) fun b o e => Heap.get?_push_of_some _ e, turn_list a _, ⟨_, Heap.get?_push_size _ rfl, rfl, rfl⟩, fun b hb => ?_, g _ _ _ _ q m1 R1.mem (walks_list hn hq rs hz)⟩
    have e : b = s1.heap.objs.size := by simpa using hb
    subst e
    exact I1.fpOk (Nat.le_refl _) (I1.hok.fresh (Nat.le_refl _))
  | str z =>
    have ex : (if z.length ≤ line then some (z.cps.toList.map strOf) else none) = some xs := ex
    by_cases hl : z.length ≤ line
    · rw [if_pos hl] at ex
      cases ex
      cases (show y = V.str z from rr)
      obtain ⟨t, rfl⟩ := r1
      have fin := g _ _ _ _ q m1 R1.mem (walks_str (M := M1) (H := H1) (g0 := c.mg) hl)
      cases ha : z.cps.all (· < 128)
      · exact wpAny_pyIter_wide ha (pi_one (tk := s1.toks) I1 _ (turn_str _ z t "str_iterator" (.inr rfl)) ⟨_, Heap.get?_push_size _ rfl, rfl, rfl⟩ fin)
      · exact wpAny_pyIter_ascii ha (pi_one (tk := s1.toks) I1 _ (turn_str _ z t "str_ascii_iterator" (.inl rfl)) ⟨_, Heap.get?_push_size _ rfl, rfl, rfl⟩ fin)
    · rw [if_neg hl] at ex
      cases ex
  | dct t kvs =>
    cases t with
    | true => cases ex
    | false =>
      cases ex
      obtain ⟨a, ea, hn, ws, hq, rk⟩ := rr
      subst ea
      cases r1
      have locked : ∀ {ob : Obj} {H2 : Hp}, Inv X pins σ H2 s1 → H2 a = some (.frz ob (.dK ws)) → MRep c.mg M1 H2 → Mono M H M1 H2 → RepK c.mg M1 H2 kvs ws → wpAny (model X.prog X.w) X.A (pyIter (.ref a)) (PIE X pins σ tg R) X.xe s1 := fun {ob H2} I2 h2 mr2 mo2 rk2 => by
        obtain ⟨hs, hgd, hx, es, ep, vs, hdt, hsz, kv, hm⟩ := I2.frzK h2
        refine iter_keys hs hgd hx hdt (pi_one (tk := s1.toks) I2 _ (turn_keys _ hdt) ⟨_, Heap.get?_push_size _ rfl, rfl, ?_⟩ (g _ _ _ _ q mo2 mr2 (walks_keys hn h2 rk2 (by
          obtain ⟨_, z, _⟩ := (show ObjOk X.prog X.w H2 s1.heap a (.frz ob (.dK ws)) from I2.hok a _ h2)
          exact z))))
        rw [hsz] <;> rfl
      rcases hq with hq | ⟨ob, hq⟩
      · obtain ⟨od, I2⟩ := I1.lock hq True.intro
        have mo := Mono.lock (M := M1) (ob := od) hq
        exact locked I2 upd_same (R1.mem.lock hn hq) (m1.trans mo) (rk.mono mo)
      · exact locked I1 hq R1.mem m1 rk
  | _ => cases ex
theorem onI2 {d e : D} {f : Int → Int → Prop} (h : onI d fun i => onI e fun j => f i j) : ∃ i j, d = .int i ∧ e = .int j ∧ f i j := by
  obtain ⟨i, e1, h⟩ := onI_int h
  obtain ⟨j, e2, h⟩ := onI_int h
  exact ⟨i, j, e1, e2, h⟩
theorem si_rng (O : Okc X k F c W) {tg : Expr} {xs : List Ex} {es : List Expr} {p pos} (hg : k.glo "range" = true) (ha : PA X es (tA c W F xs)) (h2 : noStars es = true) (h3 : 1 ≤ es.length) (h4 : es.length ≤ 3) (h5 : xs.length = es.length) :
    PI X tg (.Call (.Name "range" p) es [] pos) (tI c W F .rng xs) := by
  obtain ⟨gl, hdb, hn⟩ := O.glo hg
  have hm := O.blt "range" (by decide)
  have l24 : line = 2 ^ 24 := rfl
  match es, h3, h4, ha, h2, h5 with
  | [a], _, _, ha, h2, h5 =>
    simp only [noStars, List.all_cons, Bool.and_eq_true, Bool.not_eq_true', List.all_nil, and_true] at h2
    refine PI.imp (pi_range1 gl hm ha (star_cons h2)) fun σ H R ⟨ρ, M, Q', E', R0, w, g, t⟩ => ?_
    refine tA_bind R0 w t fun ds M1 vs H1 hz w1 m1 R1 rs => ?_
    rw [h5] at hz
    match ds, hz with
    | [d], _ =>
      obtain ⟨j, ej, ⟨b1, b2⟩, q⟩ := onI_int w1
      subst ej
      obtain ⟨v, ev, rv⟩ := repL1 rs
      subst ev
      cases (show v = V.int j from rv)
      refine ⟨j, rfl, by omega, by omega, g _ _ _ _ q m1 R1.mem ?_⟩
      have z := walks_rng (M := M1) (H := H1) (g0 := c.mg) (lo := 0) (n := j.toNat) (by omega)
      unfold rngF
      simpa using z
  | [a, b], _, _, ha, h2, h5 =>
    simp only [noStars, List.all_cons, Bool.and_eq_true, Bool.not_eq_true', List.all_nil, and_true] at h2
    refine PI.imp (pi_range2 gl hm ha (by rw [star_cons h2.1, star_cons h2.2]; rfl) (star_cons h2.2)) fun σ H R ⟨ρ, M, Q', E', R0, w, g, t⟩ => ?_
    refine tA_bind R0 w t fun ds M1 vs H1 hz w1 m1 R1 rs => ?_
    rw [h5] at hz
    match ds, hz with
    | [d, e], _ =>
      obtain ⟨i, j, ei, ej, ⟨b1, b2, b3, b4, b5⟩, q⟩ := onI2 w1
      subst ei ej
      obtain ⟨v, u, ev, rv, ru⟩ := repL2 rs
      subst ev
      cases (show v = V.int i from rv)
      cases (show u = V.int j from ru)
      exact ⟨i, j, rfl, ⟨by omega, by omega, by omega, by omega⟩, g _ _ _ _ q m1 R1.mem (walks_rng (M := M1) (H := H1) (g0 := c.mg) (lo := i) (n := (j - i).toNat) (by omega))⟩
  | [a, b, e], _, _, ha, h2, h5 =>
    simp only [noStars, List.all_cons, Bool.and_eq_true, Bool.not_eq_true', List.all_nil, and_true] at h2
    refine PI.imp (pi_range3 gl hm ha (star_cons h2.1) (star_back (by simp [noStars, h2.2]))) fun σ H R ⟨ρ, M, Q', E', R0, w, g, t⟩ => ?_
    refine tA_bind R0 w t fun ds M1 vs H1 hz w1 m1 R1 rs => ?_
    rw [h5] at hz
    match ds, hz with
    | [d, e, f], _ =>
      obtain ⟨i, ei, w1⟩ := onI_int w1
      obtain ⟨j, l, ej, el, ⟨b0, b1, b2, b3, b4, b5⟩, q⟩ := onI2 w1
      subst ei ej el
      obtain ⟨v, r, ev, rv, u, r2, eu, ru, u3, r3, e3, ru3, er⟩ := rs
      cases (show r3 = [] from er)
      subst ev eu e3
      cases (show v = V.int i from rv)
      cases (show u = V.int j from ru)
      cases (show u3 = V.int l from ru3)
      subst b0
      exact ⟨i, j, -1, (i - j).toNat, rfl, RgC.neg (by omega) (by omega) (by omega) (by omega), g _ _ _ _ q m1 R1.mem (walks_rngC (M := M1) (H := H1) (g0 := c.mg) (lo := i) (n := (i - j).toNat) (by omega))⟩
/-! ### comprehensions -/
theorem wipe_get (σ : L2.St) : ∀ (l : List Nat) (i : Nat), (wipe σ l)[i]? = if i ∈ l ∧ i < σ.length then some none else σ[i]?
  | [], i => by simp [wipe]
  | v :: vs, i => by
    show ((wipe σ vs).set v none)[i]? = _
    rw [List.getElem?_set, wipe_get σ vs i]
    have hl := wipe_length σ vs
    by_cases e : v = i
    · subst e
      rw [if_pos rfl, hl]
      by_cases h : v < σ.length
      · simp [h]
      · rw [if_neg h]
        simp [h]
    · rw [if_neg e]
      have e2 : ¬ i = v := fun z => e z.symm
      simp [e2]
theorem Off.wipe {l : List Nat} {σ σ' : L2.St} (h : Off l σ σ') : wipe σ' l = L2.wipe σ l := by
  apply List.ext_getElem?
  intro i
  rw [wipe_get, wipe_get, h.1]
  by_cases e : i ∈ l
  · by_cases z : i < σ.length
    · simp [e, z]
    · rw [if_neg (by simp [z]), if_neg (by simp [z]), List.getElem?_eq_none (by rw [h.1]; omega), List.getElem?_eq_none (by omega)]
  · rw [if_neg (by simp [e]), if_neg (by simp [e]), h.2 i e]
theorem wipe_wipe (σ : L2.St) (l : List Nat) : Off l σ (wipe σ l) := ⟨wipe_length σ l, fun i hi => by rw [wipe_get, if_neg (by simp [hi])]⟩
theorem Rp.wipe {c : LC} {ρ : Env} {M : Mem} {σ : L2.St} {H : Hp} (R : Rp c ρ M σ H) (hx : c.xi = none) (hl : c.lam = none) : ∀ l : List Nat, Rp c (wipeD ρ l) M (wipe σ l) H
  | [] => R
  | v :: vs => (Rp.wipe R hx hl vs).wipe1 ⟨fun j a cls d ε e => (by rw [hx] at e; cases e), fun e => (by rw [hl] at e; cases e)⟩
mutual
theorem tgOwn_slots : ∀ {t : Tg} {e : Expr} {own : List (Str × Nat)}, tgOwn t e = some own → own.map (·.2) = tgSlots t
  | .nm i, e, own, h => by
    cases e <;> first | (cases h; done) | skip
    have h : some [(_, i)] = some own := h
    cases h
    rfl
  | .tu ts, e, own, h => by
    cases e <;> first | cases h | skip
    exact tgsOwn_slots h
theorem tgsOwn_slots : ∀ {ts : List Tg} {es : List Expr} {own : List (Str × Nat)}, tgsOwn ts es = some own → own.map (·.2) = tgsSlots ts
  | [], [], own, h => by cases h; rfl
  | [], _ :: _, _, h => by cases h
  | _ :: _, [], _, h => by cases h
  | t :: ts, e :: es, own, h => by
    unfold tgsOwn at h
    dsimp only at h
    split at h
    · rename_i a b h1 h2
      cases h
      rw [List.map_append, tgOwn_slots h1, tgsOwn_slots h2]
      rfl
    · cases h
end
theorem lookup_relS {sc : Scope} {x : Str} {kd : NameKind} (hk : kd ≠ .free) : ∀ {names : List (Str × NameKind)}, names.lookup x = some kd →
    (names.map fun (n, k) => if (k == NameKind.free && sc.kind == .function && sc.names.lookup n == some .cell) then (n, NameKind.cell) else (n, k)).lookup x = some kd
  | [], h => by simp at h
  | (n, k) :: r, h => by
    have ih := @lookup_relS sc x kd hk r
    show List.lookup x ((if (k == NameKind.free && sc.kind == .function && sc.names.lookup n == some .cell) = true then (n, NameKind.cell) else (n, k)) :: _) = _
    cases hx : x == n with
    | true =>
      simp only [List.lookup_cons, hx] at h
      cases h
      have e : (kd == NameKind.free) = false := by cases kd <;> first | rfl | exact absurd rfl hk
      rw [e]
      simp [List.lookup_cons, hx]
    | false =>
      simp only [List.lookup_cons, hx] at h
      by_cases hc : (k == NameKind.free && sc.kind == .function && sc.names.lookup n == some .cell) = true
      · rw [if_pos hc]; simp only [List.lookup_cons, hx]; exact ih h
      · rw [if_neg hc]; simp only [List.lookup_cons, hx]; exact ih h
/-- nothing is raised -/
def W0 : WX := fun _ _ _ _ => False
theorem Okc.blk (O : Okc X k F c W) (hh : k.hot = false) {c' : LC} (hm : c'.mg.mg = c.mg.mg ∧ c'.mg.T = c.mg.T) (hx : c'.xi = none) (hl : c'.lam = none) (s : Shared) (H : Hp) (scope : Scope) (C : Addr) (cl : List (Str × Addr)) (fp : List Addr) :
    Okc (X.blk s H scope (compEnvC scope cl C X.env) fp) (k.blk scope) F c' W0 where
  N := O.N
  nd := O.nd
  sc := by
    show relabel scope X.env = relS scope k.sc
    rw [← O.sc]
    rfl
  own := fun x h => by
    have h : isLoc (scope.names.lookup x) = true := h
    show Loc (relabel scope X.env) x ∧ ((scope.names.lookup x == some .cell) = true ∨ (relabel scope X.env).names.lookup x = some .local)
    cases e : scope.names.lookup x with
    | none => rw [e] at h; cases h
    | some kd =>
      rw [e] at h
      cases kd with
      | «local» =>
        have z := lookup_relS (sc := X.env.scope) (hk := by decide) e
        exact ⟨.inl z, .inr z⟩
      | cell =>
        have z := lookup_relS (sc := X.env.scope) (hk := by decide) e
        exact ⟨.inr z, .inl (by decide)⟩
      | _ => cases h
  calm := O.calm
  un := O.un
  mg := hm.1.trans O.mg
  blt := O.blt
  tk := fun u s' ⟨a, B, sI, pins, σ, H, cls, d, e, I, nb, up, sky, na, os, ag, w⟩ => w.elim
  xs := fun j a cls d ε e => by rw [hx] at e; cases e
  hot0 := fun _ => hx
  fns := fun h1 f p h2 => by
    obtain ⟨ad, fd, ps, j, a1, a2, a3, a4, a5⟩ := O.fns h1 f p h2
    exact ⟨ad, fd, ps, j, a1, a2, a3, a4, fun g h3 h4 => a5 g h3 (h4.trans hm.2)⟩
  cur := fun ε e => by obtain ⟨_, _, _, _, q⟩ := O.cur ε e; rw [O.hot0 hh] at q; cases q
  sui := fun j a cls d ε e => by rw [hx] at e; cases e
  xf := O.xf
  sub := O.sub
  room := O.room
  cat := O.cat
  glb := O.glb
  lam1 := fun e => by rw [hl] at e; cases e
  actz := fun _ h => nomatch h
  job := fun _ f x _ l body scope h => nomatch h
/-- the tests of a comprehension -/
def tCs (c : LC) (F : Sem) (cs : List Ex) : TT := fun σ H Q => ∃ ρ M Q' E', Rp c ρ M σ H ∧ wCs F cs ρ M Q' E' ∧ (∀ b M' H', Q' b M' → Mono M H M' H' → MRep c.mg M' H' → Q b H') ∧ Throws c (fun cls d H' => W0 cls d σ H') M H E'
theorem sts_nil : PTs X [] (tCs c F []) := by
  refine ⟨fun pins s σ H Q I ⟨ρ, M, Q', E', R, w, g, t⟩ => pts_nil.run pins s σ H Q I ?_⟩
  exact g true M H w (Mono.refl _ _) R.mem
theorem sts_one {e : Expr} {x : Ex} (h : PT X e (tT c W0 F x)) : PTs X [e] (tCs c F [x]) := by
  refine ⟨fun pins s σ H Q I ⟨ρ, M, Q', E', R, w, g, t⟩ => (pts_one h).run pins s σ H Q I ?_⟩
  have w : wE F x ρ M (asB fun b M1 => if b = true then Q' true M1 else Q' false M1) E' := w
  refine tT_bind R w t fun b M1 H1 q m1 R1 => ?_
  cases b with
  | true => exact g true M1 H1 q m1 R1.mem
  | false => exact g false M1 H1 q m1 R1.mem
/-- the readings of a comprehension's parts -/
def bG (c : LC) (t : Tg) : TG := fun v σ H Q => ∃ c' : LC, ((c'.mg.mg = c.mg.mg ∧ c'.mg.T = c.mg.T) ∧ c'.xi = none ∧ c'.lam = none) ∧ tG c' t v σ H Q
def bT (c : LC) (F : Sem) (cs : List Ex) : TT := fun σ H Q => ∃ c' : LC, ((c'.mg.mg = c.mg.mg ∧ c'.mg.T = c.mg.T) ∧ c'.xi = none ∧ c'.lam = none) ∧ tCs c' F cs σ H Q
def bE (c : LC) (F : Sem) (e : Ex) : TE := fun σ H Q => ∃ c' : LC, ((c'.mg.mg = c.mg.mg ∧ c'.mg.T = c.mg.T) ∧ c'.xi = none ∧ c'.lam = none) ∧ tE c' W0 F e σ H Q
theorem comp_read (xi0 : c.xi = none) {m : Bool} {e1 : Ex} {t : Tg} {ik : Ik} {es cs : List Ex} {tg : Expr} {own : List (Str × Nat)} (ho : tgOwn t tg = some own) {σ : L2.St} {H : Hp} {Q : VK} (h : tE c W F (.comp m e1 t ik es cs) σ H Q) :
    tLc (tI c W F ik es) (bG c t) (bT c F cs) (bE c F e1) (own.map (·.2)) σ H Q := by
  obtain ⟨ρ, M, Q', E', R0, w, gg, th⟩ := h
  have hsl := tgOwn_slots ho
  refine ⟨ρ, M, _, E', R0, w, fun xs M1 H1 J q m1 mr1 wk => ?_, th⟩
  intro D hD
  rw [hsl]
  have hnD : ¬ c.mg.hid D := (mr1.gone hD).2
  have R1 : Rp c ρ M1 σ H1 := R0.mono m1 mr1
  obtain ⟨turn, hturn⟩ : ∃ turn : Dee.D → Mem → (Option Dee.D → Mem → Prop) → Prop, turn = fun x M R => wTg t x (wipeD ρ (tgSlots t)) fun σ1 => wCs F cs σ1 M (fun b M2 => if b then wE F e1 σ1 M2 (fun y M3 => R (some y) M3) (fun _ _ => False) else R none M2) (fun _ _ => False) := ⟨_, rfl⟩
  rw [← hturn] at q
  refine ⟨fun i n H => n = xs.length - i ∧ i ≤ xs.length ∧ ∃ M acc vs, lcL turn (fun acc M2 => newL m acc M2 Q') (xs.drop i) acc M ∧ Mono M1 H1 M H ∧ Keeps c.mg (c.mg.hide D) M1 H1 M H ∧ MRep (c.mg.hide D) M H ∧ H D = some (.lst vs) ∧ RepL (c.mg.hide D) M H acc vs ∧ acc.length ≤ i,
    ⟨xs.length, by simp, Nat.zero_le _, M1, [], [], by rw [List.drop_zero]; exact q, Mono.new hD, Keeps.hide hD, mr1.hide hD, upd_same, rfl, Nat.le_refl _⟩, ?_⟩
  rintro i n H2 ⟨rfl, hi2, M2, acc, vs, q2, mo2, ke2, mr2, hD2, rs2, hl2⟩
  by_cases hlt : i < xs.length
  · obtain ⟨d, hd⟩ : ∃ d, xs[i]? = some d := ⟨xs[i], List.getElem?_eq_getElem hlt⟩
    have hdrop : xs.drop i = d :: xs.drop (i + 1) := by
      rw [List.drop_eq_getElem_cons hlt]
      rw [List.getElem?_eq_getElem hlt] at hd
      cases hd
      rfl
    rw [hdrop] at q2
    refine .inr ⟨wk.go _ i M2 H2 ke2 hlt, fun H' => xs.length - (i + 1) = xs.length - (i + 1) ∧ i + 1 ≤ xs.length ∧ ∃ M acc vs, lcL turn (fun acc M2 => newL m acc M2 Q') (xs.drop (i + 1)) acc M ∧ Mono M1 H1 M H' ∧ Keeps c.mg (c.mg.hide D) M1 H1 M H' ∧ MRep (c.mg.hide D) M H' ∧ H' D = some (.lst vs) ∧ RepL (c.mg.hide D) M H' acc vs ∧ acc.length ≤ i + 1,
      fun H' h' => ⟨xs.length - (i + 1), by omega, h'⟩, fun x H3 y => ?_⟩
    obtain ⟨hH3, rx⟩ := wk.yld _ i M2 H2 x H3 ke2 mr2 y d hd
    have mo3 : Mono M2 H2 M2 H3 ∧ MRep (c.mg.hide D) M2 H3 := by
      rcases hH3 with rfl | ⟨p, us, hp, rfl⟩
      · exact ⟨Mono.refl _ _, mr2⟩
      · exact ⟨Mono.new hp, mr2.new hp⟩
    obtain ⟨mo3, mr3⟩ := mo3
    have hDM : M2 D = none := (mr2.hid D (.inr rfl)).1
    have R3 : Rp ⟨c.mg.hide D, none, none⟩ (wipeD ρ (tgSlots t)) M2 (wipe σ (tgSlots t)) H3 :=
      Rp.wipe (Rp.keeps (c' := ⟨c.mg.hide D, none, none⟩) R1 (ke2.trans mo3.keeps) mr3 rfl rfl) rfl rfl _
    have q3 : turn d M2 (fun r M1 => match r with | some y => lcL turn (fun acc M2 => newL m acc M2 Q') (xs.drop (i + 1)) (acc ++ [y]) M1 | none => lcL turn (fun acc M2 => newL m acc M2 Q') (xs.drop (i + 1)) acc M1) := q2
    rw [hturn] at q3
    refine ⟨⟨c.mg.hide D, none, none⟩, ⟨⟨rfl, rfl⟩, rfl, rfl⟩, _, M2, d, _, R3, rx, q3, fun ρ4 σ4 w4 R4 off4 => ⟨?_, ?_⟩⟩
    · rw [off4.wipe, (wipe_wipe σ (tgSlots t)).wipe]
    rw [← hturn] at w4
    refine ⟨⟨c.mg.hide D, none, none⟩, ⟨⟨rfl, rfl⟩, rfl, rfl⟩, ρ4, M2, _, _, R4, w4, fun b M5 H5 q5 mo5 mr5 => ?_, fun _ _ _ _ _ z => z.elim⟩
    have mo25 := mo3.trans mo5
    cases b with
    | false =>
      rw [if_neg Bool.false_ne_true] at q5
      show _ = _ ∧ _
      exact ⟨rfl, hlt, M5, acc, vs, q5, mo2.trans mo25, ke2.trans mo25.keeps, mr5, (mo25.tup D (.lst vs) True.intro hDM hD2).2, rs2.mono mo25, by omega⟩
    | true =>
      rw [if_pos rfl] at q5
      refine ⟨⟨c.mg.hide D, none, none⟩, ⟨⟨rfl, rfl⟩, rfl, rfl⟩, ρ4, M5, _, _, R4.mono mo5 mr5, q5, fun y' M6 v6 H6 q6 mo6 mr6 r6 => ?_, fun _ _ _ _ _ z => z.elim⟩
      have mo26 := mo25.trans mo6
      have hD6 := (mo26.tup D (.lst vs) True.intro hDM hD2).2
      have hlen := rs2.length
      have hwl := wk.len
      exact ⟨vs, hD6, by omega, rfl, hlt, M6, acc ++ [y'], vs ++ [v6], q6, (mo2.trans mo26).young hD, (ke2.trans mo26.keeps).trans Keeps.turn, mr6.turn, upd_same,
        ((rs2.mono mo26).keeps Keeps.turn).append ⟨v6, [], rfl, r6.keeps Keeps.turn, rfl⟩, by simp; omega⟩
  · have hie : i = xs.length := by omega
    subst hie
    refine .inl ⟨wk.stop _ _ M2 H2 ke2 (Nat.le_refl _), ?_⟩
    rw [List.drop_length] at q2
    have q3 : newL m acc M2 Q' := q2
    have hDM : M2 D = none := (mr2.hid D (.inr rfl)).1
    cases m with
    | false => exact gg _ _ _ _ q3 (m1.trans mo2) mr2.show ⟨D, vs, rfl, ⟨hDM, hnD⟩, .inl hD2, rs2.keeps Keeps.show⟩
    | true => exact gg _ _ _ _ (q3 D hDM) (m1.trans (mo2.youngT hD)) (mr2.showT hD2 rs2 hnD) rfl
theorem comp_ok (O : Okc X k F c W) (hh : k.hot = false) {scope : Scope} {own : List (Str × Nat)} {tg elt : Expr} {ifs : List Expr} {t : Tg} {cs : List Ex} {e1 : Ex} (hb : blkC k.N k.sc scope own = true)
    (body : ∀ (X' : Cx) (c' : LC), Okc X' (k.blk scope) F c' W0 → PG X' tg (tG c' t) ∧ PTs X' ifs (tCs c' F cs) ∧ PE X' elt (tE c' W0 F e1)) :
    BlkOk X.N X.env.scope scope own ∧ (∀ (s : Shared) (H : Hp) (C : Addr) (cl : List (Str × Addr)) (fp : List Addr), PG (X.blk s H scope (compEnvC scope cl C X.env) fp) tg (bG c t)) ∧
      (∀ (s : Shared) (H : Hp) (C : Addr) (cl : List (Str × Addr)) (fp : List Addr), PTs (X.blk s H scope (compEnvC scope cl C X.env) fp) ifs (bT c F cs)) ∧ (∀ (s : Shared) (H : Hp) (C : Addr) (cl : List (Str × Addr)) (fp : List Addr), PE (X.blk s H scope (compEnvC scope cl C X.env) fp) elt (bE c F e1)) := by
  have bd : ∀ (s : Shared) (H : Hp) (C : Addr) (cl : List (Str × Addr)) (fp : List Addr) (c' : LC), ((c'.mg.mg = c.mg.mg ∧ c'.mg.T = c.mg.T) ∧ c'.xi = none ∧ c'.lam = none) → _ := fun s H C cl fp c' p => body (X.blk s H scope (compEnvC scope cl C X.env) fp) c' (O.blk hh p.1 p.2.1 p.2.2 s H scope C cl fp)
  refine ⟨by rw [O.N, O.sc]; exact blkOk_by hb, fun s H C cl fp => ⟨fun pins s' σ' H' v u Q I r ⟨c', p, q⟩ => (bd s H C cl fp c' p).1.run pins s' σ' H' v u Q I r q⟩,
    fun s H C cl fp => ⟨fun pins s' σ' H' Q I ⟨c', p, q⟩ => (bd s H C cl fp c' p).2.1.run pins s' σ' H' Q I q⟩,
    fun s H C cl fp => ⟨fun pins s' σ' H' Q I ⟨c', p, q⟩ => (bd s H C cl fp c' p).2.2.run pins s' σ' H' Q I q⟩⟩
theorem se_comp (O : Okc X k F c W) (hh : k.hot = false) {m : Bool} {e1 : Ex} {t : Tg} {ik : Ik} {es cs : List Ex} {elt tg iter : Expr} {ifs : List Expr} {scope : Scope} {own : List (Str × Nat)} {pos : Pos}
    (hi : PI X tg iter (tI c W F ik es)) (ho : tgOwn t tg = some own) (hb : blkC k.N k.sc scope own = true) (hs : isSet iter = false)
    (body : ∀ (X' : Cx) (c' : LC), Okc X' (k.blk scope) F c' W0 → PG X' tg (tG c' t) ∧ PTs X' ifs (tCs c' F cs) ∧ PE X' elt (tE c' W0 F e1)) :
    PE X (.ListComp elt [⟨tg, iter, ifs, 0⟩] scope pos) (tE c W F (.comp m e1 t ik es cs)) := by
  obtain ⟨b1, b2, b3, b4⟩ := comp_ok O hh hb body
  have fs : ∀ x, foldedSetIterable iter X.env x = pure x := fun x => by cases iter <;> first | rfl | cases hs
  exact PE.imp (pe_lc (O.calm hh) O.nd hi b1 b2 b3 b4 fs) fun σ H Q h => comp_read (O.hot0 hh) ho h
end
end Dee

set_option Elab.async false
set_option linter.all false
set_option autoImplicit false
set_option maxRecDepth 100000
set_option maxHeartbeats 1000000
/-! Dee: enumerate over a tuple, a dict's keys, sorted(set(..)). -/
namespace Dee
open PySem PySem.Spec PyProof.Rows L2
section
variable {prog : Program} {w : World} {A : Around} {E : Value → Shared → Prop} {s : Shared}
set_option maxHeartbeats 1000000 in
theorem meets_enum1 {v : Value} {o : Obj} {H : Heap → Prop} (B : Begins v o H) :
    Meets (Builtin.«enumerate.__new__» ⟨[.type "enumerate", v], []⟩) (fun _ R s => H s.heap ∧
      R (.ok (.ret (.ref (s.heap.push o).objs.size))) { s with heap := (s.heap.push o).push { cls := .type "enumerate", data := .fields #[.none, .bool false, .ref s.heap.objs.size, rawInt 0, .none, .none] } }) :=
  .of_wp fun prog w A R s h => by
    obtain ⟨hp, g, d, tk, os⟩ := s; obtain ⟨h1, h⟩ := h
    have hsub := sub_enumerate
    have q1 : ∀ {A' : Around} {E : Value → Shared → Prop} {Q : Value → Shared → Prop}, Q (.ref hp.objs.size) ⟨hp.push o, g, d, tk, os⟩ → wpAny (model prog w) A' (pyIter v) Q E ⟨hp, g, d, tk, os⟩ :=
      fun q => B.iter prog w _ _ ⟨hp, g, d, tk, os⟩ _ h1 q
    wp_walk using q1
    refine wpAny_stack_any fun st => wpAny_pure ?_
    split
    · rename_i c _ _ _ _ _
      cases (c == Value.type "enumerate")
      · wp_walk using q1
        exact ⟨_, rfl, h⟩
      · wp_walk using q1
        exact ⟨_, rfl, h⟩
    · wp_walk using q1
      exact ⟨_, rfl, h⟩
theorem call_enum1 {v : Value} {o : Obj} {H : Heap → Prop} {Q : Value → Shared → Prop} (B : Begins v o H) (h1 : H s.heap)
    (h : ∀ h', IsEnum h' (s.heap.objs.size + 1) s.heap.objs.size 0 .none → h'.get? s.heap.objs.size = some o → h'.objs.size = s.heap.objs.size + 2 →
      (∀ b o, s.heap.get? b = some o → h'.get? b = some o) → Q (.ref (s.heap.objs.size + 1)) { s with heap := h' }) :
    wpAny (model prog w) A (call (.type "enumerate") [v]) Q E s := by
  refine callType_new F.called_enumerate (by decide) (F.typeCall_enumerate_1 _) (F.newCall_enumerate_1 _) (fun obj => F.args_object_init_2 obj _) F.entry_enumerate_new
    (meets_enum1 B) ⟨h1, ?_⟩
  have hz : (s.heap.push o).objs.size = s.heap.objs.size + 1 := Heap.size_push ..
  show _ ∧ _
  rw [hz]
  have he : IsEnum ((s.heap.push o).push { cls := .type "enumerate", data := .fields #[.none, .bool false, .ref s.heap.objs.size, rawInt 0, .none, .none] }) (s.heap.objs.size + 1) s.heap.objs.size 0 .none := by
    have := Heap.get?_push_size (s.heap.push o) (o := { cls := .type "enumerate", data := .fields #[.none, .bool false, .ref s.heap.objs.size, rawInt 0, .none, .none] }) rfl
    rw [hz] at this; exact this
  refine ⟨⟨_, he, rfl⟩, h _ he (Heap.get?_push_of_some _ (Heap.get?_push_size _ B.free)) (by rw [Heap.size_push, hz]) fun b o x => Heap.get?_push_of_some _ (Heap.get?_push_of_some _ x)⟩
theorem enum_endT {e it l : Addr} {i : Nat} {items : Array Value} {c : Int} {old : Value} {Q : Option Value → Shared → Prop} (hh : A.handled = none)
    (he : IsEnum s.heap e it c old) (hit : s.heap.IsTupleIter it l i) (hl : s.heap.IsTuple l items) (hx : items[i]? = none)
    (hQ : ∀ h', Heap.ExtBut it s.heap h' → Q none { s with heap := h' }) : wpAny (model prog w) A (pyNext (.ref e)) Q E s := by
  have hT : s.TypeIs (.ref e) "enumerate" := ⟨_, he, rfl⟩
  unfold pyNext
  refine wpAny_bind (wpAny_attempt (wpAny_callSpecial?_slot (name := Str.ofString "__next__") hT F.slot_enumerate_next
    (wpAny_call_entry F.slot_enumerate_next hT F.entry_enumerate_next ?_ (F.args_enumerate_next_1 _))))
  show wpAny _ _ (field (.ref e) 2 >>= _) _ _ _
  refine wpAny_bind (wpAny_field he rfl (x := .ref it) rfl ?_)
  refine wpAny_bind (wpAny_nextOf_tuple_end hh hit hl hx fun h' x he' hx' => ?_)
  obtain ⟨o, ho, hc⟩ := hx'
  refine wpAny_bind (wpAny_isInstance (T := "StopIteration") (b := true) ⟨o, ho, hc⟩ isSubtype_stop ?_)
  exact wpAny_pure (hQ _ he')
end
/-- the tuple at a, its items numbered, in new pairs -/
def Itet (K : PySem.W.Frag) (a : Addr) : It :=
  ⟨fun i H => ∃ (xs : List V) (x : V), SqT K H a xs ∧ xs[i]? = some x, fun i H v H' => ∃ T x, v = .ref T ∧ H T = none ∧ H' = upd H T (.tup [.int (i : Nat), x]) ∧ ∀ xs, SqT K H a xs → xs[i]? = some x, fun i H => ∃ xs : List V, SqT K H a xs ∧ xs.length ≤ i⟩
theorem apartT {h : Heap} {a e it : Addr} {items : Array Value} {i : Nat} {c : Int} {old : Value} (p : h.IsTuple a items) (he : IsEnum h e it c old) (hit : h.IsTupleIter it a i) : a ≠ it ∧ e ≠ a := by
  obtain ⟨o1, h1, c1, _⟩ := p
  obtain ⟨o2, h2, c2, _⟩ := hit
  constructor
  · rintro rfl
    rw [h1] at h2; cases h2
    rw [c1] at c2
    exact absurd c2 (by decide)
  · rintro rfl
    have he' : h.get? e = some _ := he
    rw [h1] at he'; cases he'
    exact absurd (show Value.type "enumerate" = Value.type "tuple" from c1) (by decide)
theorem turn_enumT {P : Program} {w : World} {K : PySem.W.Frag} {elts : List Expr} {kk : Nat} {tpos : Pos} (a e it : Addr) :
    Turn P w K (.Tuple elts kk tpos) (Itet K a) [e, it] e (fun i h => (∃ old, IsEnum h e it ((i : Nat) : Int) old) ∧ h.IsTupleIter it a i ∧ e ≠ it) where
  mem := by simp
  obj := fun i h st b hb => by
    obtain ⟨⟨old, he⟩, ⟨o, ho, hc, hd⟩, _⟩ := st
    have e' : b = e ∨ b = it := by simpa using hb
    rcases e' with z | z
    · rw [z]; exact ⟨_, he, fun v q => nomatch q⟩
    · rw [z]; exact ⟨o, ho, fun v q => by rw [hd] at q; cases q⟩
  keep := fun i h h' st k => let ⟨⟨old, he⟩, hi, hne⟩ := st; ⟨⟨old, k e (by simp) _ he⟩, hi.at fun o q => k it (by simp) o q, hne⟩
  item := by
    intro X hP hw hK hc i pins s σ H E I hf st hg
    subst hP hw hK
    obtain ⟨⟨old, he⟩, hit, hne⟩ := st
    obtain ⟨xs, x, hq, hx⟩ := hg
    obtain ⟨its, rv, p, hz⟩ := I.tuple hq
    obtain ⟨u, hu, ru⟩ := rv.get hx
    have hel : e < s.heap.objs.size := Heap.lt_size he
    have hil : it < s.heap.objs.size := by obtain ⟨_, q, _⟩ := hit; exact Heap.lt_size q
    obtain ⟨na, ne⟩ := apartT (items := its.toArray) p he hit
    have hi : i < its.toArray.size := by
      have := List.getElem?_eq_some_iff.mp hx
      have := rv.length
      obtain ⟨hh, _⟩ := List.getElem?_eq_some_iff.mp hx
      simp; omega
    refine wpAny_pyNext_enum_itemD (Draws.tuple (A := X.A.in1) (I.ok.hd hc) it a na its.toArray) he ⟨hit, p⟩ hi hne (by simp [hne, ne]) fun v h' tk pv ho hst' hT hsz hk => ?_
    have ev : v = u := by
      have : its.toArray[i]? = some u := by simpa using hu
      rw [this] at pv
      cases pv; rfl
    subst ev
    refine ⟨_, rfl, wpAny_letOwnedTupleGo_enum (s := { s with heap := h', toks := tk + 1 }) ho fun h'' he' sb => ?_⟩
    have hT2 : h''.get? s.heap.objs.size = some { cls := .type "tuple", data := .seq #[.int i tk, v] } := (sb.2 _ (Nat.ne_of_gt hel)).trans hT
    have new : ObjOk X.prog X.w (upd H s.heap.objs.size (.tup [.int (i : Nat), x])) h'' s.heap.objs.size (.tup [.int (i : Nat), x]) :=
      ⟨by show 2 ≤ sizeLine; decide, [.int i tk, v], .cons ⟨_, rfl⟩ (.cons ru .nil), ⟨_, hT2, rfl, _, rfl⟩⟩
    have I1 : Inv X pins σ (upd H s.heap.objs.size (.tup [.int (i : Nat), x])) { s with heap := h'', toks := tk + 1 } :=
      I.turnedNew (ch := [e, it]) (fun b ob hb q => (sb.2 b (fun z => hb (by simp [z]))).trans (hk b ob (fun z => hb (by simp [z])) (fun z => hb (by simp [z])) q)) hf (Nat.le_refl _) new
    refine ⟨.ref s.heap.objs.size, _, I1, rfl, ⟨_, x, rfl, I.hok.fresh (Nat.le_refl _), rfl, fun ys hy => by rw [I.tuple_inj hy hq]; exact hx⟩, ⟨⟨v, ?_⟩, hst'.1.at fun o q => (sb.2 it (Ne.symm hne)).trans q, hne⟩, fun b hb => ?_⟩
    · have e1 : ((i + 1 : Nat) : Int) = (i : Int) + 1 := by omega
      rw [e1]; exact he'
    · have hb' : b < s.heap.objs.size := by
        have e' : b = e ∨ b = it := by simpa using hb
        rcases e' with z | z
        · rw [z]; exact hel
        · rw [z]; exact hil
      rw [upd_ne (Nat.ne_of_lt hb')]
      exact (hf b hb).1
  done := by
    intro X hP hw hK hc i pins s σ H E I hf st hg
    subst hP hw hK
    obtain ⟨⟨old, he⟩, hit, hne⟩ := st
    obtain ⟨xs, hq, hx⟩ := hg
    obtain ⟨its, rv, p, hz⟩ := I.tuple hq
    obtain ⟨f0, f1, f2, f3, f4, f5⟩ := hf it (by simp)
    have hl := rv.length
    obtain ⟨na, ne⟩ := apartT (items := its.toArray) p he hit
    exact enum_endT (I.ok.hd hc) he hit p (by simp; omega) fun h' eb => ⟨rfl, I.turned (t' := s.toks) (fun b o hb q => eb b o hb q) f0 f1 f3 f4 f5⟩
  self := fun A i s Q E st h => let ⟨⟨_, he⟩, _⟩ := st; wpAny_pyIter_enum he h
def iEnumT (K : PySem.W.Frag) (ta : TA) : TI := fun σ H R => ta σ H fun vs H1 => ∃ a, vs = [.ref a] ∧ ((∃ xs, SqL K H1 a xs ∧ (xs.length ≤ sizeLine → R (Ite K a) H1)) ∨ ∃ xs, SqT K H1 a xs ∧ (xs.length ≤ sizeLine → R (Itet K a) H1))
theorem pi_enumT {X : Cx} {e : Expr} {ta : TA} {p pos tpos : Pos} {elts : List Expr} {kk : Nat} (hg : Gl X "enumerate") (hm : X.mg "enumerate" = none) (ha : PA X [e] ta) (hs : starEach [e] X.env = [(false, eval e X.env)] := by rfl) :
    PI X (.Tuple elts kk tpos) (.Call (.Name "enumerate" p) [e] [] pos) (iEnumT X.K ta) := by
  refine ⟨fun pins s σ H R I h => ?_⟩
  refine Call_ (ld_blt I hg hm boot_enumerate (PyProof.Rows.callWith_type1 (thn (ha.run pos pins s σ H _ I h) fun us s1 ⟨vs, H1, I1, r1, q1⟩ => ?_) hs rfl))
  obtain ⟨a, ex, q1⟩ := q1
  subst ex
  cases r1 with
  | cons r rr =>
    cases rr
    cases r
    have fin : ∀ {J : It} {tn : Nat → Heap → Prop} (h' : Heap), Turn X.prog X.w X.K (.Tuple elts kk tpos) J [s1.heap.objs.size + 1, s1.heap.objs.size] (s1.heap.objs.size + 1) tn → tn 0 h' → IsEnum h' (s1.heap.objs.size + 1) s1.heap.objs.size 0 .none → (∀ b o, s1.heap.get? b = some o → h'.get? b = some o) → R J H1 →
        wpAny (model X.prog X.w) X.A (pyIter (.ref (s1.heap.objs.size + 1))) (PIE X pins σ (.Tuple elts kk tpos) R) X.xe { s1 with heap := h' } := fun h' T st he hk q => wpAny_pyIter_enum he (by
      have I2 : Inv X pins σ H1 { s1 with heap := h' } := I1.kept (t' := s1.toks) hk
      refine ⟨s1.heap.objs.size + 1, [s1.heap.objs.size + 1, s1.heap.objs.size], _, _, H1, rfl, I2, T, st, fun b hb => ?_, q⟩
      have e' : b = s1.heap.objs.size + 1 ∨ b = s1.heap.objs.size := by simpa using hb
      have hle : s1.heap.objs.size ≤ b := by
        rcases e' with z | z
        · rw [z]; exact Nat.le_add_right _ _
        · rw [z]; exact Nat.le_refl _
      exact I1.fpOk hle (I1.hok.fresh hle))
    rcases q1 with ⟨xs, hq, q⟩ | ⟨xs, hq, q⟩
    · obtain ⟨its, rv, p', hz⟩ := I1.list hq
      exact call_enum1 (begins_list a its.toArray) p'.isList fun h' he ho hsz hk => fin h' (turn_enum a (s1.heap.objs.size + 1) s1.heap.objs.size) ⟨⟨.none, he⟩, ⟨_, ho, rfl, rfl⟩, Nat.succ_ne_self _⟩ he hk (q hz)
    · obtain ⟨its, rv, p', hz⟩ := I1.tuple hq
      exact call_enum1 (begins_tuple a its.toArray) p' fun h' he ho hsz hk => fin h' (turn_enumT a (s1.heap.objs.size + 1) s1.heap.objs.size) ⟨⟨.none, he⟩, ⟨_, ho, rfl, rfl⟩, Nat.succ_ne_self _⟩ he hk (q hz)
section
variable {X : Cx} {k : Ck} {F : Sem} {c : LC} {W : WX}
theorem enmL_at {xs : List D} {i : Nat} : (enmL xs)[i]? = (xs[i]?).map fun d => .tup [.int (i : Nat), d] := by
  unfold enmL
  rw [List.getElem?_map, List.getElem?_zipIdx]
  cases xs[i]? with
  | none => rfl
  | some d => simp
theorem enmL_len {xs : List D} : (enmL xs).length = xs.length := by unfold enmL; simp
/-- numbered items of a tuple, or of a list -/
theorem walks_enm {g0 : Gm} {K : PySem.W.Frag} {a : Addr} {xs : List D} {vs : List V} {M : Mem} {H : Hp} (hn : Un g0 M a) (hr : Rd H a (.lst vs)) (rs : RepL g0 M H xs vs) (hl : vs.length ≤ sizeLine) : Walks g0 (Ite K a) (enmL xs) M H := by
  have len := rs.length
  refine ⟨by rw [enmL_len]; omega, fun g i M1 H1 m h => ?_, fun g i M1 H1 m h => ?_, fun g i M1 H1 v H' m mr y d e => ?_⟩
  · rw [enmL_len] at h
    obtain ⟨_, r⟩ := m.keep a (.lst vs) True.intro hn hr
    exact ⟨vs, vs[i]'(by omega), .inl r, List.getElem?_eq_getElem _⟩
  · rw [enmL_len] at h
    obtain ⟨_, r⟩ := m.keep a (.lst vs) True.intro hn hr
    exact ⟨vs, .inl r, by omega⟩
  · obtain ⟨T, x, rfl, hT, rfl, y⟩ := y
    obtain ⟨_, r⟩ := m.keep a (.lst vs) True.intro hn hr
    have e2 := y vs (.inl r)
    refine ⟨.inr ⟨T, _, hT, rfl⟩, ?_⟩
    obtain ⟨d', e3, r3⟩ := rs.get' e2
    rw [enmL_at, e3] at e
    cases e
    exact ⟨T, _, rfl, mr.gone hT, .inl upd_same, _, _, rfl, rfl, _, _, rfl, (r3.keeps m).mono (Mono.new hT), rfl⟩
theorem walks_enmT {g0 : Gm} {K : PySem.W.Frag} {a : Addr} {xs : List D} {vs : List V} {M : Mem} {H : Hp} (hn : Un g0 M a) (hr : Rd H a (.tup vs)) (rs : RepL g0 M H xs vs) (hl : vs.length ≤ sizeLine) : Walks g0 (Itet K a) (enmL xs) M H := by
  have len := rs.length
  refine ⟨by rw [enmL_len]; omega, fun g i M1 H1 m h => ?_, fun g i M1 H1 m h => ?_, fun g i M1 H1 v H' m mr y d e => ?_⟩
  · rw [enmL_len] at h
    exact ⟨vs, vs[i]'(by omega), (.inl (m.keep a (.tup vs) True.intro hn hr).2), List.getElem?_eq_getElem _⟩
  · rw [enmL_len] at h
    exact ⟨vs, (.inl (m.keep a (.tup vs) True.intro hn hr).2), by omega⟩
  · obtain ⟨T, x, rfl, hT, rfl, y⟩ := y
    have e2 := y vs ((.inl (m.keep a (.tup vs) True.intro hn hr).2))
    refine ⟨.inr ⟨T, _, hT, rfl⟩, ?_⟩
    obtain ⟨d', e3, r3⟩ := rs.get' e2
    rw [enmL_at, e3] at e
    cases e
    exact ⟨T, _, rfl, mr.gone hT, .inl upd_same, _, _, rfl, rfl, _, _, rfl, (r3.keeps m).mono (Mono.new hT), rfl⟩
theorem si_enm (O : Okc X k F c W) {tg a : Expr} {x : Ex} {p pos : Pos} (htg : ∃ elts kk tpos, tg = .Tuple elts kk tpos) (hg : k.glo "enumerate" = true) (ha : PA X [a] (tA c W F [x])) (hs : noStars [a] = true) :
    PI X tg (.Call (.Name "enumerate" p) [a] [] pos) (tI c W F .enm [x]) := by
  obtain ⟨elts, kk, tpos, rfl⟩ := htg
  obtain ⟨gl, hdb, hn⟩ := O.glo hg
  have hm := O.blt "enumerate" (by decide)
  simp only [noStars, List.all_cons, Bool.and_eq_true, Bool.not_eq_true', List.all_nil, and_true] at hs
  refine PI.imp (pi_enumT gl hm ha (star_cons hs)) fun σ H R ⟨ρ, M, Q', E', R0, w, g, t⟩ => ?_
  refine tA_bind R0 w t fun ds M1 vs H1 hz w1 m1 R1 rs => ?_
  match ds, hz with
  | [d], _ =>
    obtain ⟨v, ev, rv⟩ := repL1 rs
    subst ev
    obtain ⟨q0, eq0, q⟩ := ob_some (show ob (stillS d) _ from w1)
    cases d with
    | tup ds =>
      cases eq0
      obtain ⟨b, ws, ea, hn2, hq, rl⟩ := rv
      subst ea
      exact ⟨b, rfl, .inr ⟨ws, (.inl hq.rd), fun hz => g _ _ _ _ q m1 R1.mem (walks_enmT hn2 hq.rd rl hz)⟩⟩
    | lst ds =>
      cases eq0
      obtain ⟨b, ws, ea, hn2, hq, rl⟩ := rv
      subst ea
      exact ⟨b, rfl, .inl ⟨ws, .inl hq, fun hz => g _ _ _ _ q m1 R1.mem (walks_enm hn2 hq rl hz)⟩⟩
    | _ => cases eq0
/-- sorted(set(xs)) -/
theorem se_srts (O : Okc X k F c W) {m : Bool} {a : Expr} {x : Ex} {p p2 q pos : Pos} (hh : k.hot = false) (h1 : k.glo "sorted" = true) (h2 : k.glo "set" = true) (ha : PE X a (tE c W F x)) (hs : isStar a = false) :
    PE X (.Call (.Name "sorted" p) [.Call (.Name "set" p2) [a] [] q] [] pos) (tE c W F (.srts m x)) := by
  obtain ⟨g1, d1, n1⟩ := O.glo h1
  obtain ⟨g2, d2, n2⟩ := O.glo h2
  have hc := O.calm hh
  refine ⟨fun pins s σ H Q I ⟨ρ, M, Q', E', R, w, g, t⟩ => ?_⟩
  refine Call_ (ld_blt I g1 (O.blt _ (by decide)) (show bootBuiltins "sorted" = some (.builtin "sorted") by decide +kernel) ?_ n1 d1)
  refine PyProof.Rows.callWith_builtin1 (PyProof.Rows.args_cons ?_ rfl) rfl rfl
  refine Call_ (ld_blt I g2 (O.blt _ (by decide)) (show bootBuiltins "set" = some (.type "set") by decide +kernel) ?_ n2 d2)
  have rd : tE c W F x σ H fun v H1 => ∃ (l : Addr) (vs : List V) (xs : List D) (M1 : Mem), v = .ref l ∧ Rd H1 l (.lst vs) ∧ RepL c.mg M1 H1 xs vs ∧ MRep c.mg M1 H1 ∧ SetOk xs ∧ Mono M H M1 H1 ∧
      ∀ ys, (∀ y, y ∈ ys ↔ y ∈ xs) → ys.Nodup → ys.Pairwise (fun a b => plt b a = some false) → newL m ys M1 Q' := by
    refine tE_bind R w t fun d M1 v H1 w1 m1 R1 r1 => ?_
    obtain ⟨nt, w1⟩ := w1
    obtain ⟨xs, e1, ok, w1⟩ := ob_some w1
    obtain ⟨al, vs, ev, rs, hr⟩ := lst_of R1.mem r1 nt e1
    exact ⟨al, vs, xs, M1, ev, hr, rs, R1.mem, ok, m1, w1⟩
  refine PyProof.Rows.callWith_type1 (PyProof.Rows.args_cons (thn (ha.run pins s σ H _ I rd) fun v s1 ⟨y, H1, I1, r1, q1⟩ => PyProof.Rows.args_nil ?_) (star_cons hs)) (star_cons hs) rfl
  obtain ⟨l, vs, xs, M1, rfl, hq, rs, mr, ok, mo, w1⟩ := q1
  cases r1
  obtain ⟨its, rv, pl, hz⟩ := I1.list (show SqL X.K H1 l vs from .inl hq)
  obtain ⟨ks, e1, e2, e3, e4⟩ := keyed (kinds_tup ok.kind) rs rv
  have hu := O.un
  refine DeeNest.call_set_nest ks (I1.ok.hd hc) pl.isList (by rw [← e1] <;> simp) (fun p hp => ?_) (by rw [e2]; exact ok.few) (by show X.A.units + 11 < cLine; omega) fun h' tk L es ep tb hS got hk => ?_
  · obtain ⟨d, hd, ed, rd⟩ := e3 p hp
    have hp1 := ok.nums d hd
    have hd7 := Nat.le_trans (dep_mem hd) ok.dep
    obtain ⟨o1, o2⟩ := toKey_only d hp1
    rw [← ed]
    exact ⟨⟨nested_of I1 d _ _ hp1 (rd.dat (by omega)) rfl, by rw [o2]; omega⟩, o1⟩
  · refine PyProof.Rows.args_nil ?_
    have I2 : Inv X pins σ H1 { s1 with heap := h', toks := tk } := I1.kept hk
    refine sorted_setN hc I2 O.un mr hS ?_ ?_ ok (g.mono mo) w1
    · intro p hp
      have := got.sub p hp
      rw [List.take_length] at this
      exact e3 p this
    · intro d hd
      obtain ⟨p, hp, e⟩ := e4 d hd
      rw [e]
      exact got.all p (by rw [List.take_length]; exact hp)
end
end Dee

set_option Elab.async false
set_option linter.all false
set_option autoImplicit false
set_option maxRecDepth 100000
set_option maxHeartbeats 1000000
/-! Dee: o[::-1]. -/
namespace Dee
open PySem PySem.Spec PyProof.Rows L2
section
variable {prog : Program} {w : World} {A : Around} {E : Value → Shared → Prop} {s : Shared}
theorem places_rev (n : Nat) : Builtin.Slice.slicePlaces ((n : Int) - 1) (-1) (-1) = n := by
  unfold Builtin.Slice.slicePlaces
  have h1 : ¬ ((-1 : Int) > 0) := by decide
  simp only [h1, if_false]
  by_cases h : (n : Int) - 1 > -1
  · rw [if_pos h]
    have e : ((n : Int) - 1 - -1 - 1) / (- -1) + 1 = (n : Int) := by
      rw [show (- -1 : Int) = 1 by decide, Int.ediv_one]
      omega
    rw [e]
    rfl
  · rw [if_neg h]
    have e : n = 0 := by omega
    subst e
    rfl
theorem pick_rev (xs : Array Value) : ((List.range xs.size).filterMap fun (k : Nat) => xs[((xs.size : Int) - 1 + (k : Int) * -1).toNat]?) = xs.toList.reverse := by
  have e : ((List.range xs.size).filterMap fun (k : Nat) => xs[((xs.size : Int) - 1 + (k : Int) * -1).toNat]?) = ((List.range xs.size).map fun k => xs.size - 1 - k).filterMap (xs[·]?) := by
    rw [List.filterMap_map]
    congr 1
    funext k
    have e : ((xs.size : Int) - 1 + (k : Int) * -1).toNat = xs.size - 1 - k := by omega
    simp only [Function.comp_def]
    rw [e]
  rw [e, PySem.W.krv_range, List.filterMap_reverse, PySem.W.krv_all]
theorem getItem_tuple_rev {t sl : Addr} {items : Array Value} {u : Tok} {Q : Value → Shared → Prop} (ht : IsTup s.heap t items) (hs : s.heap.IsSliceOf sl .none .none (.int (-1) u))
    (h : Q (.ref s.heap.objs.size) { s with heap := s.heap.push { cls := .type "tuple", data := .seq items.toList.reverse.toArray } }) (hsz : items.size ≤ sizeLine) : wpAny (model prog w) A (getItem (.ref t) (.ref sl)) Q E s := by
  have htake : sizeOk (.seq items.toList.reverse.toArray) := by
    show items.toList.reverse.toArray.size ≤ sizeLine
    simpa using hsz
  obtain ⟨os, hos, hcs, hds⟩ := id hs
  have hTs : s.TypeIs (.ref sl) "slice" := ⟨os, hos, hcs⟩
  unfold getItem
  try with_reducible refine wpAny_holding ?_
  first | refine wpAny_bind (wpAny_pure ?_) | skip
  refine wpAny_bind (wpAny_sequenceKey ht.typeIs (by decide) ?_)
  refine wpAny_bind (wpAny_callSpecial?_slot (name := Str.ofString "__getitem__") ht.typeIs PyProof.Rows.slot_tuple_getitem
    (wpAny_call_entry PyProof.Rows.slot_tuple_getitem ht.typeIs entry_tuple_getitem ?_ (args_tuple_getitem _ _)))
  show wpAny _ _ (Builtin.Tuple.tupleItemsOf (.ref t) >>= _) _ _ s
  refine wpAny_bind (PyProof.Rows.tupleItemsOf_ ht ?_)
  refine wpAny_bind (wpAny_typeOf hTs ?_)
  rw [if_pos (by decide)]
  refine wpAny_bind ?_
  unfold Builtin.Slice.sliceApplied Builtin.Slice.sliceFields
  refine wpAny_bind (wpAny_bind (wpAny_field hos hds (x := .none) rfl (wpAny_bind (wpAny_field hos hds (x := .none) rfl (wpAny_bind (wpAny_field hos hds (x := .int (-1) u) rfl (wpAny_pure ?_)))))))
  refine wpAny_bind (PyProof.Rows.slicePart_int ?_)
  show wpAny _ _ (if ((-1 : Int) == 0) = true then _ else _) _ _ s
  rw [if_neg (by decide)]
  refine wpAny_bind (PyProof.Rows.slicePart_none (wpAny_bind (PyProof.Rows.slicePart_none (wpAny_bind (wpAny_pure ?_)))))
  show wpAny _ _ (pure ((items.size : Int) - 1, (-1 : Int), Builtin.Slice.slicePlaces ((items.size : Int) - 1) (-1) (-1))) _ _ s
  rw [places_rev]
  refine wpAny_pure ?_
  have hno : ¬ ((((items.size : Int) - 1) == 0 && (-1 : Int) == 1 && items.size == items.size) = true) := by simp
  show wpAny _ _ (if ((((items.size : Int) - 1) == 0 && (-1 : Int) == 1 && items.size == items.size) = true) then _ else _) _ _ s
  rw [if_neg hno, pick_rev]
  first
    | exact wpAny_bind (m := Builtin.Tuple.tupleExact _) (wpAny_newObj_type (wpAny_pure ⟨_, rfl, wpAny_pure h⟩) htake)
    | exact wpAny_bind (m := Builtin.Tuple.tupleExact _) (wpAny_newObj_type (wpAny_bind (wpAny_pure (wpAny_pure ⟨_, rfl, wpAny_pure h⟩))) htake)
    | exact wpAny_bind (wpAny_bind (m := Builtin.Tuple.tupleExact _) (wpAny_newObj_type (wpAny_pure (wpAny_pure ⟨_, rfl, wpAny_pure h⟩)) htake))
    | exact wpAny_bind (wpAny_bind (m := Builtin.Tuple.tupleExact _) (wpAny_newObj_type (wpAny_pure ⟨_, rfl, wpAny_pure h⟩) htake))
end
section
variable {X : Cx} {k : Ck} {F : Sem} {c : LC} {W : WX}
theorem Vals.rev {xs : List V} {us : List Value} (r : Vals xs us) : Vals xs.reverse us.reverse := r.reverse
theorem se_rev {a : Expr} {x : Ex} {kk : Nat} {p1 p2 p3 pos : Pos} (ha : PE X a (tE c W F x)) : PE X (.Subscript a (.Slice none none (some (.UnaryOp .USub (.Constant (.int 1) kk p1) p2)) p3) pos) (tE c W F (.rev x)) := by
  refine ⟨fun pins s σ H Q I ⟨ρ, M, Q', E', R0, w, g, t⟩ => ?_⟩
  refine Subscript_ (thn (ha.run pins s σ H _ I (tE_bind R0 w t (R := fun v H1 => ∃ d M1, revop d M1 (fun v => Q' v M1) ∧ Mono M H M1 H1 ∧ Rp c ρ M1 σ H1 ∧ Rep c.mg M1 H1 d v) fun d M1 v H1 w1 m1 R1 r1 => ⟨d, M1, w1, m1, R1, r1⟩)) fun v s1 ⟨y, H1, I1, r1, d, M1, w1, m1, R1, rr⟩ => ?_)
  have hst : PO X (some (.UnaryOp .USub (.Constant (.int 1) kk p1) p2)) (tPart (tUn (rU fun i => .int (-i)) (tC (.int 1)))) := po_some (pe_un un_neg pe_int)
  refine wpAny_Slice (thn (po_none.run pins s1 σ H1 (fun o H2 => o = none ∧ H2 = H1) I1 ⟨rfl, rfl⟩) fun vl s2 ⟨l, H2, I2, pl, el, e2⟩ => ?_)
  subst el e2
  refine thn (po_none.run pins s2 σ H2 (fun o H3 => o = none ∧ H3 = H2) I2 ⟨rfl, rfl⟩) fun vu s3 ⟨u, H3, I3, pu, eu, e3⟩ => ?_
  subst eu e3
  refine thn (hst.run pins s3 σ H3 (fun o H4 => o = some (-1) ∧ H4 = H3) I3 ⟨1, rfl, -1, rfl, rfl, rfl⟩) fun vs s4 ⟨o, H4, I4, ps, eo, e4⟩ => ?_
  subst eo e4
  have I5 : Inv X pins σ H4 { s4 with heap := s4.heap.push { cls := .type "slice", data := .fields #[vl, vu, vs] } } := I4.kept (t' := s4.toks) fun b ob q => Heap.get?_push_of_some _ q
  have gg := g.mono m1
  have lst : ∀ {d : D}, isTup d = false → Rep c.mg M1 H4 d y → (ob (seqM M1 d) fun xs => Q' (.lst xs.reverse) M1) →
      wpAny (model X.prog X.w) X.A (subscriptTail a (.Slice none none (some (.UnaryOp .USub (.Constant (.int 1) kk p1) p2)) p3) v (.ref s4.heap.objs.size)) (EP X pins σ Q) X.xe { s4 with heap := s4.heap.push { cls := .type "slice", data := .fields #[vl, vu, vs] } } := fun {d} ht rd w => by
    obtain ⟨xs, e, q⟩ := ob_some w
    obtain ⟨b, vs', eb, rs, hsq⟩ := lst_of R1.mem rd ht e
    subst eb
    cases r1
    obtain ⟨its, r, ht, hz⟩ := I5.list (.inl hsq)
    have hlen := r.length
    refine tail_any (ops := [.ref b, .ref s4.heap.objs.size]) ht.isList.typeIs (PySem.slot_list_getitem.lookup) ?_ (by with_unfolding_all rfl)
    refine wpAny_getItem_list_slice ht.isList (Heap.IsSliceOf.new _ vl vu vs) pl pu ps (by decide) ?_ (by rw [List.size_toArray]; omega)
    rw [PySem.W.krv_pick]
    refine ⟨.ref _, _, I5.laid (t' := s4.toks) (o := .lst vs'.reverse) (fun b ob q => Heap.get?_push_of_some _ q) (Nat.le_refl _) ?_, rfl, gg.lst R1.mem q rs.reverse (I5.hok.fresh (Nat.le_refl _))⟩
    exact ⟨by rw [List.length_reverse]; exact hz, _, 0, r.reverse, Heap.get?_push_size _ rfl⟩
  show wpAny (model X.prog X.w) X.A (subscriptTail a (.Slice none none (some (.UnaryOp .USub (.Constant (.int 1) kk p1) p2)) p3) v (.ref s4.heap.objs.size)) (EP X pins σ Q) X.xe { s4 with heap := s4.heap.push { cls := .type "slice", data := .fields #[vl, vu, vs] } }
  cases d with
  | tup xs =>
    obtain ⟨b, vs', eb, _, hsq, rs⟩ := rr
    subst eb
    cases r1
    cases pl
    cases pu
    cases ps with
    | int _ u =>
    obtain ⟨its, r, ht, hz⟩ := I5.tuple (.inl hsq.rd)
    have hlen := r.length
    refine tail_any (ops := [.ref b, .ref s4.heap.objs.size]) ht.typeIs (PyProof.Rows.slot_tuple_getitem.lookup) ?_ (by with_unfolding_all rfl)
    refine getItem_tuple_rev ht (Heap.IsSliceOf.new _ _ _ _) ?_ (by rw [List.size_toArray]; omega)
    refine ⟨.ref _, _, I5.laid (t' := s4.toks) (o := .tup vs'.reverse) (fun b ob q => Heap.get?_push_of_some _ q) (Nat.le_refl _) ?_, rfl, gg.tup R1.mem w1 rs.reverse (I5.hok.fresh (Nat.le_refl _))⟩
    exact ⟨by rw [List.length_reverse]; exact hz, _, r.reverse, IsTup.new _ _⟩
  | lst xs => exact lst rfl rr w1
  | ref b => exact lst rfl rr w1
  | _ => exact w1.elim
end
end Dee

set_option Elab.async false
set_option linter.all false
set_option autoImplicit false
set_option maxRecDepth 100000
set_option maxHeartbeats 1000000
/-! Dee: exceptions as values; every expression. -/
namespace Dee
open PySem PySem.Spec PyProof.Rows L2
section
variable {prog : Program} {w : World} {A : Around} {E : Value → Shared → Prop} {s : Shared}
/-- isinstance(x, T) where x's class is under T -/
theorem isi_under {K : PySem.W.Frag} {x cls : Value} {T : String} {Q : Value → Shared → Prop} (X : K.In s.heap) (hne : (cls == Value.type T) = false) (hx : PySem.W.Looks (model prog w) s.heap (typeOf x) cls) (hty : typeOf (.type T) = pure (.type "type"))
    (hsub : PySem.W.Looks (model prog w) s.heap (isSubtype cls (.type T)) true) (hnb : x ≠ .builtin "__main__.__loader__#opaque") (h : Q (.bool true) s) : wpAny (model prog w) A (call (.builtin "isinstance") [x, .type T]) Q E s := by
  refine call_isinstance_of ?_ hnb
  unfold Builtin.«isinstance.nested»
  refine wpAny_bind (hx.at ?_)
  rw [hne, if_neg Bool.false_ne_true]
  refine wpAny_bind (m := typeOf (.type T)) (wpAny_of_eq hty ?_)
  rw [if_pos (by decide)]
  refine wpAny_bind (wpAny_bind (m := isType (.type T)) (wpAny_pure (a := true) ?_))
  have LI : PySem.W.Looks (model prog w) s.heap (isInstance x (.type T)) true := hx.andThen hsub
  refine wpAny_bind (LI.at ?_)
  exact wpAny_pure (a := true) (wpAny_pure h)
end
section
variable {X : Cx} {k : Ck} {F : Sem} {c : LC} {W : WX}
theorem ve_type : typeOf (.type "ValueError") = pure (.type "type") := PySem.OEX.typ_VE
theorem call_isV {X0 : Cx} {a D : Addr} {oe : Obj} {pn : List (Addr × Obj)} {d : Option Addr} (hs : PySem.W.subIn X0.K (.ref D) (.type "ValueError") = some true) (hz : Zc (.ref D) d oe) :
    CallR (L2.Cx.suite X0 a ((a, oe) :: pn)) (.builtin "isinstance") (fun xs H Q => xs = [.ref a, .ty "ValueError"] ∧ Q (.bl true) H) := by
  intro pins s σ H xs us Q I r h
  obtain ⟨rfl, q⟩ := h
  obtain ⟨u1, u2, rfl, r1, r2⟩ := vals2 r
  cases (show u1 = Value.ref a from r1)
  cases (show u2 = Value.type "ValueError" from r2)
  obtain ⟨hget, _⟩ := I.pin (a, oe) (List.mem_append.mpr (.inl List.mem_cons_self))
  refine isi_under I.kIn (cls := .ref D) rfl (fun A Q E s k q => wpAny_typeOf_ref (k _ _ hget) (by rw [hz.1]; exact q)) ve_type (PySem.W.looks_subIn I.kIn hs) (fun z => nomatch z) ⟨.bl true, H, I, rfl, q⟩
theorem boot_VE : bootBuiltins "ValueError" = some (.type "ValueError") := by decide +kernel
/-- the suite's exception -/
theorem xs_var (O : Okc X k F c W) {x : Str} {p : Nat × Str} {i : Nat} {a : Addr} {cls : Value} {d : Option Addr} {ε : Exn} {pos} (hx : c.xi = some (i, a, cls, d, ε)) (hp : k.xs = some p) (hv : k.vis p.1 x = true) :
    PE X (.Name x pos) (fun σ H Q => σ[i]? = some (some (.ref a)) ∧ Q (.ref a) H) := by
  obtain ⟨nm, e⟩ := O.xs _ _ _ _ _ hx
  rw [hp] at e
  cases e
  obtain ⟨h1, h2, h3, h4⟩ := O.vis hv
  exact PE.imp (pe_var h1 h2 h3 h4) fun σ H Q ⟨h, q⟩ => ⟨_, h, q⟩
theorem se_xfld (O : Okc X k F c W) {x y : Str} {p : Nat × Str} {f : String} {p1 pos} (hp : k.xs = some p) (hv : k.vis p.1 x = true) (hy : y = Str.ofString f) : PE X (.Attribute (.Name x p1) y pos) (tE c W F (.xfld f)) := by
  refine ⟨fun pins s σ H Q I ⟨ρ, M, Q', E', R, w, g, t⟩ => ?_⟩
  obtain ⟨ε, e1, w⟩ := ob_some w
  obtain ⟨fs, hxf, hmem, w⟩ := ob_some w
  obtain ⟨v, e2, w⟩ := ob_some w
  obtain ⟨i, a, cls, d, hx⟩ := O.cur ε e1
  obtain ⟨X0, pn, oe, rfl, hz, hf⟩ := O.sui i a cls d ε hx
  obtain ⟨hi, hm, hr⟩ := R.xi i a cls d ε hx
  obtain ⟨C, T⟩ := O.xf ε.C fs hxf
  have hm2 := T.at_
  rw [O.mg] at hm
  rw [hm] at hm2
  cases hm2
  subst hy
  refine (pe_xf T.xc (T.no f hmem) hz hf (xs_var O hx hp hv)).run pins s σ H Q I ?_
  rcases hr with hr | ⟨dd, ws, e3, hn, hd, hl⟩
  · rw [hr] at e2; cases e2
  · obtain ⟨u, l, ru⟩ := hl f v e2
    exact ⟨hi, rfl, rfl, dd, ws, u, e3, hd, l, g.now R.mem w ru⟩
theorem se_xisi (O : Okc X k F c W) {x : Str} {p : Nat × Str} {p0 p1 p2 pos} (hp : k.xs = some p) (hv : k.vis p.1 x = true) (hg : k.glo "isinstance" = true) (hy : k.glo "ValueError" = true) :
    PE X (.Call (.Name "isinstance" p0) [.Name x p1, .Name "ValueError" p2] [] pos) (tE c W F .xisi) := by
  refine ⟨fun pins s σ H Q I ⟨ρ, M, Q', E', R, w, g, t⟩ => ?_⟩
  obtain ⟨ε, e1, hxf, w⟩ := ob_some w
  obtain ⟨i, a, cls, d, hx⟩ := O.cur ε e1
  obtain ⟨X0, pn, oe, rfl, hz, hf⟩ := O.sui i a cls d ε hx
  obtain ⟨hi, hm, hr⟩ := R.xi i a cls d ε hx
  obtain ⟨fs, hxf⟩ := Option.isSome_iff_exists.mp hxf
  obtain ⟨C, T⟩ := O.xf ε.C fs hxf
  have hm2 := T.at_
  rw [O.mg] at hm
  rw [hm] at hm2
  cases hm2
  obtain ⟨gl, hdb, hn⟩ := O.glo hg
  obtain ⟨gl2, hdb2, hn2⟩ := O.glo hy
  have as : PA (L2.Cx.suite X0 a ((a, oe) :: pn)) [.Name x p1, .Name "ValueError" p2] _ := pa_cons (xs_var O hx hp hv) (pa_cons (pe_bltn (v := .ty "ValueError") gl2 (O.blt _ (by decide)) boot_VE rfl hn2 hdb2) pa_nil rfl) rfl
  refine (pe_callB (call_isV T.ve hz) gl (O.blt _ (by decide)) boot_isi as hn hdb rfl rfl).run pins s σ H Q I ?_
  exact ⟨hi, rfl, g.now R.mem w rfl⟩
/-! ### every expression -/
/-- as a value and as a test -/
def Both (X : Cx) (c : LC) (W : WX) (F : Sem) (x : Ex) (e : Expr) : Prop := PE X e (tE c W F x) ∧ (isIf e = false → PT X e (tT c W F x))
theorem both {x : Ex} {e : Expr} (h : PE X e (tE c W F x)) (he : ∀ whole, isTrue e X.env whole = (do let v ← whole; standAt e.pos; holding [v] (truthy v))) : Both X c W F x e := ⟨h, fun _ => PT.imp (pt_val h he) fun _ _ _ q => q⟩
theorem band {a b : Bool} (h : (a && b) = true) : a = true ∧ b = true := Bool.and_eq_true_iff.mp h
theorem bnot {a : Bool} (h : (!a) = true) : a = false := by simpa using h
theorem oneCs {cs : List Ex} {ifs : List Expr} {X : Cx} {c : LC} (h : Bs X c W0 F cs ifs) (hl : cs.length ≤ 1) : PTs X ifs (tCs c F cs) := by
  match cs, h with
  | [], h => cases (show ifs = [] from h); exact sts_nil
  | [x], ⟨e, r, q, _, h2, h3⟩ => cases (show r = [] from h3); subst q; exact sts_one h2
  | _ :: _ :: _, _ => simp at hl
/-- each as a value -/
def Ps (X : Cx) (c : LC) (W : WX) (F : Sem) : List Ex → List Expr → Prop
  | [], es => es = []
  | x :: xs, es => ∃ e r, es = e :: r ∧ PE X e (tE c W F x) ∧ Ps X c W F xs r
theorem tg_tup {ts : List Tg} {tg : Expr} {own : List (Str × Nat)} (h : tgOwn (.tu ts) tg = some own) : ∃ elts kk tpos, tg = .Tuple elts kk tpos := by
  cases tg <;> first | (cases h; done) | exact ⟨_, _, _, rfl⟩
theorem tg_tupC {k : Ck} {ts : List Tg} {tg : Expr} (h : chkTg k (.tu ts) tg = true) : ∃ elts kk tpos, tg = .Tuple elts kk tpos := by
  cases tg <;> first | (cases h; done) | exact ⟨_, _, _, rfl⟩
theorem sI (O : Okc X k F c W) {ik : Ik} {t : Tg} {tg it : Expr} {es : List Ex} {as : List Expr} (h : itArgs k ik it = some as) (ht : tupTg ik t = true) (hp : Ps X c W F es as) (ha : PA X as (tA c W F es)) (hs : noStars as = true) (hl : es.length = as.length) (htg : ∀ ts, t = .tu ts → ∃ elts kk tpos, tg = .Tuple elts kk tpos) :
    PI X tg it (tI c W F ik es) ∧ isSet it = false := by
  cases ik with
  | seq =>
    simp only [itArgs] at h
    split at h
    · cases h
    · rename_i hn
      cases h
      have hn : isSet it = false ∧ isStar it = false := by simpa using hn
      match es, hp with
      | [x], ⟨e, r, q, h1, h2⟩ => cases q; exact ⟨si_seq h1, hn.1⟩
      | [], q => cases q
      | _ :: _ :: _, ⟨e, r, q, h1, e2, r2, q2, _⟩ => cases q; cases q2
  | rng =>
    simp only [itArgs] at h
    split at h <;> first | (cases h; done) | skip
    split at h <;> first | (cases h; done) | skip
    rename_i hc
    cases h
    obtain ⟨hc, h3⟩ := band hc
    obtain ⟨hc, h2⟩ := band hc
    obtain ⟨h0, h1⟩ := band hc
    cases (beq_iff_eq.mp h1)
    exact ⟨si_rng O h0 ha hs (of_decide_eq_true h2) (of_decide_eq_true h3) hl, rfl⟩
  | enm =>
    cases t with
    | nm i => cases ht
    | tu ts =>
      simp only [itArgs] at h
      split at h <;> first | (cases h; done) | skip
      split at h <;> first | (cases h; done) | skip
      rename_i hc
      cases h
      obtain ⟨hc, h2⟩ := band hc
      obtain ⟨h0, h1⟩ := band hc
      cases (beq_iff_eq.mp h1)
      have h2 := of_decide_eq_true h2
      match as, es, h2, hl with
      | [a], [x], _, _ => exact ⟨si_enm O (htg ts rfl) h0 ha hs, rfl⟩
  | zip => cases t <;> cases ht
mutual
theorem sE : ∀ (x : Ex) {X : Cx} {k : Ck} {c : LC} {W : WX} (_ : Okc X k F c W) {e : Expr}, chkE k x e = true → Both X c W F x e
  | .var i, X, k, c, W, O, e, h => by
    unfold chkE at h
    split at h <;> first | (cases h; done) | skip
    exact both (se_var O h) fun _ => rfl
  | .int i, X, k, c, W, O, e, h => by
    unfold chkE at h
    split at h <;> first | (cases h; done) | skip
    cases (beq_iff_eq.mp h)
    exact both se_int fun _ => rfl
  | .str i, X, k, c, W, O, e, h => by
    unfold chkE at h
    split at h <;> first | (cases h; done) | skip
    cases (beq_iff_eq.mp h)
    exact both se_str fun _ => rfl
  | .bl i, X, k, c, W, O, e, h => by
    unfold chkE at h
    split at h <;> first | (cases h; done) | skip
    cases (beq_iff_eq.mp h)
    exact both se_bl fun _ => rfl
  | .non, X, k, c, W, O, e, h => by
    unfold chkE at h
    split at h <;> first | (cases h; done) | skip
    exact both se_non fun _ => rfl
  | .glb _, X, k, c, W, O, e, h => by
    unfold chkE at h
    split at h <;> first | (cases h; done) | skip
    obtain ⟨h1, h2⟩ := band h
    exact both (se_glb O h1 (beq_iff_eq.mp h2)) fun _ => rfl
  | .tup es, X, k, c, W, O, e, h => by
    unfold chkE at h
    split at h <;> first | (cases h; done) | skip
    obtain ⟨h1, h2⟩ := band h
    exact both (se_tup (sEs es O h1).1 (of_decide_eq_true h2)) fun _ => rfl
  | .lst m es, X, k, c, W, O, e, h => by
    unfold chkE at h
    split at h <;> first | (cases h; done) | skip
    obtain ⟨h1, h2⟩ := band h
    exact both (se_lst (sEs es O h1).1 (of_decide_eq_true h2)) fun _ => rfl
  | .dnew m t kvs, X, k, c, W, O, e, h => by
    unfold chkE at h
    split at h <;> first | (cases h; done) | skip
    cases kvs with
    | nil => exact both se_dnew fun _ => rfl
    | cons _ _ => cases h
  | .bin o a b, X, k, c, W, O, e, h => by
    unfold chkE at h
    split at h <;> first | (cases h; done) | skip
    obtain ⟨h, h3⟩ := band h
    obtain ⟨h1, h2⟩ := band h
    cases (eqOp_ok h1)
    exact both (se_bin (sE a O h2).1 (sE b O h3).1) fun _ => rfl
  | .neg a, X, k, c, W, O, e, h => by
    unfold chkE at h
    split at h <;> first | (cases h; done) | skip
    exact both (se_neg (sE a O h).1) fun _ => rfl
  | .cmp o a b, X, k, c, W, O, e, h => by
    unfold chkE at h
    split at h <;> first | (cases h; done) | skip
    obtain ⟨h, h3⟩ := band h
    obtain ⟨h, h2⟩ := band h
    obtain ⟨h0, h1⟩ := band h
    cases (eqCop_ok h0)
    exact ⟨se_cmp O (sE a O h2).1 (sE b O h3).1 (bnot h1), fun _ => st_cmp O (sE a O h2).1 (sE b O h3).1 (bnot h1)⟩
  | .chain o o2 a b d, X, k, c, W, O, e, h => by
    unfold chkE at h
    split at h <;> first | (cases h; done) | skip
    obtain ⟨h, h5⟩ := band h
    obtain ⟨h, h4⟩ := band h
    obtain ⟨h, h3⟩ := band h
    obtain ⟨h, h2⟩ := band h
    obtain ⟨h0, h1⟩ := band h
    cases (eqCop_ok h0)
    cases (eqCop_ok h1)
    exact ⟨se_chain O (sE a O h3).1 (sE b O h4).1 (sE d O h5).1 (bnot h2), fun _ => st_chain O (sE a O h3).1 (sE b O h4).1 (sE d O h5).1 (bnot h2)⟩
  | .isN n a, X, k, c, W, O, e, h => by
    unfold chkE at h
    split at h <;> first | (cases h; done) | skip
    obtain ⟨h1, h2⟩ := band h
    have ha := (sE a O h2).1
    split at h1
    · cases (bnot h1)
      exact ⟨pe_cmp (sc_isN ha) rfl, fun _ => PT.imp (pt_cmp (sc_isN ha) rfl) fun _ _ _ q => q⟩
    · cases h1
      exact ⟨pe_cmp (sc_notN ha) rfl, fun _ => PT.imp (pt_cmp (sc_notN ha) rfl) fun _ _ _ q => q⟩
    · cases h1
  | .and es, X, k, c, W, O, e, h => by
    unfold chkE at h
    split at h <;> first | (cases h; done) | skip
    obtain ⟨h1, h2⟩ := band h
    have hne : es ≠ [] := by rintro rfl; cases h2
    have hb := sBs es O h1
    exact ⟨se_and hb hne, fun _ => (sw_and hb hne).pt⟩
  | .or es, X, k, c, W, O, e, h => by
    unfold chkE at h
    split at h <;> first | (cases h; done) | skip
    obtain ⟨h1, h2⟩ := band h
    have hne : es ≠ [] := by rintro rfl; cases h2
    have hb := sBs es O h1
    exact ⟨se_or hb hne, fun _ => (sw_or hb hne).pt⟩
  | .not a, X, k, c, W, O, e, h => by
    unfold chkE at h
    split at h <;> first | (cases h; done) | skip
    obtain ⟨h1, h2⟩ := band h
    exact ⟨se_not (sE a O h1).1, fun _ => st_not ((sE a O h1).2 (bnot h2))⟩
  | .ifx d a b, X, k, c, W, O, e, h => by
    unfold chkE at h
    split at h <;> first | (cases h; done) | skip
    obtain ⟨h, h4⟩ := band h
    obtain ⟨h, h3⟩ := band h
    obtain ⟨h1, h2⟩ := band h
    exact ⟨se_ifx ((sE d O h1).2 (bnot h2)) (sE a O h3).1 (sE b O h4).1, fun z => nomatch z⟩
  | .sub a i, X, k, c, W, O, e, h => by
    unfold chkE at h
    split at h <;> first | (cases h; done) | skip
    obtain ⟨h, h3⟩ := band h
    obtain ⟨h1, h2⟩ := band h
    exact both (se_sub O h1 (sE a O h2).1 (sE i O h3).1) fun _ => rfl
  | .slc a lo hi, X, k, c, W, O, e, h => by
    unfold chkE at h
    split at h <;> first | (cases h; done) | skip
    obtain ⟨h, h3⟩ := band h
    obtain ⟨h1, h2⟩ := band h
    exact both (se_slc (sE a O h1).1 (sO lo O h2) (sO hi O h3)) fun _ => rfl
  | .rev a, X, k, c, W, O, e, h => by
    unfold chkE at h
    split at h <;> first | (cases h; done) | skip
    obtain ⟨h1, h2⟩ := band h
    cases (of_decide_eq_true h1)
    exact both (se_rev (sE a O h2).1) fun _ => rfl
  | .fld _ _, X, k, c, W, O, e, h => by cases h
  | .call f es, X, k, c, W, O, e, h => by
    unfold chkE at h
    split at h <;> first | (cases h; done) | skip
    rename_i xn q1 es' q2
    obtain ⟨h, h5⟩ := band h
    obtain ⟨h, h4⟩ := band h
    obtain ⟨h, h3⟩ := band h
    obtain ⟨h1, h2⟩ := band h
    split at h3
    · rename_i p hp
      cases (beq_iff_eq.mp h3)
      obtain ⟨p1, p2, p3, _⟩ := sEs es O h4
      cases es' with
      | nil =>
        cases es with
        | nil => cases h5
        | cons _ _ => simp at p3
      | cons e1 es' =>
        obtain ⟨q1, q2⟩ := band (show (!isStar e1 && noStars es') = true from p2)
        exact both (se_call O (bnot h1) h2 hp p1 (bnot q1) q2) fun _ => rfl
    · cases h3
  | .mk _ _, X, k, c, W, O, e, h => by cases h
  | .bi b m es, X, k, c, W, O, e, h => by
    unfold chkE at h
    split at h <;> first | (cases h; done) | skip
    rename_i xn q1 es' q2
    obtain ⟨h, h6⟩ := band h
    obtain ⟨h, h5⟩ := band h
    obtain ⟨h, h4⟩ := band h
    obtain ⟨h, h3⟩ := band h
    obtain ⟨h1, h2⟩ := band h
    cases (beq_iff_eq.mp h4)
    obtain ⟨p1, p2, p3, _⟩ := sEs es O h5
    cases es' with
    | nil =>
      cases es with
      | nil => cases h6
      | cons _ _ => simp at p3
    | cons e1 es' =>
      obtain ⟨q1, q2⟩ := band (show (!isStar e1 && noStars es') = true from p2)
      exact both (se_bi O (bnot h1) h2 h3 p1 (bnot q1) q2) fun _ => rfl
  | .mth m a es, X, k, c, W, O, e, h => by
    unfold chkE at h
    split at h <;> first | (cases h; done) | skip
    obtain ⟨h, h7⟩ := band h
    obtain ⟨h, h6⟩ := band h
    obtain ⟨h, h5⟩ := band h
    obtain ⟨h, h4⟩ := band h
    obtain ⟨h, h3⟩ := band h
    obtain ⟨h, h2⟩ := band h
    obtain ⟨h0, h1⟩ := band h
    cases (beq_iff_eq.mp h2)
    obtain ⟨p1, p2, p3, _⟩ := sEs es O h6
    exact both (se_mth O h1 (sE a O h5).1 p1 (bnot h4) p2 (by rw [← p3]; exact of_decide_eq_true h7) h3 (fun z => by subst z; exact List.length_eq_zero_iff.mp p3)) fun _ => rfl
  | .omth _ _ _ _, X, k, c, W, O, e, h => by cases h
  | .isi a ts, X, k, c, W, O, e, h => by
    unfold chkE at h
    split at h <;> first | (cases h; done) | skip
    obtain ⟨h, h5⟩ := band h
    obtain ⟨h, h4⟩ := band h
    obtain ⟨h, h3⟩ := band h
    obtain ⟨h1, h2⟩ := band h
    cases (beq_iff_eq.mp h2)
    split at h5 <;> first | (cases h5; done) | skip
    · obtain ⟨h6, h7⟩ := band h5
      cases (beq_iff_eq.mp h7)
      exact both (se_isi O h1 h6 (bnot h3) (sE a O h4).1) fun _ => rfl
    · obtain ⟨h5, h9⟩ := band h5
      obtain ⟨h5, h8⟩ := band h5
      obtain ⟨h6, h7⟩ := band h5
      cases (beq_iff_eq.mp h7)
      cases (beq_iff_eq.mp h9)
      exact both (se_isi2 O h1 h6 h8 (bnot h3) (sE a O h4).1) fun _ => rfl
  | .comp m e1 t ik es cs, X, k, c, W, O, e, h => by
    unfold chkE at h
    split at h <;> first | (cases h; done) | skip
    obtain ⟨h, h7⟩ := band h
    obtain ⟨h, h6⟩ := band h
    obtain ⟨h, h5⟩ := band h
    obtain ⟨h, h4⟩ := band h
    obtain ⟨h, h3⟩ := band h
    obtain ⟨h1, h2⟩ := band h
    split at h2 <;> first | (cases h2; done) | skip
    rename_i as has
    split at h4 <;> first | (cases h4; done) | skip
    rename_i own hown
    obtain ⟨h8, h9⟩ := band h4
    obtain ⟨p1, p2, p3, p4⟩ := sEs es O h2
    obtain ⟨q1, q2⟩ := sI (t := t) O has h3 p4 p1 p2 p3 fun ts et => tg_tup (own := own) (by rw [← et]; exact hown)
    exact both (se_comp O (bnot h1) q1 hown h8 q2 fun X' c' O' => ⟨sg O' h9, oneCs (sBs cs O' h5) (of_decide_eq_true h6), (sE e1 O' h7).1⟩) fun _ => rfl
  | .lam _, X, k, c, W, O, e, h => by cases h
  | .clo i, X, k, c, W, O, e, h => by
    unfold chkE at h
    split at h <;> first | (cases h; done) | skip
    obtain ⟨h, h4⟩ := band h
    obtain ⟨h, h3⟩ := band h
    obtain ⟨h1, h2⟩ := band h
    cases (of_decide_eq_true h3)
    exact both (se_clo O (bnot h1) h2 h4) fun _ => rfl
  | .lcall f l ss, X, k, c, W, O, e, h => by
    unfold chkE at h
    split at h <;> first | (cases h; done) | skip
    obtain ⟨h, h6⟩ := band h
    obtain ⟨h, h5⟩ := band h
    obtain ⟨h, h4⟩ := band h
    obtain ⟨h, h3⟩ := band h
    obtain ⟨h1, h2⟩ := band h
    split at h3
    · rename_i y hy
      cases (beq_iff_eq.mp h3)
      exact both (se_lcall O (bnot h1) h2 hy h4 h5 h6) fun _ => rfl
    · cases h3
  | .rep m a b, X, k, c, W, O, e, h => by
    unfold chkE at h
    split at h <;> first | (cases h; done) | skip
    obtain ⟨h1, h2⟩ := band h
    exact both (se_rep O (sE a O h1).1 (sE b O h2).1) fun _ => rfl
  | .lens a, X, k, c, W, O, e, h => by
    unfold chkE at h
    split at h <;> first | (cases h; done) | skip
    obtain ⟨h, h7⟩ := band h
    obtain ⟨h, h6⟩ := band h
    obtain ⟨h, h5⟩ := band h
    obtain ⟨h, h4⟩ := band h
    obtain ⟨h, h3⟩ := band h
    obtain ⟨h1, h2⟩ := band h
    cases (beq_iff_eq.mp h3)
    cases (beq_iff_eq.mp h5)
    exact both (se_lens O (bnot h1) h2 h4 (sE a O h6).1 (bnot h7)) fun _ => rfl
  | .srts m a, X, k, c, W, O, e, h => by
    unfold chkE at h
    split at h <;> first | (cases h; done) | skip
    obtain ⟨h, h7⟩ := band h
    obtain ⟨h, h6⟩ := band h
    obtain ⟨h, h5⟩ := band h
    obtain ⟨h, h4⟩ := band h
    obtain ⟨h, h3⟩ := band h
    obtain ⟨h1, h2⟩ := band h
    cases (beq_iff_eq.mp h3)
    cases (beq_iff_eq.mp h5)
    exact both (se_srts O (bnot h1) h2 h4 (sE a O h6).1 (bnot h7)) fun _ => rfl
  | .xfld f, X, k, c, W, O, e, h => by
    unfold chkE at h
    split at h <;> first | (cases h; done) | skip
    obtain ⟨h1, h2⟩ := band h
    split at h1
    · rename_i p hp
      obtain ⟨h3, h4⟩ := band h1
      cases (beq_iff_eq.mp h3)
      exact both (se_xfld O hp h4 (beq_iff_eq.mp h2)) fun _ => rfl
    · cases h1
  | .xisi, X, k, c, W, O, e, h => by
    unfold chkE at h
    split at h <;> first | (cases h; done) | skip
    obtain ⟨h, h5⟩ := band h
    obtain ⟨h, h4⟩ := band h
    obtain ⟨h, h3⟩ := band h
    obtain ⟨h1, h2⟩ := band h
    cases (beq_iff_eq.mp h3)
    cases (beq_iff_eq.mp h5)
    split at h1
    · rename_i p hp
      obtain ⟨h6, h7⟩ := band h1
      cases (beq_iff_eq.mp h6)
      exact both (se_xisi O hp h7 h2 h4) fun _ => rfl
    · cases h1
  | .fstr _, X, k, c, W, O, e, h => by cases h
theorem sEs : ∀ (xs : List Ex) {X : Cx} {k : Ck} {c : LC} {W : WX} (_ : Okc X k F c W) {es : List Expr}, chkEs k xs es = true → PA X es (tA c W F xs) ∧ noStars es = true ∧ xs.length = es.length ∧ Ps X c W F xs es
  | [], X, k, c, W, O, [], h => ⟨sa_nil, rfl, rfl, rfl⟩
  | [], _, _, _, _, _, _ :: _, h => by cases h
  | _ :: _, _, _, _, _, _, [], h => by cases h
  | x :: xs, X, k, c, W, O, e :: es, h => by
    unfold chkEs at h
    obtain ⟨h, h3⟩ := band h
    obtain ⟨h1, h2⟩ := band h
    obtain ⟨p1, p2, p3, p4⟩ := sEs xs O h3
    have hx := (sE x O h1).1
    exact ⟨sa_cons hx p1 (star_cons (bnot h2)), by unfold noStars at p2 ⊢; rw [List.all_cons, h2, p2] <;> rfl, by simp [p3], e, es, rfl, hx, p4⟩
theorem sBs : ∀ (xs : List Ex) {X : Cx} {k : Ck} {c : LC} {W : WX} (_ : Okc X k F c W) {es : List Expr}, chkBs k xs es = true → Bs X c W F xs es
  | [], X, k, c, W, O, [], h => rfl
  | [], _, _, _, _, _, _ :: _, h => by cases h
  | _ :: _, _, _, _, _, _, [], h => by cases h
  | x :: xs, X, k, c, W, O, e :: es, h => by
    unfold chkBs at h
    obtain ⟨h, h3⟩ := band h
    obtain ⟨h1, h2⟩ := band h
    have hx := sE x O h1
    exact ⟨e, es, rfl, hx.1, hx.2 (bnot h2), sBs xs O h3⟩
theorem sO : ∀ (x : Option Ex) {X : Cx} {k : Ck} {c : LC} {W : WX} (_ : Okc X k F c W) {e : Option Expr}, chkO k x e = true → PO X e (tO c W F x)
  | none, X, k, c, W, O, none, h => so_none
  | none, _, _, _, _, _, some _, h => by cases h
  | some _, _, _, _, _, _, none, h => by cases h
  | some x, X, k, c, W, O, some e, h => so_some (sE x O h).1
end
end
end Dee

set_option Elab.async false
set_option linter.all false
set_option autoImplicit false
set_option maxRecDepth 100000
set_option maxHeartbeats 1000000
/-! Dee: statements. -/
namespace Dee
open PySem PySem.Spec PyProof.Rows L2
/-- the ends of a statement -/
structure EO (c : LC) (W : WX) (M : Mem) (H : Hp) (D' : Dee.Ends) (D : L2.Ends) : Prop where
  nx : ∀ ρ' M' σ' H', D'.nx ρ' M' → Mono M H M' H' → Rp c ρ' M' σ' H' → D.nx σ' H'
  rt : ∀ d M' v H', D'.rt d M' → Mono M H M' H' → MRep c.mg M' H' → Rep c.mg M' H' d v → D.rt v H'
  bk : ∀ ρ' M' σ' H', D'.bk ρ' M' → Mono M H M' H' → Rp c ρ' M' σ' H' → D.bk σ' H'
  ct : ∀ ρ' M' σ' H', D'.ct ρ' M' → Mono M H M' H' → Rp c ρ' M' σ' H' → D.ct σ' H'
  ex : ∀ ε ρ' M' cls d σ' H', D'.ex ε ρ' M' → Mono M H M' H' → Rp c ρ' M' σ' H' → RepX c M' H' ε cls d → W cls d σ' H'
theorem EO.mono {c : LC} {W : WX} {M M1 : Mem} {H H1 : Hp} {D' : Dee.Ends} {D : L2.Ends} (g : EO c W M H D' D) (m : Mono M H M1 H1) : EO c W M1 H1 D' D :=
  ⟨fun _ _ _ _ q m1 => g.nx _ _ _ _ q (m.trans m1), fun _ _ _ _ q m1 => g.rt _ _ _ _ q (m.trans m1), fun _ _ _ _ q m1 => g.bk _ _ _ _ q (m.trans m1), fun _ _ _ _ q m1 => g.ct _ _ _ _ q (m.trans m1), fun _ _ _ _ _ _ _ q m1 => g.ex _ _ _ _ _ _ _ q (m.trans m1)⟩
theorem EO.thr {c : LC} {W : WX} {M : Mem} {H : Hp} {D' : Dee.Ends} {D : L2.Ends} {ρ : Env} {σ : L2.St} (g : EO c W M H D' D) (R : Rp c ρ M σ H) : Throws c (fun cls d H' => W cls d σ H') M H (D'.x ρ) :=
  fun ε M' cls d H' q m mr rx => g.ex ε ρ M' cls d σ H' q m (R.mono m mr) rx
def tS (c : LC) (W : WX) (F : Sem) (s : St) : TS := fun D σ H => ∃ ρ M D', Rp c ρ M σ H ∧ wS F s ρ M D' ∧ EO c W M H D' D
def tSs (c : LC) (W : WX) (F : Sem) (s : List St) : TS := fun D σ H => ∃ ρ M D', Rp c ρ M σ H ∧ wSs F s ρ M D' ∧ EO c W M H D' D
theorem PS.imp {X : Cx} {e : Stmt} {t t' : TS} (h : PS X e t) (i : ∀ D σ H, t' D σ H → t D σ H) : PS X e t' := ⟨fun pins s σ H D I q => h.run pins s σ H D I (i _ _ _ q)⟩
theorem PSs.imp {X : Cx} {e : List Stmt} {t t' : TS} (h : PSs X e t) (i : ∀ D σ H, t' D σ H → t D σ H) : PSs X e t' := ⟨fun pins s σ H D I q => h.run pins s σ H D I (i _ _ _ q)⟩
structure OkS (X : Cx) (k : Ck) (F : Sem) (c : LC) (W : WX) : Prop where
  O : Okc X k F c W
  kind : X.env.scope.kind = .function
  po : k.hot = false → PassesOwn (model X.prog X.w) X.A X.env X.xe
  stk : k.hot = false → X.stack = X.env :: X.outer ∧ X.env.frame = some X.env.locals
section
variable {X : Cx} {k : Ck} {F : Sem} {c : LC} {W : WX}
theorem noComp_swaps {e : Expr} {t : Option Expr} {l : Nat} {env : PySem.Env} (h : noComp e = true) : swapsWith e t l env = pure false := by
  cases e <;> first | rfl | cases h
theorem sole_ok {t e : Expr} {l : Nat} {env : PySem.Env} (h : noComp e = true) : swapsWithSole [t] e l env = pure false := by
  cases e <;> first | rfl | cases h
theorem noSwap_st {t e : Expr} {env : PySem.Env} (h : noSwap t e = true) : swappedStores [t] e env = pure none := by
  cases t <;> cases e <;> first | rfl | (cases h; done) | skip
  rename_i ts _ _ vs _ _
  have h : (!(ts.length == 2 || ts.length == 3) || vs.all (foldedForSure 8)) = true := h
  rw [Bool.or_eq_true] at h
  unfold swappedStores
  dsimp only
  rcases h with h | h
  · rw [if_pos (by rw [h] <;> rfl)]
  · simp only [h, if_true]
    split
    · rfl
    · split
      · rfl
      · split <;> rfl
theorem ss_nil : PSs X [] (tSs c W F []) := PSs.imp pss_nil fun D σ H ⟨ρ, M, D', R, w, g⟩ => g.nx ρ M σ H w (Mono.refl _ _) R
theorem ss_cons {s : Stmt} {ss : List Stmt} {x : St} {xs : List St} (h1 : PS X s (tS c W F x)) (h2 : PSs X ss (tSs c W F xs)) : PSs X (s :: ss) (tSs c W F (x :: xs)) := by
  refine PSs.imp (pss_cons h1 h2) fun D σ H ⟨ρ, M, D', R, w, g⟩ => ?_
  exact ⟨ρ, M, _, R, w, ⟨fun ρ' M' σ' H' q m R' => ⟨ρ', M', D', R', q, g.mono m⟩, g.rt, g.bk, g.ct, g.ex⟩⟩
theorem st_ret {e : Expr} {x : Ex} {pos} (h : PE X e (tE c W F x)) : PS X (.Return (some e) pos) (tS c W F (.ret x)) :=
  PS.imp (ps_ret h) fun D σ H ⟨ρ, M, D', R, w, g⟩ => ⟨ρ, M, D'.rt, _, R, w, fun d M' v H' q m mr r => g.rt d M' v H' q m mr r, g.thr R⟩
theorem st_retN {pos} : PS X (.Return none pos) (tS c W F .retN) := PS.imp ps_retN fun D σ H ⟨ρ, M, D', R, w, g⟩ => g.rt .non M .non H w (Mono.refl _ _) R.mem rfl
theorem st_brk {pos} : PS X (.Break pos) (tS c W F .brk) := PS.imp ps_break fun D σ H ⟨ρ, M, D', R, w, g⟩ => g.bk ρ M σ H w (Mono.refl _ _) R
theorem st_cont {pos} : PS X (.Continue pos) (tS c W F .cont) := PS.imp ps_continue fun D σ H ⟨ρ, M, D', R, w, g⟩ => g.ct ρ M σ H w (Mono.refl _ _) R
theorem st_pass {pos} : PS X (.Pass pos) (tS c W F .pass) := PS.imp ps_pass fun D σ H ⟨ρ, M, D', R, w, g⟩ => g.nx ρ M σ H w (Mono.refl _ _) R
theorem st_expr {e : Expr} {x : Ex} {pos} (h : PE X e (tE c W F x)) (hn : noComp e = true) : PS X (.Expr e pos) (tS c W F (.expr x)) :=
  PS.imp (ps_expr h (noComp_swaps hn)) fun D σ H ⟨ρ, M, D', R, w, g⟩ => tE_bind R w (g.thr R) fun d M1 v H1 w1 m1 R1 _ => g.nx ρ M1 σ H1 w1 m1 R1
theorem st_asg0 {tg e : Expr} {t : Tg} {x : Ex} {pos : Pos} (hg : PG X tg (tG c t)) (hc : ∀ env : PySem.Env, assignEach [tg] env = [(false, assign tg env)]) (h : PE X e (tE c W F x)) (hn : swapsWithSole [tg] e pos.line X.env = pure false) (hs : swappedStores [tg] e X.env = pure none) : PS X (.Assign [tg] e pos) (tS c W F (.asg t x)) := by
  refine PS.imp (ps_asg h hg hn hs (by rw [hc] <;> rfl)) fun D σ H ⟨ρ, M, D', R, w, g⟩ => ?_
  exact tE_bind R w (g.thr R) fun d M1 v H1 w1 m1 R1 r1 => ⟨ρ, M1, d, _, R1, r1, w1, fun ρ' σ' w' R' _ => g.nx ρ' M1 σ' H1 w' m1 R'⟩
theorem st_asg {tg e : Expr} {t : Tg} {x : Ex} {pos} (hg : PG X tg (tG c t)) (hc : ∀ env : PySem.Env, assignEach [tg] env = [(false, assign tg env)]) (h : PE X e (tE c W F x)) (hn : noComp e = true) (hs : noSwap tg e = true) : PS X (.Assign [tg] e pos) (tS c W F (.asg t x)) :=
  st_asg0 hg hc h (noComp_swaps hn) (noSwap_st hs)
theorem lcNo_ok (O : Okc X k F c W) {tg e : Expr} {l : Nat} (h : lcNo k tg e = true) : swapsWithSole [tg] e l X.env = pure false := by
  unfold lcNo at h
  split at h <;> first | (cases h; done) | skip
  rename_i y py a b sc q
  have z : (X.env.kindOf y == some NameKind.local) = false := by
    show (X.env.scope.names.lookup y == some NameKind.local) = false
    rw [O.sc]
    unfold locK at h
    split at h
    · cases h
    · rename_i n
      rw [beq_eq_false_iff_ne]
      exact n
  unfold swapsWithSole swapsWith
  simp [z]
theorem noSwapK_ok (O : Okc X k F c W) {tg e : Expr} (h : noSwapK k tg e = true) : swappedStores [tg] e X.env = pure none := by
  unfold noSwapK at h
  split at h <;> first | (cases h; done) | skip
  rename_i ts kt pt vs k2 pt2
  obtain ⟨t, ht, hx⟩ := List.any_eq_true.mp h
  unfold swappedStores
  dsimp only
  split
  · rfl
  · split
    · rfl
    · rename_i n1 n2
      have key : ∀ (l : List Expr) (f : Expr → Option Str), t ∈ l → f t = none → (l.filterMap f).length ≠ l.length := fun l f hm hf e => by
        have := List.filterMap_length_eq_length.mp e t hm
        rw [hf] at this
        cases this
      rw [if_pos]
      · rw [Bool.or_eq_true]
        refine .inl ?_
        rw [bne_iff_ne]
        refine key ts _ ht ?_
        split at hx
        · rename_i x px
          have z : (X.env.kindOf x == some NameKind.local) = false := by
            show (X.env.scope.names.lookup x == some NameKind.local) = false
            rw [O.sc]
            unfold locK at hx
            split at hx
            · cases hx
            · rename_i n
              rw [beq_eq_false_iff_ne]
              exact n
          simp [z]
        · cases hx
theorem st_asub (O : Okc X k F c W) {o i e : Expr} {x y z : Ex} {p1 pos} (hs : noSlice i = true) (hn : noComp e = true) (ho : PE X o (tE c W F x)) (hi : PE X i (tE c W F y)) (h : PE X e (tE c W F z)) : PS X (.Assign [.Subscript o i p1] e pos) (tS c W F (.asub x y z)) := by
  have ha : ∀ v, assign (.Subscript o i p1) X.env v = (do
      let ov ← holding [v] (eval o X.env)
      let iv ← holding [v, ov] (eval i X.env)
      standAt p1
      holding [v, ov, iv] (setItem ov iv v)
      release [v, ov, iv] []) := fun v => by cases i <;> first | rfl | cases hs
  refine PS.imp (ps_asg h (pg_sub ho hi (set_all (c := c) O.un) ha) (sole_ok hn) (by cases e <;> rfl) rfl) fun D σ H ⟨ρ, M, D', R, w, g⟩ => ?_
  refine tE_bind R w (g.thr R) fun d1 M1 v1 H1 w1 m1 R1 r1 => tE_bind R1 w1 ((g.thr R).mono m1) fun d2 M2 v2 H2 w2 m2 R2 r2 => tE_bind R2 w2 (((g.thr R).mono m1).mono m2) fun d3 M3 v3 H3 w3 m3 R3 r3 => ?_
  exact ⟨d2, d3, d1, M3, _, R3.mem, r2.mono m3, r3, (r1.mono m2).mono m3, w3, fun M' H' q m mr => g.nx ρ M' σ H' q (((m1.trans m2).trans m3).trans m) (R3.mono m mr)⟩
theorem st_if {d : Expr} {a b : List Stmt} {x : Ex} {xs ys : List St} {pos} (hd : PT X d (tT c W F x)) (ha : PSs X a (tSs c W F xs)) (hb : PSs X b (tSs c W F ys)) : PS X (.If d a b pos) (tS c W F (.ifs x xs ys)) := by
  refine PS.imp (ps_if hd ha hb) fun D σ H ⟨ρ, M, D', R, w, g⟩ => ?_
  refine tT_bind R w (g.thr R) fun b M1 H1 q m1 R1 => ?_
  cases b with
  | true => exact ⟨ρ, M1, D', R1, q, g.mono m1⟩
  | false => exact ⟨ρ, M1, D', R1, q, g.mono m1⟩
theorem st_for (hp : PassesOwn (model X.prog X.w) X.A X.env X.xe) (hc : X.calm = true) {tg it : Expr} {b : List Stmt} {t : Tg} {ik : Ik} {es : List Ex} {xs : List St} {pos} (hi : PI X tg it (tI c W F ik es)) (hg : PG X tg (tG c t)) (hb : PSs X b (tSs c W F xs)) (hs : isSet it = false) :
    PS X (.For tg it b [] pos) (tS c W F (.for t ik es xs)) := by
  have fs : ∀ x, foldedSetIterable it X.env x = pure x := fun x => by cases it <;> first | rfl | cases hs
  refine PS.imp (ps_for hp hc hi hg hb fs) fun D σ H ⟨ρ, M, D', R, w, g⟩ => ?_
  refine ⟨ρ, M, _, _, R, w, fun ds M1 H1 J q m1 mr1 wk => ?_, g.thr R⟩
  have R1 := R.mono m1 mr1
  obtain ⟨turn, hturn⟩ : ∃ turn : Dee.D → Env → Mem → (Env → Mem → Prop) → Prop, turn = fun x σ M R => wTg t x σ fun σ1 => wSs F xs σ1 M { D' with nx := R, ct := R, bk := D'.nx } := ⟨_, rfl⟩
  rw [← hturn] at q
  refine ⟨fun i n σ H => n = ds.length - i ∧ i ≤ ds.length ∧ ∃ ρ M, forL turn D'.nx (ds.drop i) ρ M ∧ Mono M1 H1 M H ∧ Rp c ρ M σ H, ⟨ds.length, by simp, Nat.zero_le _, ρ, M1, by rw [List.drop_zero]; exact q, Mono.refl _ _, R1⟩, ?_⟩
  rintro i n σ2 H2 ⟨rfl, hi2, ρ2, M2, q2, mo2, R2⟩
  by_cases hlt : i < ds.length
  · obtain ⟨d, hd⟩ : ∃ d, ds[i]? = some d := ⟨ds[i], List.getElem?_eq_getElem hlt⟩
    have hdrop : ds.drop i = d :: ds.drop (i + 1) := by
      rw [List.drop_eq_getElem_cons hlt]
      rw [List.getElem?_eq_getElem hlt] at hd
      cases hd
      rfl
    rw [hdrop] at q2
    refine .inr ⟨wk.go _ i M2 H2 mo2.keeps hlt, fun σ' H' => ds.length - (i + 1) = ds.length - (i + 1) ∧ i + 1 ≤ ds.length ∧ ∃ ρ M, forL turn D'.nx (ds.drop (i + 1)) ρ M ∧ Mono M1 H1 M H' ∧ Rp c ρ M σ' H',
      fun σ' H' h' => ⟨ds.length - (i + 1), by omega, h'⟩, fun x H3 y => ?_⟩
    obtain ⟨hH3, rx⟩ := wk.yld _ i M2 H2 x H3 mo2.keeps R2.mem y d hd
    have mo3 : Mono M2 H2 M2 H3 ∧ MRep c.mg M2 H3 := by
      rcases hH3 with rfl | ⟨p, us, hp, rfl⟩
      · exact ⟨Mono.refl _ _, R2.mem⟩
      · exact ⟨Mono.new hp, R2.mem.new hp⟩
    obtain ⟨mo3, mr3⟩ := mo3
    have q3 : turn d ρ2 M2 fun σ1 M1 => forL turn D'.nx (ds.drop (i + 1)) σ1 M1 := q2
    rw [hturn] at q3
    refine ⟨ρ2, M2, d, _, R2.mono mo3 mr3, rx, q3, fun ρ4 σ4 w4 R4 _ => ?_⟩
    rw [← hturn] at w4
    have gm := g.mono (m1.trans (mo2.trans mo3))
    refine ⟨ρ4, M2, _, R4, w4, ⟨fun ρ' M' σ' H' q m R' => ⟨rfl, hlt, ρ', M', q, (mo2.trans mo3).trans m, R'⟩, gm.rt, gm.nx, fun ρ' M' σ' H' q m R' => ⟨rfl, hlt, ρ', M', q, (mo2.trans mo3).trans m, R'⟩, gm.ex⟩⟩
  · have hie : i = ds.length := by omega
    subst hie
    rw [List.drop_length] at q2
    exact .inl ⟨wk.stop _ _ M2 H2 mo2.keeps (Nat.le_refl _), g.nx ρ2 M2 σ2 H2 q2 (m1.trans mo2) R2⟩
theorem st_whl (hp : PassesOwn (model X.prog X.w) X.A X.env X.xe) {d : Expr} {b : List Stmt} {x : Ex} {xs : List St} {pos} (hd : PT X d (tT c W F x)) (hb : PSs X b (tSs c W F xs)) : PS X (.While d b [] pos) (tS c W F (.whl x xs)) := by
  refine PS.imp (ps_while hp hd hb) fun D σ H ⟨ρ, M, D', R, ⟨n, w⟩, g⟩ => ?_
  obtain ⟨test, htest⟩ : ∃ test : Env → Mem → (Bool → Mem → Prop) → Prop, test = fun σ M R => wE F x σ M (asB R) (D'.x σ) := ⟨_, rfl⟩
  obtain ⟨turn, hturn⟩ : ∃ turn : Env → Mem → (Env → Mem → Prop) → Prop, turn = fun σ M R => wSs F xs σ M { D' with nx := R, ct := R, bk := D'.nx } := ⟨_, rfl⟩
  have w : whlL (fun σ M R => wE F x σ M (asB R) (D'.x σ)) (fun σ M R => wSs F xs σ M { D' with nx := R, ct := R, bk := D'.nx }) D'.nx n ρ M := w
  rw [← htest, ← hturn] at w
  refine ⟨fun n σ H1 => ∃ ρ M1, whlL test turn D'.nx n ρ M1 ∧ Mono M H M1 H1 ∧ Rp c ρ M1 σ H1, ⟨n, ρ, M, w, Mono.refl _ _, R⟩, ?_⟩
  rintro n σ1 H1 ⟨ρ1, M1, w1, m1, R1⟩
  cases n with
  | zero => exact w1.elim
  | succ n =>
    have w1 : test ρ1 M1 fun b M1 => if b = true then turn ρ1 M1 fun σ2 M2 => whlL test turn D'.nx n σ2 M2 else D'.nx ρ1 M1 := w1
    rw [htest] at w1
    refine tT_bind R1 w1 ((g.mono m1).thr R1) fun b M2 H2 q m2 R2 => ?_
    rw [← htest] at q
    cases b with
    | false =>
      rw [if_neg Bool.false_ne_true] at q ⊢
      exact g.nx ρ1 M2 σ1 H2 q (m1.trans m2) R2
    | true =>
      rw [if_pos rfl] at q ⊢
      rw [hturn] at q
      refine ⟨fun σ' H' => ∃ ρ M', whlL test turn D'.nx n ρ M' ∧ Mono M H M' H' ∧ Rp c ρ M' σ' H', fun σ' H' h => ⟨n, by omega, h⟩, ?_⟩
      rw [← hturn] at q
      have gm := g.mono (m1.trans m2)
      exact ⟨ρ1, M2, _, R2, q, ⟨fun ρ' M' σ' H' q m R' => ⟨ρ', M', q, (m1.trans m2).trans m, R'⟩, gm.rt, gm.nx, fun ρ' M' σ' H' q m R' => ⟨ρ', M', q, (m1.trans m2).trans m, R'⟩, gm.ex⟩⟩
end
end Dee

set_option Elab.async false
set_option linter.all false
set_option autoImplicit false
set_option maxRecDepth 100000
set_option maxHeartbeats 1000000
/-! Dee: raise, try, and every statement. -/
namespace Dee
open PySem PySem.Spec PyProof.Rows L2
section
variable {X : Cx} {k : Ck} {F : Sem} {c : LC} {W : WX}
/-! ### raise -/
/-- an exception made: what is wished -/
def tX (c : LC) (W : WX) (F : Sem) (C : String) (es : List Ex) : L2.St → Hp → XK → Prop := fun σ H Q => ∃ (ρ : Env) (M : Mem) (Q' : List D → Mem → Prop) (E' : KX), Rp c ρ M σ H ∧ (ob (F.xf C) fun fs => wEs F es ρ M (fun ds M1 => fs.length = ds.length ∧ Q' ds M1) E') ∧
  (∀ ds M' H' a d, Q' ds M' → Mono M H M' H' → MRep c.mg M' H' → (∀ fs, F.xf C = some fs → RepX c M' H' ⟨C, fs.zip ds⟩ (.ref a) d) → Q (.ref a) d H') ∧ Throws c (fun cls d H' => W cls d σ H') M H E'
theorem lookup_rev {α β : Type} [DecidableEq α] [BEq α] [LawfulBEq α] {f : α} : ∀ {l : List (α × β)}, (l.map (·.1)).Nodup → l.reverse.lookup f = l.lookup f
  | [], _ => rfl
  | (g, y) :: l, h => by
    simp only [List.map_cons, List.nodup_cons] at h
    have ih := lookup_rev (f := f) h.2
    rw [List.reverse_cons]
    have app : ∀ {l1 l2 : List (α × β)}, (l1 ++ l2).lookup f = match l1.lookup f with | some v => some v | none => l2.lookup f := fun {l1 l2} => by
      induction l1 with
      | nil => rfl
      | cons p l1 ih2 =>
        obtain ⟨p1, p2⟩ := p
        simp only [List.cons_append, List.lookup_cons]
        cases e : f == p1 with
        | true => rfl
        | false => exact ih2
    rw [app, ih]
    simp only [List.lookup_cons, List.lookup_nil]
    cases e : f == g with
    | true =>
      have e2 : f = g := eq_of_beq e
      subst e2
      have hn : l.lookup f = none := by
        cases q : l.lookup f with
        | none => rfl
        | some v =>
          have : f ∈ l.map (·.1) := by
            clear ih app h
            induction l with
            | nil => cases q
            | cons p l ih3 =>
              obtain ⟨p1, p2⟩ := p
              simp only [List.lookup_cons] at q
              cases e3 : f == p1 with
              | true => rw [eq_of_beq e3]; simp
              | false => rw [e3] at q; exact List.mem_cons_of_mem _ (ih3 q)
          exact absurd this h.1
      rw [hn]
    | false => cases l.lookup f <;> rfl
theorem zip_keys {α β : Type} : ∀ {fs : List α} {ys : List β}, fs.length = ys.length → (fs.zip ys).map (·.1) = fs
  | [], [], _ => rfl
  | _ :: fs, _ :: ys, h => by simp [zip_keys (fs := fs) (ys := ys) (by simpa using h)]
  | [], _ :: _, h => by simp at h
  | _ :: _, [], h => by simp at h
theorem fields_rep {mg : Gm} {M : Mem} {H : Hp} {f : String} {x : D} : ∀ {fs : List String} {ds : List D} {vs : List V}, (fs.map Str.ofString).Nodup → RepL mg M H ds vs → lookF (fs.zip ds) f = some x →
    ∃ v, ((fs.map Str.ofString).zip vs).lookup (Str.ofString f) = some v ∧ Rep mg M H x v
  | [], _, _, _, _, e => by cases e
  | _ :: _, [], _, _, _, e => by cases e
  | g :: fs, d :: ds, _, hn, ⟨v, r, ev, h1, h2⟩, e => by
    subst ev
    simp only [List.map_cons, List.nodup_cons] at hn
    unfold lookF at e
    simp only [List.zip_cons_cons, List.lookup_cons] at e
    show ∃ v', (((Str.ofString g) :: fs.map Str.ofString).zip (v :: r)).lookup (Str.ofString f) = some v' ∧ _
    simp only [List.zip_cons_cons, List.lookup_cons]
    by_cases z : f = g
    · subst z
      simp only [beq_self_eq_true] at e ⊢
      cases e
      exact ⟨v, rfl, h1⟩
    · have zb : (f == g) = false := by simpa using z
      rw [zb] at e
      obtain ⟨v', l, r'⟩ := fields_rep hn.2 h2 e
      have mem : Str.ofString f ∈ fs.map Str.ofString := by
        have key : ∀ {ks : List Str} {us : List V} {y : V}, (ks.zip us).lookup (Str.ofString f) = some y → Str.ofString f ∈ ks := by
          intro ks
          induction ks with
          | nil => intro us y q; cases q
          | cons k1 ks ih =>
            intro us y q
            cases us with
            | nil => cases q
            | cons u us =>
              simp only [List.zip_cons_cons, List.lookup_cons] at q
              cases e3 : Str.ofString f == k1 with
              | true => rw [eq_of_beq e3]; simp
              | false => rw [e3] at q; exact List.mem_cons_of_mem _ (ih q)
        exact key l
      have zs : (Str.ofString f == Str.ofString g) = false := by
        cases q : Str.ofString f == Str.ofString g with
        | false => rfl
        | true => exact absurd (eq_of_beq q ▸ mem) hn.1
      rw [zs]
      exact ⟨v', l, r'⟩
theorem passes_never {X : Cx} : Passes (L2.CX X.prog X.w) X (fun _ _ _ => False) := fun _ _ _ _ _ _ _ ⟨_, _, _, _, _, _, _, _, _, _, _, _, z⟩ => z.elim
theorem sx_nil (O : Okc X k F c W) {C : String} {p pos} (hg : k.glo (Str.ofString C) = true) : PMk X (.Call (.Name (Str.ofString C) p) [] [] pos) (tX c W F C []) := by
  intro pins s σ H Q I ⟨ρ, M, Q', E', R, w, g, t⟩
  obtain ⟨fs, hf, hl, q⟩ := ob_some w
  obtain ⟨a, T⟩ := O.xf C fs hf
  obtain ⟨gl, hdb, hn⟩ := O.glo hg
  have fs0 : fs = [] := List.length_eq_zero_iff.mp hl
  subst fs0
  obtain ⟨_, bmB, hx, Fb⟩ : _ ∧ _ := by
    rcases T.made with h | h
    · exact h
    · exact absurd rfl h.1
  refine wpAny_Call_Name_kw (ld_glob I gl T.at_ ?_ hdb)
  refine PySem.W.callWith_K0 I.kIn T.keep ?_
  show wpAny _ _ (call (.ref a) []) _ _ _
  obtain ⟨bm, N, nm, qn, bs, hdct, sn, sub, ab, col, dd, k0, k1, k2, k3, k5, mN, hC, hN, hni, T2⟩ := exc_obj I.kIn hx
  refine wpAny_call_exc_subT Fb T2 hC hN hni (fun h' e hm => ?_) (by show 0 ≤ sizeLine; omega)
  refine mk_of I hm (raises_own T.xc.exC T.ty) (g [] M H a none q (Mono.refl _ _) R.mem fun fs e => ?_) (I.hok.gone hm.new)
  rw [hf] at e
  cases e
  exact ⟨by rw [O.mg]; exact T.at_, .inl rfl⟩
theorem sx_cons (O : Okc X k F c W) (hh : k.hot = false) {C : String} {e : Expr} {es : List Expr} {xs : List Ex} {p pos} (hg : k.glo (Str.ofString C) = true) (ha : PA X (e :: es) (tA c W F xs)) (h1 : isStar e = false) (h2 : noStars es = true) (hl : xs.length = es.length + 1) (hl2 : xs.length ≤ 900) :
    PMk X (.Call (.Name (Str.ofString C) p) (e :: es) [] pos) (tX c W F C xs) := by
  intro pins s σ H Q I ⟨ρ, M, Q', E', R, w, g, t⟩
  obtain ⟨fs, hf, w⟩ := ob_some w
  obtain ⟨a, T⟩ := O.xf C fs hf
  obtain ⟨gl, hdb, hn⟩ := O.glo hg
  by_cases f0 : fs = []
  · subst f0
    refine wpAny_Call_Name_kw (ld_glob I gl T.at_ ?_ hdb)
    refine PySem.W.callWith_K (h₀ := X.base) I.ok.mod.kin T.keep (thn (ha.run pos pins s σ H (fun _ _ => False) I (tA_bind R w t fun ds M1 vs H1 hz ⟨hlen, q⟩ m1 R1 rs => ?_)) fun us s1 ⟨vs, H1, I1, r1, q⟩ => q.elim) (star_cons h1) (star_back h2)
    rw [hz] at hlen
    simp at hlen
    omega
  obtain ⟨_, hnd, To, fI, fd, ps, iC, tI', hb, F1⟩ : _ ∧ _ := by
    rcases T.made with h | h
    · exact absurd h.1 f0
    · exact h
  refine pmk_oex (ds := []) (dvs := []) To iC tI' F1 ((O.room hh).mono (by decide)) hb .nil passes_never gl T.at_ ha hdb (star_cons h1) (star_back h2) pins s σ H Q I ?_
  refine tA_bind R w t fun ds M1 vs H1 hz ⟨hlen, q⟩ m1 R1 rs => ?_
  refine ⟨by rw [← rs.length]; omega, fun b hb1 => ⟨b, vs ++ [], rfl, by simp [← rs.length, hlen], upd_same, fun dx H' e1 e2 e3 e4 e5 => ?_⟩⟩
  have hdx : H1 dx = none := by rw [upd_ne e2] at e1; exact e1
  refine ⟨rfl, dx, _, e3, e4, hdx, ?_⟩
  have eH : L2.upd (L2.del H' b) dx (.xd ((fs.map Str.ofString).zip (vs ++ [])).reverse) = L2.upd H1 dx (.xd ((fs.map Str.ofString).zip vs).reverse) := by
    rw [List.append_nil]
    funext z
    by_cases zd : z = dx
    · subst zd; rw [upd_same, upd_same]
    · rw [L2.upd_ne zd, L2.upd_ne zd]
      by_cases zb : z = b
      · subst zb; rw [L2.del_same, hb1]
      · rw [L2.del_ne zb, e5 z zb zd, L2.upd_ne zb]
  rw [eH]
  refine g ds M1 _ a (some dx) q (m1.trans (Mono.new hdx)) (R1.mem.new hdx) fun fs' e6 => ?_
  rw [hf] at e6
  cases e6
  refine ⟨by rw [O.mg]; exact T.at_, .inr ⟨dx, _, rfl, R1.mem.gone hdx, upd_same, fun f x e8 => ?_⟩⟩
  obtain ⟨v, l, r⟩ := fields_rep hnd rs e8
  refine ⟨v, ?_, r.mono (Mono.new hdx)⟩
  rw [lookup_rev (by rw [zip_keys (by rw [List.length_map, ← rs.length, hlen])]; exact hnd)]
  exact l
theorem st_raise (O : Okc X k F c W) (hh : k.hot = false) {C : String} {e : Expr} {xs : List Ex} {pos} (hx : PMk X e (tX c W F C xs)) : PS X (.Raise (some e) none pos) (tS c W F (.raise C xs)) := by
  refine PS.imp (ps_raise (O.calm hh) O.tk hx) fun D σ H ⟨ρ, M, D', R, w, g⟩ => ?_
  obtain ⟨fs, hf, w⟩ := ob_some w
  refine ⟨ρ, M, fun ds M1 => D'.ex ⟨C, fs.zip ds⟩ ρ M1, D'.x ρ, R, by rw [hf]; exact w, fun ds M' H' a d q m mr hr => ?_, g.thr R⟩
  exact g.ex _ ρ M' _ _ σ H' q m (R.mono m mr) (hr fs hf)
/-! ### try -/
theorem Okc.suite (O : Okc X k F c W) {xs : Option (Nat × Str)} {xi : Option (Nat × Addr × Value × Option Addr × Exn)} {cur : Option Exn} {a : Addr} {oe : Obj} {pn : List (Addr × Obj)} (h1 : ∀ j a cls d ε, xi = some (j, a, cls, d, ε) → ∃ nm, xs = some (j, nm))
    (h2 : ∀ ε, cur = some ε → ∃ i a cls d, xi = some (i, a, cls, d, ε)) (h3 : ∀ i a' cls d ε, xi = some (i, a', cls, d, ε) → a' = a ∧ Zc cls d oe ∧ ∃ vs, oe.data = .fields vs) :
    Okc (L2.Cx.suite X a ((a, oe) :: pn)) { k with hot := true, xs := xs } { F with cur := cur } ⟨c.mg, xi, c.lam⟩ W0 where
  N := O.N
  nd := O.nd
  sc := O.sc
  own := O.own
  calm := fun h => nomatch h
  un := O.un
  mg := O.mg
  blt := O.blt
  tk := fun u s' ⟨a, B, sI, pins, σ, H, cls, d, e, I, nb, up, sky, na, os, ag, w⟩ => w.elim
  xs := h1
  hot0 := fun h => nomatch h
  fns := fun h => nomatch h
  cur := h2
  sui := fun i a' cls d ε e => by
    obtain ⟨e1, hz, hf⟩ := h3 i a' cls d ε e
    subst e1
    exact ⟨X, pn, oe, rfl, hz, hf⟩
  xf := O.xf
  sub := O.sub
  room := fun h => nomatch h
  cat := O.cat
  glb := O.glb
  lam1 := O.lam1
  actz := fun h => nomatch h
  job := fun h => nomatch h
theorem Okc.tr (O : Okc X k F c W) (hh : k.hot = false) {W' : WX} {pn : List (Addr × Obj)} {xe : Value → Shared → Prop} (tk : Takes (L2.Cx.tr X pn xe) W') : Okc (L2.Cx.tr X pn xe) k F c W' where
  N := O.N
  nd := O.nd
  sc := O.sc
  own := O.own
  calm := O.calm
  un := O.un
  mg := O.mg
  blt := O.blt
  tk := tk
  xs := O.xs
  hot0 := O.hot0
  fns := O.fns
  cur := O.cur
  sui := fun i a' cls d ε e => by rw [O.hot0 hh] at e; cases e
  xf := O.xf
  sub := O.sub
  room := O.room
  cat := O.cat
  glb := O.glb
  lam1 := O.lam1
  actz := fun h1 h2 => by
    obtain ⟨z, X0, pn, xe, hz, rfl, act, rd⟩ := O.actz h1 h2
    exact ⟨z, X0, _, _, hz, rfl, act, rd⟩
  job := fun h1 f x h2 l body scope h3 => O.job h1 f x h2 l body scope h3
theorem exm_of (O : Okc X k F c W) {M : Mem} {H : Hp} {ε : Exn} {cls : Value} {d : Option Addr} {C : String} {a : Addr} (hr : RepX c M H ε cls d) (hx : (F.xf ε.C).isSome = true) (hC : C ∈ k.cls) (ha : X.mg (Str.ofString C) = some (.ref a)) : PySem.W.exmOne X.K cls (.ref a) = some (F.sub ε.C C) := by
  obtain ⟨fs, hf⟩ := Option.isSome_iff_exists.mp hx
  obtain ⟨a1, a2, e1, e2, e3⟩ := O.sub ε.C fs hf C hC
  have e4 := hr.1
  rw [O.mg, e1] at e4
  rw [ha] at e2
  cases e4
  cases e2
  exact e3
/-- the clauses of a try, without names -/
def HdsR (X : Cx) (F : Sem) (c : LC) (hs : List (String × Option Nat × List St)) (l : List (Value × (Addr → Value → Option Addr → TS))) : Prop :=
  ∀ (Wout : WX) (D' : Dee.Ends) (D : L2.Ends) (M : Mem) (H : Hp) (ρ : Env) (σ : L2.St) (ε : Exn) (cls : Value) (d : Option Addr), wHs F hs ε ρ M D' → Rp c ρ M σ H → RepX c M H ε cls d → EO c Wout M H D' D → wMany X.K Wout D l cls d σ H
theorem hdsR_nil : HdsR X F c [] [] := fun Wout D' D M H ρ σ ε cls d w R hr g => g.ex ε ρ M cls d σ H w (Mono.refl _ _) R hr
theorem hdsR_cons (O : Okc X k F c W) (hh : k.hot = false) {C : String} {b : List St} {hs : List (String × Option Nat × List St)} {l : List (Value × (Addr → Value → Option Addr → TS))} {a2 : Addr} (hC : C ∈ k.cls) (ha : X.mg (Str.ofString C) = some (.ref a2)) (h : HdsR X F c hs l) :
    HdsR X F c ((C, none, b) :: hs) ((.ref a2, fun _ _ _ => tSs ⟨c.mg, none, c.lam⟩ W0 { F with cur := none } b) :: l) := by
  intro Wout D' D M H ρ σ ε cls d w R hr g
  obtain ⟨hx, w⟩ := w
  refine ⟨_, exm_of O hr hx hC ha, fun e a na => ?_, fun e => ?_⟩
  · rw [e, if_pos rfl] at w
    have xi0 := O.hot0 hh
    have cc : ∀ {ρ : Env} {M : Mem} {σ : L2.St} {H : Hp}, Rp c ρ M σ H → Rp ⟨c.mg, none, c.lam⟩ ρ M σ H := fun R => ⟨R.len, R.env, R.mem, fun _ _ _ _ _ e => (nomatch e), R.lam⟩
    have cc' : ∀ {ρ : Env} {M : Mem} {σ : L2.St} {H : Hp}, Rp ⟨c.mg, none, c.lam⟩ ρ M σ H → Rp c ρ M σ H := fun R => ⟨R.len, R.env, R.mem, fun _ _ _ _ _ e => (by rw [xi0] at e; cases e), R.lam⟩
    exact ⟨ρ, M, _, cc R, w, ⟨fun ρ' M' σ' H' q m R' => g.nx ρ' M' σ' H' q m (cc' R'), g.rt, fun ρ' M' σ' H' q m R' => g.bk ρ' M' σ' H' q m (cc' R'), fun ρ' M' σ' H' q m R' => g.ct ρ' M' σ' H' q m (cc' R'), fun _ _ _ _ _ _ _ q => q.elim⟩⟩
  · rw [e, if_neg Bool.false_ne_true] at w
    exact h Wout D' D M H ρ σ ε cls d w R hr g
theorem st_try_many (O : OkS X k F c W) (hh : k.hot = false) {body : List Stmt} {hd : ExceptHandler} {hds : List ExceptHandler} {b : List St} {hs : List (String × Option Nat × List St)} {l : List (Value × (Addr → Value → Option Addr → TS))} {pos}
    (hb : ∀ (W' : WX) (X' : Cx), OkS X' k F c W' → PSs X' body (tSs c W' F b)) (hk : HdsOk X (hd :: hds) l) (hr : HdsR X F c hs l) : PS X (.Try body (hd :: hds) [] [] pos) (tS c W F (.try b hs)) := by
  obtain ⟨s1, s2⟩ := O.stk hh
  refine PS.imp (ps_try_many (tb := fun W' => tSs c W' F b) s1 s2 O.O.tk (fun W' pn xe tk po => hb W' _ ⟨O.O.tr hh tk, O.kind, fun _ => po, O.stk⟩) hk) fun D σ H ⟨ρ, M, D', R, w, g⟩ => ?_
  exact ⟨ρ, M, _, R, w, ⟨g.nx, g.rt, g.bk, g.ct, fun ε ρ' M' cls d σ' H' q m R' rx => hr W D' D M' H' ρ' σ' ε cls d q R' rx (g.mono m)⟩⟩
theorem st_try_as (O : OkS X k F c W) (hh : k.hot = false) {body suite : List Stmt} {b₀ : Stmt} {C : String} {i : Nat} {nm : Str} {b bs : List St} {a2 : Addr} {np p' pos} (hg : k.glo (Str.ofString C) = true) (hC : C ∈ k.cls) (ha : X.mg (Str.ofString C) = some (.ref a2)) (hi : k.sto i nm = true) (hl : locK k nm = true)
    (hb : ∀ (W' : WX) (X' : Cx), OkS X' k F c W' → PSs X' body (tSs c W' F b))
    (hsu : ∀ (X' : Cx) (c' : LC) (ε : Exn), OkS X' { k with hot := true, xs := some (i, nm) } { F with cur := some ε } c' W0 → PSs X' (b₀ :: suite) (tSs c' W0 { F with cur := some ε } bs)) :
    PS X (.Try body [.ExceptHandler (some (.Name (Str.ofString C) np)) (some nm) (b₀ :: suite) p'] [] [] pos) (tS c W F (.try b [(C, some i, bs)])) := by
  obtain ⟨s1, s2⟩ := O.stk hh
  obtain ⟨h1, h2, h3, h4⟩ := O.O.sto hi
  obtain ⟨gl, hdb, hn⟩ := O.O.glo hg
  have hk : X.env.kindOf nm = some .local := by
    show X.env.scope.names.lookup nm = some .local
    rw [O.O.sc]
    unfold locK at hl
    split at hl
    · rename_i e; exact e
    · cases hl
  have xi0 := O.O.hot0 hh
  refine PS.imp (ps_try_as (tb := fun W' => tSs c W' F b) (ts := fun a cls d => fun D σ H => ∃ ε, tSs ⟨c.mg, some (i, a, cls, d, ε), c.lam⟩ W0 { F with cur := some ε } bs D σ H) s1 s2 O.O.nd h1 hk ⟨gl, hdb, .inl ha⟩ O.O.tk (fun W' pn xe tk po => hb W' _ ⟨O.O.tr hh tk, O.kind, fun _ => po, O.stk⟩)
    (fun a oe cls d pn hz hf => ⟨fun pins s σ H D I ⟨ε, q⟩ => (hsu _ _ ε ⟨O.O.suite (fun j a' cls' d' ε' e => by cases e; exact ⟨nm, rfl⟩) (fun ε' e => by cases e; exact ⟨i, a, cls, d, rfl⟩) (fun i' a' cls' d' ε' e => by cases e; exact ⟨rfl, hz, hf⟩), O.kind, fun h => (nomatch h), fun h => (nomatch h)⟩).run pins s σ H D I q⟩)) fun D σ H ⟨ρ, M, D', R, w, g⟩ => ?_
  refine ⟨ρ, M, _, R, w, ⟨g.nx, g.rt, g.bk, g.ct, fun ε ρ' M' cls d σ' H' q m R' rx => ?_⟩⟩
  obtain ⟨hx, q⟩ := q
  refine ⟨_, exm_of O.O rx hx hC ha, fun e a na => ?_, fun e => ?_⟩
  · rw [e, if_pos rfl] at q
    obtain ⟨hlen, q⟩ := q
    have R0 := R'.wipe1 (i := i) (o := some (.ref a)) h4
    have R1 : Rp ⟨c.mg, some (i, a, cls, d, ε), c.lam⟩ (ρ'.set i none) M' (σ'.set i (some (.ref a))) H' := ⟨R0.len, R0.env, R0.mem, fun j a' cls' d' ε' e => by
      cases e
      exact ⟨List.getElem?_set_self (by rw [← R'.len]; exact hlen), rx⟩, R0.lam⟩
    have back : ∀ {ρ2 : Env} {M2 : Mem} {σ2 : L2.St} {H2 : Hp}, Rp ⟨c.mg, some (i, a, cls, d, ε), c.lam⟩ ρ2 M2 σ2 H2 → Rp c (ρ2.set i none) M2 (σ2.set i none) H2 := fun {ρ2 M2 σ2 H2} R => by
      have R' : Rp c ρ2 M2 σ2 H2 := ⟨R.len, R.env, R.mem, fun _ _ _ _ _ e => (by rw [xi0] at e; cases e), R.lam⟩
      exact R'.wipe1 h4
    have gm := g.mono m
    exact ⟨ε, _, M', _, R1, q, ⟨fun ρ2 M2 σ2 H2 q m R => gm.nx _ M2 _ H2 q m (back R), gm.rt, fun ρ2 M2 σ2 H2 q m R => gm.bk _ M2 _ H2 q m (back R), fun ρ2 M2 σ2 H2 q m R => gm.ct _ M2 _ H2 q m (back R), fun _ _ _ _ _ _ _ q => q.elim⟩⟩
  · rw [e, if_neg Bool.false_ne_true] at q
    exact g.ex ε ρ' M' cls d σ' H' q m R' rx
end
end Dee

set_option Elab.async false
set_option linter.all false
set_option autoImplicit false
set_option maxRecDepth 100000
set_option maxHeartbeats 1000000
/-! Dee: a, b = x, y with plain names: stored from the right. -/
namespace Dee
open PySem PySem.Spec PyProof.Rows L2
theorem nostar {e : Expr} (h : isStar e = false) : (match (generalizing := false) e with | .Starred .. => true | _ => false) = false := by cases e <;> first | rfl | cases h
theorem swap2 {x y : Str} {px py pt pt2 : Pos} {kt k2 : Nat} {a b : Expr} {env : PySem.Env} (hk : env.blockKind = .function) (hx : env.kindOf x = some .local) (hy : env.kindOf y = some .local) (hl : py.line = px.line) (hxy : (x == y) = false) (ha : isStar a = false) (hb : isStar b = false)
    (hf : [a, b].all (foldedForSure 8) = false) (hc : [a, b].all (constantsAlone 8) = false) :
    swappedStores [.Tuple [.Name x px, .Name y py] kt pt] (.Tuple [a, b] k2 pt2) env = pure (some [x, y]) := by
  have hyx : (y == x) = false := by
    rw [Bool.beq_comm]; exact hxy
  have ea := nostar ha
  have eb := nostar hb
  unfold swappedStores
  simp [hk, hx, hy, hl, hf, hc, List.eraseDups, List.eraseDupsBy, List.eraseDupsBy.loop, Expr.pos]
  rw [if_neg (fun h => h.elim (fun h => Bool.noConfusion (ea.symm.trans h)) (fun h => Bool.noConfusion (eb.symm.trans h))), hyx] <;> rfl
theorem swap3 {x y z : Str} {px py pz pt pt2 : Pos} {kt k2 : Nat} {a b d : Expr} {env : PySem.Env} (hk : env.blockKind = .function) (hx : env.kindOf x = some .local) (hy : env.kindOf y = some .local) (hz : env.kindOf z = some .local) (hl : py.line = px.line) (hl2 : pz.line = px.line)
    (hxy : (x == y) = false) (hxz : (x == z) = false) (hyz : (y == z) = false) (ha : isStar a = false) (hb : isStar b = false) (hd : isStar d = false)
    (hf : [a, b, d].all (foldedForSure 8) = false) (hc : [a, b, d].all (constantsAlone 8) = false) :
    swappedStores [.Tuple [.Name x px, .Name y py, .Name z pz] kt pt] (.Tuple [a, b, d] k2 pt2) env = pure (some [x, y, z]) := by
  have hyx : (y == x) = false := by rw [Bool.beq_comm]; exact hxy
  have hzx : (z == x) = false := by rw [Bool.beq_comm]; exact hxz
  have hzy : (z == y) = false := by rw [Bool.beq_comm]; exact hyz
  have ea := nostar ha
  have eb := nostar hb
  have ed := nostar hd
  unfold swappedStores
  simp [hk, hx, hy, hz, hl, hl2, hf, hc, List.eraseDups, List.eraseDupsBy, List.eraseDupsBy.loop, Expr.pos]
  rw [if_neg (fun h => h.elim (fun h => Bool.noConfusion (ea.symm.trans h)) (fun h => h.elim (fun h => Bool.noConfusion (eb.symm.trans h)) (fun h => Bool.noConfusion (ed.symm.trans h)))), hyx]
  simp [hzx, hzy]
section
variable {X : Cx} {k : Ck} {F : Sem} {c : LC} {W : WX}
theorem loc_ok (O : Okc X k F c W) {x : Str} (h : locK k x = true) : X.env.scope.names.lookup x = some .local := by
  rw [O.sc]
  unfold locK at h
  split at h
  · rename_i e; exact e
  · cases h
theorem blk_fun {env : PySem.Env} (h : env.scope.kind = .function) : env.blockKind = .function := by
  unfold PySem.Env.blockKind
  rw [h] <;> rfl
theorem st_par (O : OkS X k F c W) (hh : k.hot = false) {i j : Nat} {t : Expr} {es : List Ex} {es' : List Expr} {k2 : Nat} {pt2 pos : Pos} (h : swp2 k i j t (.Tuple es' k2 pt2) = true) (ha : PA X es' (tA c W F es)) (hl : es.length = es'.length) :
    PS X (.Assign [t] (.Tuple es' k2 pt2) pos) (tS c W F (.asg (.tu [.nm i, .nm j]) (.tup es))) := by
  unfold swp2 at h
  split at h <;> first | (cases h; done) | skip
  rename_i x px y py kt pt a b kt2 pt3 heq
  cases heq
  simp only [Bool.and_eq_true, Bool.not_eq_true'] at h
  obtain ⟨⟨⟨⟨⟨⟨⟨⟨⟨⟨h1, h2⟩, h3⟩, h4⟩, h5⟩, h6⟩, h7⟩, h8⟩, h9⟩, h10⟩, h11⟩ := h
  obtain ⟨s1, s2, s3, s4⟩ := O.O.sto h1
  obtain ⟨r1, r2, r3, r4⟩ := O.O.sto h2
  have l1 := loc_ok O.O h3
  have l2 := loc_ok O.O h4
  have hij : i ≠ j := by simpa using h5
  refine PS.imp (ps_par (O.O.calm hh) O.O.nd s1 r1 hij l1 l2 ha (swap2 (blk_fun O.kind) l1 l2 (by simpa using h7) h6 h8 h9 h10 h11)) fun D σ H ⟨ρ, M, D', R, w, g⟩ => ?_
  have w : wEs F es ρ M (fun ds M1 => wTg (.tu [.nm i, .nm j]) (.tup ds) ρ fun σ1 => D'.nx σ1 M1) (D'.x ρ) := w
  refine tA_bind R w (g.thr R) fun ds M1 vs H1 hz q m1 R1 rs => ?_
  match ds, q, rs with
  | [d1, d2], q, rs =>
    obtain ⟨v1, r1', e1, q1, v2, r2', e2, q2, e3⟩ := rs
    subst e1 e2
    cases e3
    refine ⟨v1, v2, rfl, g.nx _ M1 _ H1 q m1 ((R1.set q1 s4).set q2 r4)⟩
theorem st_par3 (O : OkS X k F c W) (hh : k.hot = false) {i j l : Nat} {t : Expr} {es : List Ex} {es' : List Expr} {k2 : Nat} {pt2 pos : Pos} (h : swp3 k i j l t (.Tuple es' k2 pt2) = true) (ha : PA X es' (tA c W F es)) (hl : es.length = es'.length) :
    PS X (.Assign [t] (.Tuple es' k2 pt2) pos) (tS c W F (.asg (.tu [.nm i, .nm j, .nm l]) (.tup es))) := by
  unfold swp3 at h
  split at h <;> first | (cases h; done) | skip
  rename_i x px y py z pz kt pt a b d kt2 pt3 heq
  cases heq
  simp only [Bool.and_eq_true, Bool.not_eq_true'] at h
  obtain ⟨⟨⟨⟨⟨⟨⟨⟨⟨⟨⟨⟨⟨⟨⟨⟨⟨⟨h1, h2⟩, h2'⟩, h3⟩, h4⟩, h4'⟩, h5⟩, h5'⟩, h5''⟩, h6⟩, h6'⟩, h6''⟩, h7⟩, h7'⟩, h8⟩, h9⟩, h9'⟩, h10⟩, h11⟩ := h
  obtain ⟨s1, s2, s3, s4⟩ := O.O.sto h1
  obtain ⟨r1, r2, r3, r4⟩ := O.O.sto h2
  obtain ⟨t1, t2, t3, t4⟩ := O.O.sto h2'
  have l1 := loc_ok O.O h3
  have l2 := loc_ok O.O h4
  have l3 := loc_ok O.O h4'
  refine PS.imp (ps_par3 (O.O.calm hh) O.O.nd s1 r1 t1 (by simpa using h5) (by simpa using h5') (by simpa using h5'') l1 l2 l3 ha (swap3 (blk_fun O.kind) l1 l2 l3 (by simpa using h7) (by simpa using h7') h6 h6' h6'' h8 h9 h9' h10 h11)) fun D σ H ⟨ρ, M, D', R, w, g⟩ => ?_
  have w : wEs F es ρ M (fun ds M1 => wTg (.tu [.nm i, .nm j, .nm l]) (.tup ds) ρ fun σ1 => D'.nx σ1 M1) (D'.x ρ) := w
  refine tA_bind R w (g.thr R) fun ds M1 vs H1 hz q m1 R1 rs => ?_
  match ds, q, rs with
  | [d1, d2, d3], q, rs =>
    obtain ⟨v1, r1', e1, q1, v2, r2', e2, q2, v3, r3', e3, q3, e4⟩ := rs
    subst e1 e2 e3
    cases e4
    refine ⟨v1, v2, v3, rfl, g.nx _ M1 _ H1 q m1 (((R1.set q1 s4).set q2 r4).set q3 t4)⟩
end
end Dee

set_option Elab.async false
set_option linter.all false
set_option autoImplicit false
set_option maxRecDepth 100000
set_option maxHeartbeats 1000000
/-! Dee: x += e, o[i] += e, over numbers. -/
namespace Dee
open PySem PySem.Spec PyProof.Rows L2
def augF : Bop → Int → Int → Int | .sub => fun i j => i - j | _ => fun i j => i + j
section
variable {X : Cx} {k : Ck} {F : Sem} {c : LC} {W : WX}
theorem ip_aug {op : Bop} (h : augOk op = true) : PIp X (opOf op) (ipI (augF op)) := by
  cases op <;> first | exact ip_add | exact ip_sub | cases h
theorem augop_int {op : Bop} (h : augOk op = true) {x y : D} {M : Mem} {Q : Dee.K} (w : augop op x y M Q) : ∃ i j, x = .int i ∧ y = .int j ∧ Q (.int (augF op i j)) M := by
  obtain ⟨i, e1, w⟩ := onI_int w
  obtain ⟨j, e2, w⟩ := onI_int w
  refine ⟨i, j, e1, e2, ?_⟩
  cases op <;> first | exact w | cases h
theorem st_aug (O : Okc X k F c W) {i : Nat} {y : Str} {op : Bop} {e : Expr} {x : Ex} {p1 pos : Pos} (hs : k.sto i y = true) (ho : augOk op = true) (he : PE X e (tE c W F x)) : PS X (.AugAssign (.Name y p1) (opOf op) e pos) (tS c W F (.aug i op x)) := by
  obtain ⟨h1, h2, h3, h4⟩ := O.sto hs
  refine PS.imp (ps_aug O.nd h1 h2 he (ip_aug ho) h3) fun D σ H ⟨ρ, M, D', R, w, g⟩ => ?_
  obtain ⟨d, e1, w⟩ := ob_some w
  obtain ⟨v, ev, rv⟩ := R.env i d e1
  refine ⟨v, ev, tE_bind R w (g.thr R) fun d2 M1 v2 H1 w1 m1 R1 r1 => ?_⟩
  obtain ⟨a, b, rfl, rfl, q⟩ := augop_int ho w1
  cases (show v = V.int a from rv)
  cases (show v2 = V.int b from r1)
  exact ⟨a, b, rfl, rfl, g.nx _ M1 _ H1 q m1 (R1.set (d := .int (augF op a b)) rfl h4)⟩
def rGetL (c : LC) : V → V → Hp → VK → Prop := fun x y H Q => ∃ a n j M xs v, x = .ref a ∧ y = .int n ∧ MRep c.mg M H ∧ M a = some (.lst xs) ∧ Dee.ixN xs.length n = some j ∧ xs[j]? = some v ∧ ∀ z, Rep c.mg M H v z → Q z H
theorem get_lst : PGet X (rGetL c) := by
  intro pins s σ H o i ov iv Q I ro ri h
  obtain ⟨a, n, j0, M, xs, v, rfl, rfl, mr, ha, hj, hv, q⟩ := h
  obtain ⟨vs, hh, rs⟩ := mr.std a _ ha
  obtain ⟨z, hz, rz⟩ := rs.get hv
  have he : atI vs n = some z := by
    unfold atI
    rw [← ixN_eq, ← rs.length, hj]
    exact hz
  cases ro
  obtain ⟨t, rfl⟩ := ri
  obtain ⟨its, r, pl, hsz⟩ := I.list (show SqL X.K H a vs from .inl (.inl hh))
  obtain ⟨j, h1, h2, h3, h4, h5⟩ := atI_get he
  obtain ⟨w, ew, rw'⟩ := r.get h2
  have hl := r.length
  have hn := line63
  have fin : EP X pins σ Q w s := ⟨z, H, I, rw', q z rz⟩
  by_cases h0 : 0 ≤ n
  · have hj : n.toNat = j := by
      rw [seqIndex_of h0 h5] at h1
      exact Option.some.inj h1
    exact wpAny_getItem_list pl.isList h0 (by omega) (by rw [hj]; simpa using ew) fin
  · have hj : (n + (its.toArray.size : Int)).toNat = j := by
      rw [seqIndex_neg (by omega) h4] at h1
      rw [List.size_toArray, ← hl]
      exact Option.some.inj h1
    exact wpAny_getItem_list_neg pl.isList (by omega) (by rw [List.size_toArray] <;> omega) (by omega) (by rw [hj]; simpa using ew) fin
theorem st_augs (O : Okc X k F c W) {op : Bop} {o i e : Expr} {x y z : Ex} {p1 pos : Pos} (hs : noSlice i = true) (ho : augOk op = true) (h1 : PE X o (tE c W F x)) (h2 : PE X i (tE c W F y)) (he : PE X e (tE c W F z)) : PS X (.AugAssign (.Subscript o i p1) (opOf op) e pos) (tS c W F (.augs x y op z)) := by
  have ha : ∀ ov iv new, augStore i ov iv new = (do holding [new, ov, iv] (setItem ov iv new); release [new, ov, iv] []; pure .next) := fun ov iv new => by cases i <;> first | rfl | cases hs
  refine PS.imp (ps_augS h1 h2 (get_lst (c := c)) he (ip_aug ho) (set_all (c := c) O.un) ha) fun D σ H ⟨ρ, M, D', R, w, g⟩ => ?_
  refine tE_bind R w (g.thr R) fun d1 M1 v1 H1 w1 m1 R1 r1 => tE_bind R1 w1 ((g.thr R).mono m1) fun d2 M2 v2 H2 w2 m2 R2 r2 => ?_
  obtain ⟨a, rfl, w2⟩ := onR_ref w2
  obtain ⟨xs, e1, w2⟩ := ob_some w2
  obtain ⟨n, rfl, w2⟩ := onI_int w2
  obtain ⟨j, e2, w2⟩ := ob_some w2
  obtain ⟨d3, e3, w2⟩ := ob_some w2
  have ea : M2 a = some (.lst xs) := by
    unfold atL at e1
    split at e1
    · rename_i q; cases e1; exact q
    · cases e1
  have r1' := r1.mono m2
  cases (show v1 = V.ref a from r1')
  cases (show v2 = V.int n from r2)
  refine ⟨a, n, j, M2, xs, d3, rfl, rfl, R2.mem, ea, e2, e3, fun v3 r3 => ?_⟩
  refine tE_bind R2 w2 (((g.thr R).mono m1).mono m2) fun d4 M4 v4 H4 w4 m4 R4 r4 => ?_
  obtain ⟨p, b, rfl, rfl, q⟩ := augop_int ho w4
  cases (show v3 = V.int p from r3)
  cases (show v4 = V.int b from r4)
  refine ⟨p, b, rfl, rfl, ?_⟩
  exact ⟨.ref a, .int n, .int (augF op p b), M4, _, R4.mem, rfl, rfl, rfl, q, fun M' H' q m mr => g.nx ρ M' σ H' q (((m1.trans m2).trans m4).trans m) (R4.mono m mr)⟩
end
end Dee

set_option Elab.async false
set_option linter.all false
set_option autoImplicit false
set_option maxRecDepth 100000
set_option maxHeartbeats 1000000
/-! Dee: every statement. -/
namespace Dee
open PySem PySem.Spec PyProof.Rows L2
section
variable {X : Cx} {k : Ck} {F : Sem} {c : LC} {W : WX}
/-- what the check says of a comprehension -/
theorem comp_chk (O : Okc X k F c W) {x : Ex} {elt : Expr} {gens : List Comprehension} {scope : Scope} {pos : Pos} (h : chkE k x (.ListComp elt gens scope pos) = true) :
    ∃ m e1 t ik es cs tg iter ifs own, x = .comp m e1 t ik es cs ∧ gens = [⟨tg, iter, ifs, 0⟩] ∧ k.hot = false ∧ PI X tg iter (tI c W F ik es) ∧ tgOwn t tg = some own ∧ blkC k.N k.sc scope own = true ∧ isSet iter = false ∧
      (∀ (X' : Cx) (c' : LC), Okc X' (k.blk scope) F c' W0 → PG X' tg (tG c' t) ∧ PTs X' ifs (tCs c' F cs) ∧ PE X' elt (tE c' W0 F e1)) := by
  cases x with
  | comp m e1 t ik es cs =>
    unfold chkE at h
    split at h <;> first | (cases h; done) | skip
    rename_i e1' tg it ifs sc q heq
    cases heq
    obtain ⟨h, h7⟩ := band h
    obtain ⟨h, h6⟩ := band h
    obtain ⟨h, h5⟩ := band h
    obtain ⟨h, h4⟩ := band h
    obtain ⟨h, h3⟩ := band h
    obtain ⟨h1, h2⟩ := band h
    split at h2 <;> first | (cases h2; done) | skip
    rename_i as has
    split at h4 <;> first | (cases h4; done) | skip
    rename_i own hown
    obtain ⟨h8, h9⟩ := band h4
    obtain ⟨p1, p2, p3, p4⟩ := sEs es O h2
    obtain ⟨q1, q2⟩ := sI (t := t) O has h3 p4 p1 p2 p3 fun ts et => tg_tup (own := own) (by rw [← et]; exact hown)
    exact ⟨m, e1, t, ik, es, cs, tg, it, ifs, own, rfl, rfl, bnot h1, q1, hown, h8, q2, fun X' c' O' => ⟨sg O' h9, oneCs (sBs cs O' h5) (of_decide_eq_true h6), (sE e1 O' h7).1⟩⟩
  | _ => cases h
theorem st_lc (O : OkS X k F c W) {i : Nat} {y : Str} {x : Ex} {elt : Expr} {gens : List Comprehension} {scope : Scope} {pos py spos : Pos} (hs : k.sto i y = true) (hl : lcSet k (.Name y py) (.ListComp elt gens scope pos) = true) (h : chkE k x (.ListComp elt gens scope pos) = true) :
    PS X (.Assign [.Name y py] (.ListComp elt gens scope pos) spos) (tS c W F (.asg (.nm i) x)) := by
  obtain ⟨m, e1, t, ik, es, cs, tg, iter, ifs, own, rfl, rfl, hh, hi, ho, hb, hset, body⟩ := comp_chk O.O h
  obtain ⟨b1, b2, b3, b4⟩ := comp_ok O.O hh hb body
  have fs : ∀ x, foldedSetIterable iter X.env x = pure x := fun x => by cases iter <;> first | rfl | cases hset
  obtain ⟨h1, h2, h3, h4⟩ := O.O.sto hs
  have hl : (locK k y && py.line == pos.line && !(scope.names.any fun (n, k) => n == y && (k == .local || k == .cell))) = true := hl
  obtain ⟨hl, l3⟩ := band hl
  obtain ⟨l1, l2⟩ := band hl
  have loc := loc_ok O.O l1
  refine PS.imp (ps_setLc (O.O.calm hh) O.O.nd h1 loc (sw_true O.kind loc l2 (bnot l3)) hi b1 b2 b3 b4 fs) fun D σ H ⟨ρ, M, D', R, w, g⟩ => ?_
  have z : tE c W F (.comp m e1 t ik es cs) σ H (fun v H1 => D.nx (σ.set i (some v)) H1) :=
    ⟨ρ, M, _, _, R, w, fun d M' v H' q m mr r => g.nx _ M' _ H' q m ((R.mono m mr).set r h4), g.thr R⟩
  exact comp_read (O.O.hot0 hh) ho z
/-- it no longer changes -/
theorem ss_frz {ss : List Stmt} {i : Nat} {xs : List St} (h : PSs X ss (tSs c W F xs)) : PSs X ss (tSs c W F (.frz i :: xs)) := by
  refine PSs.imp h fun D σ H ⟨ρ, M, D', R, w, g⟩ => ?_
  obtain ⟨d, e1, w1⟩ := ob_some w
  obtain ⟨a, e2, w2⟩ := onR_ref w1
  obtain ⟨o, e3, io, w3⟩ := ob_some w2
  clear w1 w
  subst e2
  have mi : Mono M H (del M a) H := Mono.ice
  have hn : Un c.mg (del M a) a := ⟨del_same, fun z => by
    have := (R.mem.hid a z).1
    rw [e3] at this; cases this⟩
  obtain ⟨v, ev, rv⟩ := R.env i _ e1
  cases (show v = V.ref a from rv)
  have ro : Rep c.mg (del M a) H o.ice (.ref a) := by
    have st := R.mem.std a o e3
    match o, io, st with
    | .lst xs, _, ⟨vs, q, r⟩ => exact ⟨a, vs, rfl, hn, .inl q, r.mono mi⟩
    | .dct false kvs, _, ⟨ws, q, r⟩ => exact ⟨a, rfl, hn, ws, .inl q, r.mono mi⟩
    | .dct true kvs, _, ⟨ws, q, r⟩ => exact ⟨a, rfl, hn, ws, .inl q, r.mono mi⟩
    | .ins C fs, _, ⟨cc, dx, ws, q, gg, r⟩ => exact ⟨a, cc, dx, ws, rfl, hn, .inl q, gg, r.mono mi⟩
    | .tup xs, io, ⟨ob, vs, q, _, r⟩ => exact ⟨a, vs, rfl, hn, .inr ⟨io, ob, q⟩, r.mono mi⟩
  have R1 := R.mono mi R.mem.ice
  have R2 : Rp c (ρ.set i (some o.ice)) (del M a) σ H := by
    have lam : ∀ z, c.lam = some z → lk (ρ.set i (some o.ice)) 0 = some (.clo z.l z.ρ) ∧ σ[0]? = some (some (.ref z.a)) ∧ CloAt c.mg (del M a) H z := fun z e => by
      obtain ⟨l1, l2, l3⟩ := R1.lam z e
      have ne : i ≠ 0 := by
        rintro rfl
        rw [e1] at l1
        cases l1
      refine ⟨?_, l2, l3⟩
      by_cases hi : i < ρ.length
      · rw [lk_set hi, if_neg (Ne.symm ne)]; exact l1
      · rw [List.set_eq_of_length_le (by omega)]; exact l1
    refine ⟨by simpa using R1.len, fun j e h => ?_, R1.mem, R1.xi, lam⟩
    by_cases hi : i < ρ.length
    · rw [lk_set hi] at h
      by_cases z : j = i
      · subst z
        rw [if_pos rfl] at h
        cases h
        exact ⟨_, ev, ro⟩
      · rw [if_neg z] at h
        exact R1.env j e h
    · rw [List.set_eq_of_length_le (by omega)] at h
      exact R1.env j e h
  exact ⟨_, _, D', R2, w3, g.mono mi⟩
end
mutual
theorem sS : ∀ (x : St) {X : Cx} {k : Ck} {F : Sem} {c : LC} {W : WX} (_ : OkS X k F c W) {s : Stmt}, chkS k x s = true → PS X s (tS c W F x)
  | .asg t x, X, k, F, c, W, O, s, h => by
    unfold chkS at h
    split at h <;> first | (cases h; done) | skip
    rename_i tg v pos
    have hc : ∀ {t : Tg}, chkTg k t tg = true → ∀ env : PySem.Env, assignEach [tg] env = [(false, assign tg env)] := fun h env => by rw [chkTg_cons h] <;> rfl
    cases t with
    | nm i =>
      obtain ⟨h, h4⟩ := band h
      obtain ⟨h, h3⟩ := band h
      obtain ⟨h1, h2⟩ := band h
      cases hn : noComp v with
      | true => exact st_asg (sg O.O h1) (hc h1) (sE x O.O h2).1 hn h3
      | false =>
        rw [hn, Bool.false_or] at h4
        rcases Bool.or_eq_true_iff.mp h4 with h4 | h4
        · cases tg <;> first | (cases h1; done) | skip
          cases v <;> first | (cases hn; done) | skip
          · exact st_lc O h1 h4 h2
          · cases h4
          · cases h4
        · exact st_asg0 (sg O.O h1) (hc h1) (sE x O.O h2).1 (lcNo_ok O.O h4) (noSwap_st h3)
    | tu ts =>
      rcases Bool.or_eq_true_iff.mp h with h | h
      · obtain ⟨h, h4⟩ := band h
        obtain ⟨h, h3⟩ := band h
        obtain ⟨h1, h2⟩ := band h
        rcases Bool.or_eq_true_iff.mp h3 with h3 | h3
        · exact st_asg (sg O.O h1) (hc h1) (sE x O.O h2).1 h4 h3
        · exact st_asg0 (sg O.O h1) (hc h1) (sE x O.O h2).1 (noComp_swaps h4) (noSwapK_ok O.O h3)
      · split at h <;> first | (cases h; done) | skip
        · obtain ⟨h, h3⟩ := band h
          obtain ⟨h1, h2⟩ := band h
          obtain ⟨p1, _, p3, _⟩ := sEs _ O.O h3
          exact st_par O (bnot h1) h2 p1 p3
        · obtain ⟨h, h3⟩ := band h
          obtain ⟨h1, h2⟩ := band h
          obtain ⟨p1, _, p3, _⟩ := sEs _ O.O h3
          exact st_par3 O (bnot h1) h2 p1 p3
  | .asub o i e, X, k, F, c, W, O, s, h => by
    unfold chkS at h
    split at h <;> first | (cases h; done) | skip
    obtain ⟨h, h5⟩ := band h
    obtain ⟨h, h4⟩ := band h
    obtain ⟨h, h3⟩ := band h
    obtain ⟨h1, h2⟩ := band h
    exact st_asub O.O h1 h2 (sE o O.O h3).1 (sE i O.O h4).1 (sE e O.O h5).1
  | .afld _ _ _, X, k, F, c, W, O, s, h => by cases h
  | .aug i op e, X, k, F, c, W, O, s, h => by
    unfold chkS at h
    split at h <;> first | (cases h; done) | skip
    obtain ⟨h, h4⟩ := band h
    obtain ⟨h, h3⟩ := band h
    obtain ⟨h1, h2⟩ := band h
    cases (eqOp_ok h2)
    exact st_aug O.O h3 h1 (sE e O.O h4).1
  | .augs o i op e, X, k, F, c, W, O, s, h => by
    unfold chkS at h
    split at h <;> first | (cases h; done) | skip
    obtain ⟨h, h6⟩ := band h
    obtain ⟨h, h5⟩ := band h
    obtain ⟨h, h4⟩ := band h
    obtain ⟨h, h3⟩ := band h
    obtain ⟨h1, h2⟩ := band h
    cases (eqOp_ok h2)
    exact st_augs O.O h3 h1 (sE o O.O h4).1 (sE i O.O h5).1 (sE e O.O h6).1
  | .augf _ _ _ _, X, k, F, c, W, O, s, h => by cases h
  | .expr e, X, k, F, c, W, O, s, h => by
    unfold chkS at h
    split at h <;> first | (cases h; done) | skip
    obtain ⟨h1, h2⟩ := band h
    exact st_expr (sE e O.O h2).1 h1
  | .ret e, X, k, F, c, W, O, s, h => by
    unfold chkS at h
    split at h <;> first | (cases h; done) | skip
    exact st_ret (sE e O.O h).1
  | .retN, X, k, F, c, W, O, s, h => by
    unfold chkS at h
    split at h <;> first | (cases h; done) | skip
    exact st_retN
  | .ifs d a b, X, k, F, c, W, O, s, h => by
    unfold chkS at h
    split at h <;> first | (cases h; done) | skip
    obtain ⟨h, h4⟩ := band h
    obtain ⟨h, h3⟩ := band h
    obtain ⟨h1, h2⟩ := band h
    exact st_if ((sE d O.O h1).2 (bnot h2)) (sSs a O h3) (sSs b O h4)
  | .for t ik es b, X, k, F, c, W, O, s, h => by
    unfold chkS at h
    split at h <;> first | (cases h; done) | skip
    obtain ⟨h, h5⟩ := band h
    obtain ⟨h, h4⟩ := band h
    obtain ⟨h, h3⟩ := band h
    obtain ⟨h1, h2⟩ := band h
    split at h2 <;> first | (cases h2; done) | skip
    rename_i as has
    obtain ⟨p1, p2, p3, p4⟩ := sEs es O.O h2
    obtain ⟨q1, q2⟩ := sI (t := t) O.O has h3 p4 p1 p2 p3 fun ts et => tg_tupC (k := k) (ts := ts) (by rw [← et]; exact h4)
    exact st_for (O.po (bnot h1)) (O.O.calm (bnot h1)) q1 (sg O.O h4) (sSs b O h5) q2
  | .whl d b, X, k, F, c, W, O, s, h => by
    unfold chkS at h
    split at h <;> first | (cases h; done) | skip
    obtain ⟨h, h4⟩ := band h
    obtain ⟨h, h3⟩ := band h
    obtain ⟨h1, h2⟩ := band h
    exact st_whl (O.po (bnot h1)) ((sE d O.O h2).2 (bnot h3)) (sSs b O h4)
  | .brk, X, k, F, c, W, O, s, h => by
    unfold chkS at h
    split at h <;> first | (cases h; done) | skip
    exact st_brk
  | .cont, X, k, F, c, W, O, s, h => by
    unfold chkS at h
    split at h <;> first | (cases h; done) | skip
    exact st_cont
  | .pass, X, k, F, c, W, O, s, h => by
    unfold chkS at h
    split at h <;> first | (cases h; done) | skip
    exact st_pass
  | .raise C es, X, k, F, c, W, O, s, h => by
    unfold chkS at h
    split at h <;> first | (cases h; done) | skip
    rename_i x q1 es' q2 q3
    obtain ⟨h, h5⟩ := band h
    obtain ⟨h, h4⟩ := band h
    obtain ⟨h, h3⟩ := band h
    obtain ⟨h1, h2⟩ := band h
    cases (beq_iff_eq.mp h3)
    obtain ⟨p1, p2, p3, _⟩ := sEs es O.O h4
    cases es' with
    | nil =>
      cases es with
      | nil => exact st_raise O.O (bnot h1) (sx_nil O.O h2)
      | cons _ _ => simp at p3
    | cons e1 es' =>
      obtain ⟨q1, q2⟩ := band (show (!isStar e1 && noStars es') = true from p2)
      exact st_raise O.O (bnot h1) (sx_cons O.O (bnot h1) h2 p1 (bnot q1) q2 p3 (of_decide_eq_true h5))
  | .try b hs, X, k, F, c, W, O, s, h => by
    unfold chkS at h
    split at h <;> first | (cases h; done) | skip
    rename_i b' hs' pos
    obtain ⟨h, h5⟩ := band h
    obtain ⟨h, h4⟩ := band h
    obtain ⟨h, h3⟩ := band h
    obtain ⟨h1, h2⟩ := band h
    have hh := bnot h1
    have hb : ∀ (W' : WX) (X' : Cx), OkS X' k F c W' → PSs X' b' (tSs c W' F b) := fun W' X' O' => sSs b O' h2
    obtain ⟨z1, z2⟩ := sHs hs O hh h5 hb
    by_cases hn : hs.all (·.2.1.isNone) = true
    · obtain ⟨l, l1, l2⟩ := z1 hn
      cases hs' with
      | nil =>
        cases hs with
        | nil => cases h3
        | cons p _ => obtain ⟨_, _, _⟩ := p; cases h5
      | cons hd hds => exact st_try_many O hh hb l1 l2
    · have hn : hs.all (·.2.1.isNone) = false := by simpa using hn
      rw [hn, Bool.or_false] at h4
      exact z2 hn (of_decide_eq_true h4) pos
  | .frz _, X, k, F, c, W, O, s, h => by cases h
theorem sSs : ∀ (xs : List St) {X : Cx} {k : Ck} {F : Sem} {c : LC} {W : WX} (_ : OkS X k F c W) {ss : List Stmt}, chkSs k xs ss = true → PSs X ss (tSs c W F xs)
  | [], X, k, F, c, W, O, ss, h => by
    unfold chkSs at h
    split at h <;> first | (cases h; done) | skip
    exact ss_nil
  | x :: xs, X, k, F, c, W, O, ss, h => by
    unfold chkSs at h
    split at h
    · obtain ⟨h1, h2⟩ := band h
      exact ss_frz (sSs xs O h2)
    · split at h <;> first | (cases h; done) | skip
      obtain ⟨h1, h2⟩ := band h
      exact ss_cons (sS x O h1) (sSs xs O h2)
theorem sHs : ∀ (hs : List (String × Option Nat × List St)) {X : Cx} {k : Ck} {F : Sem} {c : LC} {W : WX} (_ : OkS X k F c W) (_ : k.hot = false) {hs' : List ExceptHandler} {b : List St} {b' : List Stmt}, chkHs k hs hs' = true → (∀ (W' : WX) (X' : Cx), OkS X' k F c W' → PSs X' b' (tSs c W' F b)) →
    (hs.all (·.2.1.isNone) = true → ∃ l, HdsOk X hs' l ∧ HdsR X F c hs l) ∧ (hs.all (·.2.1.isNone) = false → hs.length = 1 → ∀ pos, PS X (.Try b' hs' [] [] pos) (tS c W F (.try b hs)))
  | [], X, k, F, c, W, O, hh, hs', b, b', h, hb => by
    unfold chkHs at h
    split at h <;> first | (cases h; done) | skip
    exact ⟨fun _ => ⟨[], .nil, hdsR_nil⟩, fun z => nomatch z⟩
  | (C, n, bs) :: r, X, k, F, c, W, O, hh, hs', b, b', h, hb => by
    unfold chkHs at h
    split at h <;> first | (cases h; done) | skip
    rename_i x q1 m su q2 r'
    obtain ⟨h, h6⟩ := band h
    obtain ⟨h, h5⟩ := band h
    obtain ⟨h, h4⟩ := band h
    obtain ⟨h, h3⟩ := band h
    obtain ⟨h1, h2⟩ := band h
    cases (beq_iff_eq.mp h2)
    have hC : C ∈ k.cls := by simpa using h3
    obtain ⟨a2, ha2⟩ := O.O.cat C hC
    obtain ⟨gl, hdb, hnn⟩ := O.O.glo h1
    cases su with
    | nil => cases h4
    | cons b₀ su =>
      cases n with
      | none =>
        cases m with
        | some _ => cases h5
        | none =>
          refine ⟨fun hn => ?_, fun hn hl => ?_⟩
          · obtain ⟨l, l1, l2⟩ := (sHs r O hh h6 hb).1 (by simpa using hn)
            refine ⟨_, .cons ⟨gl, hdb, .inl ha2⟩ (fun a oe cls d pn hz hf => ?_) l1, hdsR_cons O.O hh hC ha2 l2⟩
            exact sSs bs ⟨O.O.suite (xs := k.xs) (xi := none) (cur := none) (fun j a' cls' d' ε' e => nomatch e) (fun ε' e => nomatch e) (fun i' a' cls' d' ε' e => nomatch e), O.kind, fun h => (nomatch h), fun h => (nomatch h)⟩ h5
          · have : r = [] := List.length_eq_zero_iff.mp (by simpa using hl)
            subst this
            simp at hn
      | some i =>
        cases m with
        | none => cases h5
        | some nm =>
          obtain ⟨h5, h9⟩ := band h5
          obtain ⟨h5, h8⟩ := band h5
          obtain ⟨h7, h10⟩ := band h5
          have : r = [] := by simpa using h7
          subst this
          refine ⟨fun hn => by simp at hn, fun _ _ pos => ?_⟩
          unfold chkHs at h6
          split at h6 <;> first | (cases h6; done) | skip
          exact st_try_as O hh h1 hC ha2 h10 h8 hb fun X' c' ε O' => sSs bs O' h9
end
end Dee

set_option Elab.async false
set_option linter.all false
set_option autoImplicit false
set_option maxRecDepth 100000
set_option maxHeartbeats 1000000
/-! Dee: the defs of a program keep their promises, level by level. -/
namespace Dee
open PySem PySem.Spec PyProof.Rows L2
/-- one def of the table: its name, where it stands, its slots' names, its parameters; it takes a lambda; it makes lambdas -/
structure Ent where
  nm : Str
  d : He.DefD
  N : List Str
  ps : List Str
  lf : Bool
  lm : Bool
def fnsOf (es : List Ent) : Nat → Option (Str × Nat) := fun f => match es[f]? with | some e => if e.lf then none else some (e.nm, e.ps.length) | none => none
def lfsOf (es : List Ent) : Nat → Option Str := fun f => match es[f]? with | some e => if e.lf then some e.nm else none | none => none
/-- where a lambda's text stands -/
def lamCk (es : List Ent) (cls : List String) (e : Ent) (scope : Scope) : Ck := { N := e.N, sc := scope, own := [], hot := false, xs := none, fns := fnsOf es, cls := cls }
def lokOf (es : List Ent) (cls : List String) (lams : List Ex) (e : Ent) : Nat → Expr → Scope → Bool := fun l body scope =>
  (e.lm && !e.lf) && (match lams[l]? with | some b => chkE (lamCk es cls e scope) b body | none => false) && LamX.lamSB e.d.scope scope
def ckOf (es : List Ent) (cls : List String) (lams : List Ex) (e : Ent) : Ck :=
  { N := e.N, sc := e.d.scope, own := e.d.scope.names, hot := false, xs := none, fns := fnsOf es, cls := cls, act := e.lf, lfs := lfsOf es, lok := lokOf es cls lams e }
/-- what the text says of a def -/
structure TextOk (P : Prog) (es : List Ent) (cls : List String) (i : Nat) (e : Ent) : Prop where
  ex : ∃ fn, P.fns[i]? = some fn ∧ fn.ps = e.ps.length ∧ fn.ns = e.N.length ∧ chkSs (ckOf es cls P.lams e) fn.body e.d.body = true
  sc : FnScope e.N e.ps e.d.scope
structure PF (prog : Program) (w : World) (K : PySem.W.Frag) (mg : Str → Option Value) (base : Heap) (P : Prog) (es : List Ent) (cls : List String) (T0 : List (Addr × Str)) : Prop where
  text : ∀ (i : Nat) (e : Ent), es[i]? = some e → TextOk P es cls i e
  def_ : ∀ (i : Nat) (e : Ent), es[i]? = some e → ∃ ad fd, mg e.nm = some (.ref ad) ∧ FunD K e.d.name e.d.qual e.d.params e.d.body e.d.scope [] [] ad fd ∧ Binds K fd e.ps []
  blt : ∀ x ∈ blts, mg x = none
  xf : ∀ C fs, P.xf C = some fs → ∃ a, XFact prog w K mg base C fs a
  sub : ∀ C1 fs, P.xf C1 = some fs → ∀ C2 ∈ cls, ∃ a1 a2, mg (Str.ofString C1) = some (.ref a1) ∧ mg (Str.ofString C2) = some (.ref a2) ∧ PySem.W.exmOne K (.ref a1) (.ref a2) = some (P.sub C1 C2)
  cat : ∀ C ∈ cls, ∃ a, mg (Str.ofString C) = some (.ref a)
  glb : ∀ x d, P.glo x = some d → ∃ u v, mg (Str.ofString x) = some u ∧ RelV v u ∧ ∀ (g : Gm) (M : Mem) (H : Hp), Rep g M H d v
  tab : ∀ (i : Nat) (e : Ent), es[i]? = some e → e.lm = true → ∀ (ad : Addr) (fd : FuncData) (oc : Value) (od : Option Addr) (osl : Array (Option Value)), mg e.nm = some (.ref ad) → K.lookup ad = some ⟨oc, od, .func fd, osl⟩ → ∃ c0 Pt, fd.code = .ref c0 ∧ LamX.TabB base mg c0 Pt ∧ (Pt, e.d.qual ++ ".<locals>." ++ "<lambda>") ∈ T0 ∧ ∀ p ∈ T0, p.1 = Pt → p.2 = e.d.qual ++ ".<locals>." ++ "<lambda>"
theorem lk_lt {ds : List D} {n i : Nat} {d : D} (h : lk (ds.map some ++ List.replicate n none) i = some d) : ds[i]? = some d := by
  rw [lk_get] at h
  by_cases hi : i < ds.length
  · rw [List.getElem?_append_left (by simpa using hi), List.getElem?_map] at h
    rw [List.getElem?_eq_getElem hi] at h ⊢
    exact h
  · rw [List.getElem?_append_right (by simpa using hi), List.getElem?_replicate] at h
    split at h <;> cases h
theorem rp_start {g : Gm} {ds : List D} {vs : List V} {M : Mem} {H : Hp} {N : List Str} {n p : Nat} (rs : RepL g M H ds vs) (mr : MRep g M H) (hn : n = N.length) (hp : ds.length = p) : Rp ⟨g, none, none⟩ (ds.map some ++ List.replicate (n - p) none) M (L2.start N vs) H := by
  have hl := rs.length
  refine ⟨by unfold L2.start; simp; omega, fun i d h => ?_, mr, fun _ _ _ _ _ e => (by cases e), fun _ e => (by cases e)⟩
  have h := lk_lt h
  obtain ⟨v, e, r⟩ := rs.get h
  refine ⟨v, ?_, r⟩
  unfold L2.start
  have hi : i < vs.length := (List.getElem?_eq_some_iff.mp e).1
  rw [List.getElem?_append_left (by simpa using hi), List.getElem?_map, e]
  rfl
theorem isLoc_ok {sc : Scope} {x : Str} (h : isLoc (sc.names.lookup x) = true) : L2.Loc sc x := by
  unfold isLoc at h
  split at h
  · rename_i q; exact .inl q
  · rename_i q; exact .inr q
  · cases h
section
variable {prog : Program} {w : World} {K : PySem.W.Frag} {mg : Str → Option Value} {base : Heap} {P : Prog} {es : List Ent} {cls : List String} {T0 : List (Addr × Str)}
/-- the defs' promises at a level -/
def CallsOk (prog : Program) (w : World) (K : PySem.W.Frag) (mg : Str → Option Value) (base : Heap) (es : List Ent) (T0 : List (Addr × Str)) (j : Nat) (call : Nat → List D → Mem → Dee.K → KX → Prop) : Prop :=
  ∀ (f : Nat) (e : Ent), es[f]? = some e → e.lf = false → ∀ (ad : Addr) (fd : FuncData), mg e.nm = some (.ref ad) → FunD K e.d.name e.d.qual e.d.params e.d.body e.d.scope [] [] ad fd → ∀ g : Gm, g.mg = mg → g.T = T0 →
    FnOk prog w K mg base (L2.CX prog w) j ad fd e.ps (spF ⟨g, none, none⟩ (call f))
theorem calls_zero {j : Nat} : CallsOk prog w K mg base es T0 j (wCall P 0) := fun f e he hl ad fd hm F g hg hT =>
  ⟨fun vs H Q E ⟨_, _, _, _, _, _, z, _⟩ => z.elim, fun _ _ _ _ _ _ _ _ _ _ _ _ _ ⟨_, _, _, _, _, _, z, _⟩ => z.elim⟩
theorem fnsOf_ok {f : Nat} {p : Str × Nat} (h : fnsOf es f = some p) : ∃ e, es[f]? = some e ∧ e.lf = false ∧ p = (e.nm, e.ps.length) := by
  unfold fnsOf at h
  split at h
  · rename_i e q
    split at h
    · cases h
    · rename_i z
      cases h
      exact ⟨e, q, by simpa using z, rfl⟩
  · cases h
theorem lfsOf_ok {f : Nat} {p : Str} (h : lfsOf es f = some p) : ∃ e, es[f]? = some e ∧ e.lf = true ∧ p = e.nm := by
  unfold lfsOf at h
  split at h
  · rename_i e q
    split at h
    · rename_i z
      cases h
      exact ⟨e, q, z, rfl⟩
    · cases h
  · cases h
theorem fns_at (T : PF prog w K mg base P es cls T0) {j : Nat} {call : Nat → List D → Mem → Dee.K → KX → Prop} (C : CallsOk prog w K mg base es T0 j call) {A : Around} (hr : Room j A) {g : Gm} (hg : g.T = T0) : ∀ f p, fnsOf es f = some p →
    ∃ ad fd ps j, mg p.1 = some (.ref ad) ∧ PySem.W.keepIn K (.ref ad) = true ∧ Binds K fd ps [] ∧ Room j A ∧ ∀ g' : Gm, g'.mg = mg → g'.T = g.T → FnOk prog w K mg base (L2.CX prog w) j ad fd ps (spF ⟨g', none, none⟩ (call f)) := fun f p hp => by
  obtain ⟨e2, he2, hl2, rfl⟩ := fnsOf_ok hp
  obtain ⟨ad2, fd2, m2, F2, B2⟩ := T.def_ f e2 he2
  exact ⟨ad2, fd2, e2.ps, j, m2, F2.kp, B2, hr, fun g' h1 h2 => C f e2 he2 hl2 ad2 fd2 m2 F2 g' h1 (h2.trans hg)⟩
theorem band' {a b : Bool} (h : (a && b) = true) : a = true ∧ b = true := Bool.and_eq_true_iff.mp h
/-- a lambda's body -/
theorem lam_body (T : PF prog w K mg base P es cls T0) {j : Nat} {c c1 : Nat → List D → Mem → Dee.K → KX → Prop} {l : Nat → Env → Mem → Dee.K → KX → Prop} (C : CallsOk prog w K mg base es T0 (j + 3) c) {g : Gm} (hg : g.mg = mg) (hT : g.T = T0) {e : Ent} (S : FnScope e.N e.ps e.d.scope) {b : Ex} {body : Expr} {scope : Scope} (hb : chkE (lamCk es cls e scope) b body = true)
    {X : Cx} (x1 : X.prog = prog) (x2 : X.w = w) (x3 : X.K = K) (x4 : X.mg = mg) (x5 : X.base = base) (x6 : X.N = e.N) (A : Around) (outer : List PySem.Env) (s : Shared) (H : Hp) (E : XK) (f c' : Addr) (hr : Room (j + 3) (A.deeper (LamX.lamEnv X scope s.heap.objs.size f c'))) :
    PE (LamX.lamCx X A outer s H E scope f c') body (tE ⟨g, none, none⟩ (fun cls d _ H' => E cls d H') (semOf P c c1 l) b) := by
  subst x1 x2 x3 x4 x5
  refine (sE b (F := semOf P c c1 l) (k := lamCk es cls e scope) (c := ⟨g, none, none⟩) (W := fun cls d _ H' => E cls d H') ?_ hb).1
  exact {
    N := x6
    nd := by
      show X.N.Nodup
      rw [x6]; exact S.nd
    sc := rfl
    own := fun x h => nomatch h
    calm := fun _ => rfl
    un := hr.units
    mg := hg
    blt := T.blt
    tk := takes_of rfl rfl rfl rfl
    xs := fun _ _ _ _ _ z => by cases z
    hot0 := fun _ => rfl
    fns := fun _ => fns_at T C hr hT
    cur := fun ε z => by cases z
    sui := fun _ _ _ _ _ z => by cases z
    xf := T.xf
    sub := T.sub
    room := fun _ => hr.mono (by omega)
    cat := T.cat
    glb := T.glb
    lam1 := fun z => by cases z
    actz := fun _ z => nomatch z
    job := fun _ f x z => nomatch z }
/-- the def that took the lambda, entered -/
theorem give_body (T : PF prog w K mg base P es cls T0) {k : Nat} (C : CallsOk prog w K mg base es T0 (k + 5) (wCall P k)) {g : Gm} (hg : g.mg = mg) (hT : g.T = T0) {i : Nat} {e : Ent} (he : es[i]? = some e) (hlf : e.lf = true) {b : Ex} {z : CloI} (hb : P.lams[z.l]? = some b)
    (hz : ∀ E, z.tl E = tE ⟨g, none, none⟩ (fun cls d _ H' => E cls d H') (semOf P (wCall P (k - 1)) (wCall P (k - 2)) fun _ _ _ _ _ => False) b z.σ) {f : Addr} {cdv : Value} {A : Around} {outer : List PySem.Env} {s : Shared} {H : Hp}
    (hr : Room (k + 5) (A.deeper (envOfC e.d.qual e.d.scope s.heap.objs.size f cdv))) (act : Act (cxOf C8.CX0 prog w K mg base e.N e.d.qual e.d.scope f cdv A outer s H C8.E0) z) {ds : List D} {M : Mem} {vs : List V} {Q' : Dee.K} {Q : VK}
    (rs : RepL g M H (.clo z.l z.ρ :: ds) (.ref z.a :: vs)) (ca : CloAt g M H z) (mr : MRep g M H) (w1 : wCall P (k + 1) i (.clo z.l z.ρ :: ds) M Q' (fun _ _ => False)) (gg : Goes ⟨g, none, none⟩ M H Q' Q) :
    ∃ t, PSs (cxOf C8.CX0 prog w K mg base e.N e.d.qual e.d.scope f cdv A outer s H C8.E0) e.d.body t ∧ t { nx := fun _ H' => Q .non H', rt := Q } (L2.start e.N (.ref z.a :: vs)) H := by
  obtain ⟨⟨fn, hfn, hps, hns, hck⟩, S⟩ := T.text i e he
  rw [wCall_succ, hfn] at w1
  obtain ⟨hl, w1⟩ := w1
  have R0 := rp_start (N := e.N) (n := fn.ns) (p := fn.ps) rs mr hns hl
  have R : Rp ⟨g, none, some z⟩ ((D.clo z.l z.ρ :: ds).map some ++ List.replicate (fn.ns - fn.ps) none) M (L2.start e.N (.ref z.a :: vs)) H :=
    ⟨R0.len, R0.env, R0.mem, fun _ _ _ _ _ e => (by cases e), fun z' q => by
      cases q
      exact ⟨rfl, rfl, ca⟩⟩
  refine ⟨tSs ⟨g, none, some z⟩ (fun _ _ _ _ => False) (semAt P k) fn.body, sSs fn.body (k := ckOf es cls P.lams e) ⟨?_, S.kind, fun _ => passes_of rfl, fun _ => ⟨rfl, rfl⟩⟩ hck, _, M, _, R, w1, ?_⟩
  · exact {
      N := rfl
      nd := S.nd
      sc := rfl
      own := fun x h => ⟨isLoc_ok h, .inl rfl⟩
      calm := fun _ => rfl
      un := hr.units
      mg := hg
      blt := T.blt
      tk := LamX.takes0
      xs := fun _ _ _ _ _ z => by cases z
      hot0 := fun _ => rfl
      fns := fun _ => fns_at T C hr hT
      cur := fun ε z => by cases z
      sui := fun _ _ _ _ _ z => by cases z
      xf := T.xf
      sub := T.sub
      room := fun _ => hr.mono (by omega)
      cat := T.cat
      glb := T.glb
      lam1 := fun _ => hlf
      actz := fun _ _ => ⟨z, cxOf C8.CX0 prog w K mg base e.N e.d.qual e.d.scope f cdv A outer s H C8.E0, _, _, rfl, rfl, act, fun M' H' Q1 E1 Q2 E2 w2 ca2 mr2 g2 t2 => by
        have w2 : ob P.lams[z.l]? (fun b => wE (semOf P (wCall P (k - 1)) (wCall P (k - 2)) fun _ _ _ _ _ => False) b z.ρ M' Q1 E1) := w2
        rw [hb] at w2
        rw [hz]
        exact ⟨z.ρ, M', Q1, E1, ⟨ca2.len, ca2.env, mr2, fun _ _ _ _ _ e => (by cases e), fun _ e => (by cases e)⟩, w2, g2, t2⟩⟩
      job := fun _ f x _ l body scope h => by
        have h : lokOf es cls P.lams e l body scope = true := h
        unfold lokOf at h
        rw [hlf] at h
        simp at h }
  · exact ⟨fun ρ' M' σ' H' q m R' => gg .non M' .non H' q m R'.mem rfl, fun d M' v H' q m mr' r => gg d M' v H' q m mr' r, fun _ _ _ _ q => q.elim, fun _ _ _ _ q => q.elim, fun ε ρ' M' cls d σ' H' q m R' rx => q.elim⟩
theorem job_at (T : PF prog w K mg base P es cls T0) {k : Nat} (C1 : CallsOk prog w K mg base es T0 (k + 4) (wCall P (k - 1))) (C2 : CallsOk prog w K mg base es T0 (k + 3) (wCall P (k - 2))) {g : Gm} (hg : g.mg = mg) (hT : g.T = T0) {i : Nat} {e : Ent} (he : es[i]? = some e) (S : FnScope e.N e.ps e.d.scope)
    {ad : Addr} {fd : FuncData} {oc : Value} {od : Option Addr} {osl : Array (Option Value)} (hm : mg e.nm = some (.ref ad)) (lk : K.lookup ad = some ⟨oc, od, .func fd, osl⟩) {CX : CXT} {A : Around} {outer : List PySem.Env} {s : Shared} {H : Hp} {E : XK}
    (hr : Room (k + 5) (A.deeper (envOfC e.d.qual e.d.scope s.heap.objs.size ad fd.code))) (f : Nat) (x : Str) (hf : lfsOf es f = some x) (l : Nat) (body : Expr) (scope : Scope) (hl : lokOf es cls P.lams e l body scope = true) :
    LamJob (cxOf CX prog w K mg base e.N e.d.qual e.d.scope ad fd.code A outer s H E) ⟨g, none, none⟩ (semAt P k) f l x body scope := by
  obtain ⟨e2, he2, hlf2, rfl⟩ := lfsOf_ok hf
  obtain ⟨ad2, fd2, m2, F2, B2⟩ := T.def_ f e2 he2
  obtain ⟨oc2, od2, dV, kV, doc, pm, an, cdv, ct, osl2, hfd, lk2, hcd, _, _⟩ := F2.ex
  obtain ⟨⟨fn2, hfn2, hps2, hns2, hck2⟩, S2⟩ := T.text f e2 he2
  unfold lokOf at hl
  obtain ⟨hl, hls⟩ := band' hl
  obtain ⟨hl1, hl2⟩ := band' hl
  obtain ⟨hlm, _⟩ := band' hl1
  split at hl2 <;> first | (cases hl2; done) | skip
  rename_i b hb
  obtain ⟨c0, Pt, hcode, TB, hmem, huni⟩ := T.tab i e he hlm ad fd oc od osl hm lk
  have L : LamX.LamS e.d.scope scope := LamX.lamS_by hls
  have hmem' : (Pt, e.d.qual ++ ".<locals>." ++ "<lambda>") ∈ g.T := by rw [hT]; exact hmem
  have huni' : ∀ p ∈ g.T, p.1 = Pt → p.2 = e.d.qual ++ ".<locals>." ++ "<lambda>" := by rw [hT]; exact huni
  refine ⟨ad2, fd2, e2.N, e2.ps, e2.d.name, e2.d.qual, e2.d.params, e2.d.body, e2.d.scope, dV, kV, doc, pm, cdv, ct, oc2, an, od2, osl2, k + 3, c0, Pt, fun E => tE ⟨g, none, none⟩ (fun cls d _ H' => E cls d H') (semOf P (wCall P (k - 2)) (wCall P (k - 3)) fun _ _ _ _ _ => False) b,
    m2, F2.kp, lk2, hfd, hcd, B2, S2, hcode, TB, hmem', huni', hr, L, ?_, ?_, ?_⟩
  · intro A' outer' s' H' E' f' c' hr'
    exact lam_body T C2 hg hT S hl2 rfl rfl rfl rfl rfl rfl A' outer' s' H' E' f' c' hr'
  · intro ds M Q' E' h
    have h : wCall P k f ds M Q' E' := h
    cases k with
    | zero => exact h.elim
    | succ k =>
      rw [wCall_succ, hfn2] at h
      rw [h.1, hps2]
  · intro s' H' z hz1 hz2 hr' act ds M vs Q' Q rs ca mr h gg
    have h : wCall P k f (.clo z.l z.ρ :: ds) M Q' (fun _ _ => False) := h
    cases k with
    | zero => exact h.elim
    | succ k =>
      exact give_body T C1 hg hT he2 hlf2 (by rw [hz1]; exact hb) (fun E => by rw [hz2] <;> rfl) hr' act rs ca mr h gg
theorem level_le (T : PF prog w K mg base P es cls T0) : ∀ n k, k ≤ n → CallsOk prog w K mg base es T0 (k + 5) (wCall P k)
  | _, 0, _ => calls_zero
  | n + 1, k + 1, hk => fun i e he hlf ad fd hm F g hg hT => by
    have ih : ∀ j, j ≤ n → CallsOk prog w K mg base es T0 (j + 5) (wCall P j) := fun j hj => level_le T n j hj
    have C1 : CallsOk prog w K mg base es T0 (k + 4) (wCall P (k - 1)) := by
      cases k with
      | zero => exact calls_zero
      | succ k => exact ih k (by omega)
    have C2 : CallsOk prog w K mg base es T0 (k + 3) (wCall P (k - 2)) := by
      match k, hk, ih with
      | 0, _, _ => exact calls_zero
      | 1, _, _ => exact calls_zero
      | k + 2, hk, ih => exact ih k (by omega)
    obtain ⟨⟨fn, hfn, hps, hns, hck⟩, S⟩ := T.text i e he
    obtain ⟨oc, od, dV, kV, doc, pm, an, cdv, ct, osl, hfd, lk, hcd, _, _⟩ := F.ex
    have lk0 := lk
    have hm0 := hm
    have cdv0 : fd.code = cdv := by rw [hfd] <;> rfl
    subst hfd
    refine fn_of lk hcd S (fun vs H Q E ⟨ds, M, Q', E', rs, mr, z, _⟩ => ?_) fun A outer s H vs Q E hr ⟨ds, M, Q', E', rs, mr, z, gg, tt⟩ => ?_
    · rw [wCall_succ, hfn] at z
      rw [← rs.length, z.1, hps]
    · rw [wCall_succ, hfn] at z
      obtain ⟨hl, z⟩ := z
      refine ⟨tSs ⟨g, none, none⟩ (fun cls d _ H => E cls d H) (semAt P k) fn.body, sSs fn.body (k := ckOf es cls P.lams e) ⟨?_, S.kind, fun _ => passes_of rfl, fun _ => ⟨rfl, rfl⟩⟩ hck, _, M, _, rp_start rs mr hns hl, z, ?_⟩
      · exact {
          N := rfl
          nd := S.nd
          sc := rfl
          own := fun x h => ⟨isLoc_ok h, .inl rfl⟩
          calm := fun _ => rfl
          un := hr.units
          mg := hg
          blt := T.blt
          tk := takes_of rfl rfl rfl rfl
          xs := fun _ _ _ _ _ z => by cases z
          hot0 := fun _ => rfl
          fns := fun _ => fns_at T (ih k (by omega)) hr hT
          cur := fun ε z => by cases z
          sui := fun _ _ _ _ _ z => by cases z
          xf := T.xf
          sub := T.sub
          room := fun _ => hr.mono (by omega)
          cat := T.cat
          glb := T.glb
          lam1 := fun z => by cases z
          actz := fun _ z => by
            have z : e.lf = true := z
            rw [hlf] at z
            cases z
          job := fun _ f x hf l body scope hlk => job_at T C1 C2 hg hT he S hm0 lk0 hr f x hf l body scope hlk }
      · exact ⟨fun ρ' M' σ' H' q m R' => gg .non M' .non H' q m R'.mem rfl, fun d M' v H' q m mr' r => gg d M' v H' q m mr' r, fun _ _ _ _ q => q.elim, fun _ _ _ _ q => q.elim, fun ε ρ' M' cls d σ' H' q m R' rx => tt ε M' cls d H' q m R'.mem rx⟩
theorem level (T : PF prog w K mg base P es cls T0) (k : Nat) : CallsOk prog w K mg base es T0 (k + 5) (wCall P k) := level_le T k k (Nat.le_refl _)
end
end Dee

set_option Elab.async false
set_option linter.all false
set_option autoImplicit false
set_option maxRecDepth 100000
set_option maxHeartbeats 1000000
/-! Dee: the head's facts: defs, free names, exception classes. -/
namespace Dee
open PySem PySem.Spec PyProof.Rows L2 He
/-- an exception class with an __init__ of its own -/
def oexB (K : PySem.W.Frag) (C : Addr) : Bool := (match K.lookup C with
  | some ⟨.type t, _, .cls cd, sl⟩ => decide (t = "type") && (match cd.mro, sl.toList with
    | .ref C' :: bm, [_, _, _, _, some (.builtin n), _] => decide (C' = C) && (decide (n = "ValueError.__new__") && (!cd.hasDel && (cd.hasDict && PySem.HandSPX.refsVE bm)))
    | _, _ => false)
  | _ => false) && decide (PySem.W.findIn K (.ref C) "__setattr__" = some (some (.builtin "object.__setattr__")))
theorem oexB_ok {K : PySem.W.Frag} {C : Addr} (h : oexB K C = true) (exC : PySem.W.subIn K (.ref C) (.type "BaseException") = some true) (tyC : PySem.W.typeIn K (.ref C) = some (.type "type")) (kC : PySem.W.keepIn K (.ref C) = true) : OexC K C := by
  obtain ⟨h, sa⟩ := band h
  refine ⟨?_, of_decide_eq_true sa, exC, tyC, kC⟩
  split at h
  · rename_i t dd cd sl ho
    obtain ⟨h0, h'⟩ := band h
    clear h
    cases (of_decide_eq_true h0)
    split at h'
    · rename_i C' bm k0 k1 k2 k3 n k5 hm hs
      obtain ⟨h1, ha⟩ := band h'
      obtain ⟨h2, hb⟩ := band ha
      obtain ⟨h3, hc⟩ := band hb
      obtain ⟨h4, h5⟩ := band hc
      clear h' ha hb hc
      cases (of_decide_eq_true h1)
      cases (of_decide_eq_true h2)
      have h6 := bnot h3
      clear h3
      obtain ⟨nm, bs, mro, ns, qn, hd, sn, sub, ab, col, del⟩ := cd
      dsimp only at hm h6 h4
      subst hm h6 h4
      have hsl : sl = #[k0, k1, k2, k3, some (.builtin "ValueError.__new__"), k5] := by
        obtain ⟨l⟩ := sl
        simp only at hs
        rw [hs]
      subst hsl
      exact ⟨nm, qn, ns, bs, bm, sn, sub, ab, col, dd, k0, k1, k2, k3, k5, ho, h5⟩
    · cases h'
  · cases h
/-- what is asked of an exception's class -/
def xB (K : PySem.W.Frag) (p : String × List String) : Bool :=
  (Fa.glo (Str.ofString p.1)).ok K && (xfB K (ga K (Str.ofString p.1)) && ((p.2.all fun f => (Fa.noat (Str.ofString p.1) (Str.ofString f)).ok K) && (decide (PySem.W.subIn K (.ref (ga K (Str.ofString p.1))) (.type "ValueError") = some true) &&
    (decide (PySem.W.typeIn K (.ref (ga K (Str.ofString p.1))) = some (.type "type")) && (PySem.W.keepIn K (.ref (ga K (Str.ofString p.1))) &&
      (if p.2.isEmpty then PySem.W.excIn K (ga K (Str.ofString p.1)) veBase "ValueError.__new__"
        else oexB K (ga K (Str.ofString p.1)) && (eqO (PySem.W.findIn K (.ref (ga K (Str.ofString p.1))) "__init__") (some (some (.ref (ma K (ga K (Str.ofString p.1)) "__init__")))) && decide (PySem.W.typeIn K (.ref (ma K (ga K (Str.ofString p.1)) "__init__")) = some (.type "function")))))))))
/-- all that is asked: the defs' names, the free names, the exceptions' classes, which is under which -/
def conK (K : PySem.W.Frag) (p : String × D) : Bool := match p.2 with
  | .int i => (Fa.int (Str.ofString p.1) i).ok K
  | .str z => (Fa.str (Str.ofString p.1) z).ok K
  | _ => false
def exK (es : List Ent) (exs : List (String × List String)) (cls : List String) (sub : String → String → Bool) (cons : List (String × D)) (K : PySem.W.Frag) : Bool :=
  (cons.all fun p => conK K p) && ((es.all fun e => (Fa.glo e.nm).ok K) && ((blts.all fun x => (Fa.free x).ok K) && ((exs.all fun p => xB K p) && ((cls.all fun c => (Fa.glo (Str.ofString c)).ok K) && (exs.all fun p => cls.all fun c => (Fa.exm (Str.ofString p.1) (Str.ofString c) (sub p.1 c)).ok K)))))
/-- a list's object -/
def isLst (o : Obj) : Bool := match o.cls with
  | .type t => decide (t = "list")
  | _ => false
/-- an empty table's object -/
def isTab (o : Obj) : Bool := match o with
  | ⟨.none, none, .fields vs, sl⟩ => vs.isEmpty && sl.isEmpty
  | _ => false
theorem isTab_ok {o : Obj} (h : isTab o = true) : o = PySem.W.tabObj #[] := by
  unfold isTab at h
  split at h
  · rename_i vs sl
    obtain ⟨h1, h2⟩ := band h
    have e1 : vs = #[] := by simpa using h1
    have e2 : sl = #[] := by simpa using h2
    subst e1 e2
    rfl
  · cases h
/-- a part of the heap, no list within, no empty table -/
def frL (g : Addr → Option Obj) (as : List Addr) : PySem.W.Frag := (frG g as).filter fun q => !isLst q.2 && !isTab q.2
theorem frL_mem {g : Addr → Option Obj} {as : List Addr} {a : Addr} {o : Obj} (h : (frL g as).lookup a = some o) : g a = some o ∧ isLst o = false ∧ isTab o = false := by
  have m := lookup_mem h
  unfold frL at m
  obtain ⟨m1, m2⟩ := List.mem_filter.mp m
  obtain ⟨m2, m3⟩ := band m2
  exact ⟨frG_mem m1, bnot m2, bnot m3⟩
theorem frL_in {as : List Addr} {h : Heap} : (frL h.get? as).In h := fun _ _ e => (frL_mem e).1
def NoLst (K : PySem.W.Frag) : Prop := ∀ a o, K.lookup a = some o → o.cls ≠ .type "list"
theorem frL_no {g : Addr → Option Obj} {as : List Addr} : NoLst (frL g as) := fun a o e z => by
  have h := (frL_mem e).2.1
  unfold isLst at h
  rw [z] at h
  simp at h
/-- the table of a def's code object -/
def tbP (K : PySem.W.Frag) (x : Str) : Addr := match PySem.W.tabIn K x with | some p => p.2 | none => 0
def tbC (K : PySem.W.Frag) (x : Str) : Addr := match PySem.W.tabIn K x with | some p => p.1 | none => 0
def tbB (g : Addr → Option Obj) (K : PySem.W.Frag) (x : Str) : Bool := (PySem.W.tabIn K x).isSome && (PySem.W.codeHdIn K (tbC K x) (tbP K x) && (match g (tbP K x) with | some o => isTab o | none => false))
def tbU (K : PySem.W.Frag) (xs : List Str) : Bool := xs.all fun x => xs.all fun y => (x == y) || !(tbP K x == tbP K y)
def obsK (n : Nat) (fn : List DefD) (xs : List Str) (ex : PySem.W.Frag → Bool) (g : Addr → Option Obj) : AlD :=
  ((xs.all fun x => tbB g (frL g (asD g n)) x) && (tbU (frL g (asD g n)) xs && (ex (frL g (asD g n)) && fn.all fun d => d.ok (frL g (asD g n)))), fn.map fun d => fnW (frL g (asD g n)) d.at_)
structure SaysK (fn : List DefD) (ex : PySem.W.Frag → Bool) (K : PySem.W.Frag) : Prop where
  ex : ex K = true
  dok : ∀ d ∈ fn, d.ok K = true
  val : ∀ d ∈ fn, fnW K d.at_ = d.val
/-- the tables of the defs that make lambdas -/
structure TabK (xs : List Str) (K : PySem.W.Frag) (h : Heap) : Prop where
  at_ : ∀ x ∈ xs, PySem.W.tabIn K x = some (tbC K x, tbP K x) ∧ PySem.W.codeHdIn K (tbC K x) (tbP K x) = true ∧ h.get? (tbP K x) = some (PySem.W.tabObj #[]) ∧ K.lookup (tbP K x) = none
  uni : ∀ x ∈ xs, ∀ y ∈ xs, tbP K x = tbP K y → x = y
theorem saysK_of {n : Nat} {fn : List DefD} {xs : List Str} {ex : PySem.W.Frag → Bool} {g : Addr → Option Obj} (e : obsK n fn xs ex g = valD fn) : SaysK fn ex (frL g (asD g n)) ∧ (∀ x ∈ xs, tbB g (frL g (asD g n)) x = true) ∧ tbU (frL g (asD g n)) xs = true := by
  have e1 : ((xs.all fun x => tbB g (frL g (asD g n)) x) && (tbU (frL g (asD g n)) xs && (ex (frL g (asD g n)) && fn.all fun d => d.ok (frL g (asD g n))))) = true := congrArg (fun z : AlD => z.1) e
  have e2 : (fn.map fun d => fnW (frL g (asD g n)) d.at_) = fn.map DefD.val := congrArg (fun z : AlD => z.2) e
  obtain ⟨a1, e1⟩ := band e1
  obtain ⟨a2, e1⟩ := band e1
  obtain ⟨h1, h2⟩ := band e1
  exact ⟨⟨h1, fun d hd => List.all_eq_true.mp h2 d hd, fun d hd => List.map_inj_left.mp e2 d hd⟩, fun x hx => List.all_eq_true.mp a1 x hx, a2⟩
theorem tabK_of {as : List Addr} {xs : List Str} {h : Heap} (a : ∀ x ∈ xs, tbB h.get? (frL h.get? as) x = true) (u : tbU (frL h.get? as) xs = true) : TabK xs (frL h.get? as) h := by
  refine ⟨fun x hx => ?_, fun x hx y hy e => ?_⟩
  · have z := a x hx
    unfold tbB at z
    obtain ⟨z1, z⟩ := band z
    obtain ⟨z2, z3⟩ := band z
    obtain ⟨p, hp⟩ := Option.isSome_iff_exists.mp z1
    have ht : PySem.W.tabIn (frL h.get? as) x = some (tbC (frL h.get? as) x, tbP (frL h.get? as) x) := by
      unfold tbC tbP
      rw [hp]
    split at z3
    · rename_i o ho
      have eo := isTab_ok z3
      refine ⟨ht, z2, by rw [ho, eo], ?_⟩
      cases q : (frL h.get? as).lookup (tbP (frL h.get? as) x) with
      | none => rfl
      | some o' =>
        obtain ⟨q1, _, q3⟩ := frL_mem q
        rw [ho] at q1
        cases q1
        rw [z3] at q3
        cases q3
    · cases z3
  · have z := List.all_eq_true.mp (List.all_eq_true.mp u x hx) y hy
    rw [e] at z
    simpa using z
def hookK (n : Nat) (fn : List DefD) (xs : List Str) (ex : PySem.W.Frag → Bool) : PySem.W.Hook where
  α := AlD
  obs := fun s => obsK n fn xs ex s.heap.get?
  val := fun _ => valD fn
  says := fun _ h => ∃ K : PySem.W.Frag, K.In h ∧ NoLst K ∧ SaysK fn ex K ∧ TabK xs K h
  of := fun _ _ e => ⟨_, frL_in, frL_no, (saysK_of e).1, tabK_of (saysK_of e).2.1 (saysK_of e).2.2⟩
  keeps := fun _ _ _ ⟨K, hK, nl, c, t⟩ k => ⟨K, PySem.W.Frag.In.keeps hK k, nl, c, ⟨fun x hx => let ⟨t1, t2, t3, t4⟩ := t.at_ x hx; ⟨t1, t2, k _ _ t3, t4⟩, t.uni⟩⟩
theorem obsK_eq {n : Nat} {fn : List DefD} {xs : List Str} {ex : PySem.W.Frag → Bool} {g : Addr → Option Obj} {s : Shared} (h : ∀ a, g a = s.heap.get? a) : obsK n fn xs ex g = (hookK n fn xs ex).obs s := by
  have e : g = s.heap.get? := funext h
  rw [e] <;> rfl
/-- the tables' addresses and what they tell -/
def tabT (K : PySem.W.Frag) (xs : List Str) : List (Addr × Str) := xs.map fun x => (tbP K x, x ++ ".<locals>." ++ "<lambda>")
def tabC (K : PySem.W.Frag) (xs : List Str) : List (Addr × Addr) := xs.map fun x => (tbC K x, tbP K x)
/-! ### an exception's __init__ -/
section
variable {P : Program} {w : World} {K : PySem.W.Frag} {mg : Str → Option Value} {base : Heap} {fI C : Addr} {fd : FuncData} {q x y z : Str} {params : Arguments} {scope : Scope}
theorem vis_par {N ps : List Str} (S : FnScope N ps scope) (h : x ∈ ps) : L2.Vis scope x := by
  rcases S.par x h with e | e
  · exact .inl e
  · exact .inr (.inl e)
theorem init1 {f : String} {p1 p2 p3 p4 : Pos} (F : FunD K "__init__" q params [.Assign [.Attribute (.Name "self" p1) (Str.ofString f) p2] (.Name x p3) p4] scope [] [] fI fd) (S : FnScope ["self", x] ["self", x] scope) (T : OexC K C)
    (hno : PySem.W.findIn K (.ref C) (Str.ofString f) = some none) (hx : plainName x = true) : FnOk P w K mg base (L2.CX P w) 1 fI fd ["self", x] (fun vs H Q _ => ∃ e, spI e C [f] vs H Q) := by
  have hx1 : (x == ("__debug__" : Str)) = false ∧ (x == ("__classdict__" : Str)) = false := by
    unfold plainName at hx
    simp only [Bool.and_eq_true, Bool.not_eq_true'] at hx
    exact ⟨hx.1.1, hx.1.2⟩
  refine FunD.ok F S (fun vs H Q E ⟨e, ys, h1, h2, _⟩ => by subst h1; simp [h2]) (fun cdv A outer s H vs Q E hr ⟨e, ys, h1, h2, h3, h4⟩ => ?_)
  match ys, h2 with
  | [y1], _ =>
    subst h1
    refine ⟨_, pss_one (ps_ost (pe_var (i := 0) rfl (vis_par S (by simp))) (pe_var (i := 1) rfl (vis_par S (by simp)) hx1.1 hx1.2)), ?_⟩
    exact ⟨y1, rfl, .ref e, rfl, e, C, rfl, T, hno, .inl ⟨h3, fun dx a1 a2 => h4 dx _ a1 a2 upd_same (by rw [L2.upd_ne a2, upd_same] <;> rfl) fun b b1 b2 => by rw [L2.upd_ne b1, L2.upd_ne b2]⟩⟩
theorem init3 {f g h : String} {a1 a2 a3 a4 b1 b2 b3 b4 c1 c2 c3 c4 : Pos} (F : FunD K "__init__" q params [.Assign [.Attribute (.Name "self" a1) (Str.ofString f) a2] (.Name x a3) a4, .Assign [.Attribute (.Name "self" b1) (Str.ofString g) b2] (.Name y b3) b4, .Assign [.Attribute (.Name "self" c1) (Str.ofString h) c2] (.Name z c3) c4] scope [] [] fI fd)
    (S : FnScope ["self", x, y, z] ["self", x, y, z] scope) (T : OexC K C) (hf : PySem.W.findIn K (.ref C) (Str.ofString f) = some none) (hg : PySem.W.findIn K (.ref C) (Str.ofString g) = some none) (hh : PySem.W.findIn K (.ref C) (Str.ofString h) = some none)
    (hx : plainName x = true) (hy : plainName y = true) (hz : plainName z = true) : FnOk P w K mg base (L2.CX P w) 1 fI fd ["self", x, y, z] (fun vs H Q _ => ∃ e, spI e C [f, g, h] vs H Q) := by
  have pn : ∀ {x : Str}, plainName x = true → (x == ("__debug__" : Str)) = false ∧ (x == ("__classdict__" : Str)) = false := fun {x} hx => by
    unfold plainName at hx
    simp only [Bool.and_eq_true, Bool.not_eq_true'] at hx
    exact ⟨hx.1.1, hx.1.2⟩
  refine FunD.ok F S (fun vs H Q E ⟨e, ys, h1, h2, _⟩ => by subst h1; simp [h2]) (fun cdv A outer s H vs Q E hr ⟨e, ys, h1, h2, h3, h4⟩ => ?_)
  match ys, h2 with
  | [y1, y2, y3], _ =>
    subst h1
    refine ⟨_, pss_cons (ps_ost (pe_var (i := 0) rfl (vis_par S (by simp))) (pe_var (i := 1) rfl (vis_par S (by simp)) (pn hx).1 (pn hx).2)) (pss_cons (ps_ost (pe_var (i := 0) rfl (vis_par S (by simp))) (pe_var (i := 2) rfl (vis_par S (by simp)) (pn hy).1 (pn hy).2))
      (pss_one (ps_ost (pe_var (i := 0) rfl (vis_par S (by simp))) (pe_var (i := 3) rfl (vis_par S (by simp)) (pn hz).1 (pn hz).2)))), ?_⟩
    refine ⟨y1, rfl, .ref e, rfl, e, C, rfl, T, hf, .inl ⟨h3, fun dx n1 n2 => ?_⟩⟩
    refine ⟨y2, rfl, .ref e, rfl, e, C, rfl, T, hg, .inr ⟨dx, _, upd_same, by rw [L2.upd_ne n2, upd_same] <;> rfl, by simp, ?_⟩⟩
    refine ⟨y3, rfl, .ref e, rfl, e, C, rfl, T, hh, .inr ⟨dx, _, by rw [L2.upd_ne (Ne.symm n2), upd_same] <;> rfl, upd_same, by simp, ?_⟩⟩
    exact h4 dx _ n1 n2 (by rw [L2.upd_ne (Ne.symm n2), L2.upd_ne (Ne.symm n2), upd_same]) upd_same fun b m1 m2 => by rw [L2.upd_ne m2, L2.upd_ne m2, L2.upd_ne m1, L2.upd_ne m2]
end
/-! ### all of it -/
theorem lookup_mem' {α : Type} {x : String} {v : α} : ∀ {l : List (String × α)}, l.lookup x = some v → (x, v) ∈ l
  | [], h => by cases h
  | (p1, p2) :: l, h => by
    simp only [List.lookup_cons] at h
    cases e : x == p1 with
    | true =>
      rw [e] at h
      cases h
      rw [eq_of_beq e]
      exact List.mem_cons_self
    | false => rw [e] at h; exact List.mem_cons_of_mem _ (lookup_mem' h)
theorem pf_of {prog : Program} {w : World} {K : PySem.W.Frag} {mg : Str → Option Value} {base h : Heap} {P : Prog} {es : List Ent} {fn : List DefD} {exs : List (String × List String)} {cls : List String} {sub : String → String → Bool} {cons : List (String × D)} {xs : List Str}
    (X : K.In h) (G : h.Ns mainGlobals mg) (c : SaysK fn (exK es exs cls sub cons) K) (hP : P.xf = fun C => exs.lookup C) (hs : P.sub = sub) (hg : P.glo = fun x => cons.lookup x) (t : TabK xs K h) (tb : ∀ p ∈ tabC K xs, LamX.TabB base mg p.1 p.2) (hlm : ∀ e ∈ es, e.lm = true → e.nm ∈ xs ∧ e.d.qual = e.nm) (text : ∀ (i : Nat) (e : Ent), es[i]? = some e → TextOk P es cls i e)
    (hes : ∀ e ∈ es, e.d ∈ fn ∧ e.d.at_ = (e.nm, none) ∧ e.d.dfl = [] ∧ e.d.kwd = [])
    (hb : ∀ e ∈ es, ∀ ad fd, FunD K e.d.name e.d.qual e.d.params e.d.body e.d.scope [] [] ad fd → Binds K fd e.ps [])
    (hI : ∀ C fs, (C, fs) ∈ exs → fs ≠ [] → OexC K (ga K (Str.ofString C)) → (∀ f ∈ fs, PySem.W.findIn K (.ref (ga K (Str.ofString C))) (Str.ofString f) = some none) → (fs.map Str.ofString).Nodup ∧ ∃ fd ps, Binds K fd ps [] ∧ FnOk prog w K mg base (L2.CX prog w) 1 (ma K (ga K (Str.ofString C)) "__init__") fd ps (fun vs H Q _ => ∃ e, spI e (ga K (Str.ofString C)) fs vs H Q)) :
    PF prog w K mg base P es cls (tabT K xs) := by
  obtain ⟨c0, c1⟩ := band (show ((cons.all fun p => conK K p) && _) = true from c.ex)
  obtain ⟨c1, c2⟩ := band c1
  obtain ⟨c2, c3⟩ := band c2
  obtain ⟨c3, c4⟩ := band c3
  obtain ⟨c4, c5⟩ := band c4
  have memx : ∀ {C : String} {fs : List String}, P.xf C = some fs → (C, fs) ∈ exs := fun {C fs} h => by
    rw [hP] at h
    exact lookup_mem' h
  refine ⟨text, fun i e he => ?_, fun x hx => free_ok X G (List.all_eq_true.mp c2 x hx), fun C fs hf => ?_, fun C1 fs hf C2 hC => ?_, fun C hC => ⟨_, glo_ok X G (List.all_eq_true.mp c4 C hC)⟩, fun x d hd => ?_, fun i e he hl ad fd oc od osl hm lk => ?_⟩
  · have hm := List.mem_of_getElem? he
    obtain ⟨h1, h2, h3, h4⟩ := hes e hm
    obtain ⟨fd, F⟩ := DefD.funD (c.val _ h1) (c.dok _ h1)
    have e1 : e.d.dvs K = [] := by unfold DefD.dvs; rw [h3] <;> rfl
    have e2 : e.d.kws K = [] := by unfold DefD.kws; rw [h4] <;> rfl
    rw [e1, e2] at F
    have e3 : fAd K e.d.at_ = ga K e.nm := by rw [h2] <;> rfl
    rw [e3] at F
    exact ⟨_, fd, glo_ok X G (List.all_eq_true.mp c1 e hm), F, hb e hm _ fd F⟩
  · have hx := List.all_eq_true.mp c3 _ (memx hf)
    unfold xB at hx
    obtain ⟨x1, hx⟩ := band hx
    obtain ⟨x2, hx⟩ := band hx
    obtain ⟨x3, hx⟩ := band hx
    obtain ⟨x4, hx⟩ := band hx
    obtain ⟨x5, hx⟩ := band hx
    obtain ⟨x6, hx⟩ := band hx
    have hc := xfB_ok x2
    have hty : PySem.W.typeIn K (.ref (ga K (Str.ofString C))) = some (.type "type") := of_decide_eq_true x5
    have hno : ∀ f ∈ fs, PySem.W.findIn K (.ref (ga K (Str.ofString C))) (Str.ofString f) = some none := fun f hf' => eqO_ok (List.all_eq_true.mp x3 f hf')
    refine ⟨ga K (Str.ofString C), ⟨glo_ok X G x1, hc, hno, of_decide_eq_true x4, hty, x6, ?_⟩⟩
    by_cases f0 : fs = []
    · subst f0
      exact .inl ⟨rfl, veBase, hx, PySem.F.excBase_ValueError⟩
    · have fe : fs.isEmpty = false := by simpa using f0
      rw [fe, if_neg Bool.false_ne_true] at hx
      obtain ⟨y1, hx⟩ := band hx
      obtain ⟨y2, y3⟩ := band hx
      have T := oexB_ok y1 hc.exC hty x6
      obtain ⟨nd, fd, ps, B, F⟩ := hI C fs (memx hf) f0 T hno
      exact .inr ⟨f0, nd, T, _, fd, ps, eqO_ok y2, of_decide_eq_true y3, B, F⟩
  · have hx := List.all_eq_true.mp c3 _ (memx hf)
    unfold xB at hx
    obtain ⟨x1, _⟩ := band hx
    have z := List.all_eq_true.mp (List.all_eq_true.mp c5 _ (memx hf)) C2 hC
    rw [hs]
    exact ⟨_, _, glo_ok X G x1, glo_ok X G (List.all_eq_true.mp c4 C2 hC), exm_ok z⟩
  · rw [hg] at hd
    have z := List.all_eq_true.mp c0 _ (lookup_mem' hd)
    unfold conK at z
    cases d with
    | int i =>
      obtain ⟨tk, e⟩ := int_ok X G z
      exact ⟨_, .int i, e, ⟨tk, rfl⟩, fun _ _ _ => rfl⟩
    | str i =>
      obtain ⟨tk, e⟩ := str_ok X G z
      exact ⟨_, .str i, e, ⟨tk, rfl⟩, fun _ _ _ => rfl⟩
    | _ => cases z
  · obtain ⟨l1, l2⟩ := hlm e (List.mem_of_getElem? he) hl
    obtain ⟨t1, t2, t3, t4⟩ := t.at_ e.nm l1
    refine ⟨tbC K e.nm, tbP K e.nm, PySem.W.law_code X G t1 hm (X _ _ lk) rfl, tb (tbC K e.nm, tbP K e.nm) (List.mem_map_of_mem (f := fun x => (tbC K x, tbP K x)) l1), ?_, ?_⟩
    · rw [l2]
      exact List.mem_map_of_mem (f := fun x => (tbP K x, x ++ ".<locals>." ++ "<lambda>")) l1
    · intro p hp ep
      obtain ⟨y, hy, rfl⟩ := List.mem_map.mp hp
      rw [l2]
      rw [t.uni y hy e.nm l1 ep]
/-- the law's promise from what the small language says -/
theorem law_sp {P : Prog} {mg : Str → Option Value} {K : PySem.W.Frag} {k i : Nat} {xs : List Str} (nl : NoLst K) (hw : ∀ ns : List Int, ns.length ≤ 63 → wCall P k i [.lst (ns.map D.int)] (fun _ => none) (fun d _ => d = .bl true) (fun _ _ => False))
    (H : Hp) (a : Addr) (ns : List Int) (hl : ns.length ≤ 63) (hT : ∀ p ∈ tabC K xs, H p.2 = some (.tbl #[])) (hS : SqL K H a (ns.map V.int)) : spF ⟨⟨mg, fun _ => False, tabT K xs⟩, none, none⟩ (wCall P k i) [.ref a] H (fun v _ => v = .bl true) fun _ _ _ => False := by
  have hr : Rd H a (.lst (ns.map V.int)) := by
    rcases hS with h | ⟨o, its, n, e, hc, _⟩
    · exact h
    · exact absurd hc (nl a o e)
  have rl : ∀ ns : List Int, RepL ⟨mg, fun _ => False, tabT K xs⟩ (fun _ => none) H (ns.map D.int) (ns.map V.int) := fun ns => by
    induction ns with
    | nil => rfl
    | cons n ns ih => exact ⟨_, _, rfl, rfl, ih⟩
  have r0 : RepL ⟨mg, fun _ => False, tabT K xs⟩ (fun _ => none) H [.lst (ns.map D.int)] [.ref a] := ⟨.ref a, [], rfl, ⟨a, ns.map V.int, rfl, ⟨rfl, fun z => z⟩, hr, rl ns⟩, rfl⟩
  have m0 : MRep ⟨mg, fun _ => False, tabT K xs⟩ (fun _ => none) H := ⟨fun a o e => (nomatch e), fun a h => False.elim h, fun p hp => by
    obtain ⟨y, hy, rfl⟩ := List.mem_map.mp hp
    exact LamX.TabS.nil (hT (tbC K y, tbP K y) (List.mem_map_of_mem (f := fun x => (tbC K x, tbP K x)) hy))⟩
  refine ⟨_, _, _, _, r0, m0, hw ns hl, fun d M' v H' q m mr r => ?_, fun _ _ _ _ _ q => q.elim⟩
  subst q
  exact r
/-- a promise that nothing is raised -/
theorem FnOk.never {P : Program} {w : World} {K : PySem.W.Frag} {mg : Str → Option Value} {base : Heap} {k : Nat} {f : Addr} {fd : FuncData} {ps : List Str} {sp : Sp} (F : FnOk P w K mg base (L2.CX P w) k f fd ps sp) :
    FnOk P w K mg base CX0 k f fd ps (fun vs H Q _ => sp vs H Q fun _ _ _ => False) := by
  refine ⟨fun vs H Q E h => F.len vs H Q _ h, fun A outer s H args us vs Q E hr e0 hb r h => ?_⟩
  refine codeAny_mono (F.run A outer s H args us vs Q _ hr e0 hb r h) fun r s' q => ?_
  cases r with
  | ok fl => cases fl <;> exact q
  | error e =>
    obtain ⟨_, _, _, _, _, _, _, _, _, _, _, _, z⟩ := q
    exact z.elim
end Dee

set_option Elab.async false
set_option linter.all false
set_option autoImplicit false
set_option maxRecDepth 100000
set_option maxHeartbeats 2000000
/-! Dee: what the laws' common defs do; plain Lean. -/
namespace DL
open PySem Dee
theorem wSs_cons {F : Dee.Sem} {s : Dee.St} {ss : List Dee.St} {σ : Dee.Env} {M : Mem} {D : Dee.Ends} : wSs F (s :: ss) σ M D = wS F s σ M { D with nx := fun σ1 M1 => wSs F ss σ1 M1 D } := by simp only [wSs]
theorem wSs_nil {F : Dee.Sem} {σ : Dee.Env} {M : Mem} {D : Dee.Ends} : wSs F [] σ M D = D.nx σ M := by simp only [wSs]
theorem ix_nat {n : Nat} {i : Int} (h : 0 ≤ i) (h2 : i < n) : Dee.ixN n i = some i.toNat := by unfold Dee.ixN; rw [if_pos h, if_pos h2]
theorem sub_at {M : Mem} {p : Nat} {xs : List Dee.D} {i : Int} {v : Dee.D} {Q : Dee.D → Prop} (h : M p = some (.lst xs)) (hi : 0 ≤ i) (hx : xs[i.toNat]? = some v) : subop (.ref p) (.int i) M Q = Q v := by
  have hl : i.toNat < xs.length := (List.getElem?_eq_some_iff.mp hx).1
  unfold subop dctM seqM
  simp only [h, onI, ob, ix_nat hi (show i < (xs.length : Int) by omega), hx]
theorem sub_lst {M : Mem} {xs : List Dee.D} {i : Int} {v : Dee.D} {Q : Dee.D → Prop} (hi : 0 ≤ i) (hx : xs[i.toNat]? = some v) : subop (.lst xs) (.int i) M Q = Q v := by
  have hl : i.toNat < xs.length := (List.getElem?_eq_some_iff.mp hx).1
  unfold subop dctM seqM
  simp only [onI, ob, ix_nat hi (show i < (xs.length : Int) by omega), hx]
theorem sub_tup {M : Mem} {xs : List Dee.D} {i : Int} {v : Dee.D} {Q : Dee.D → Prop} (hi : 0 ≤ i) (hx : xs[i.toNat]? = some v) : subop (.tup xs) (.int i) M Q = Q v := by
  have hl : i.toNat < xs.length := (List.getElem?_eq_some_iff.mp hx).1
  unfold subop dctM seqM
  simp only [onI, ob, ix_nat hi (show i < (xs.length : Int) by omega), hx]
theorem set_at {M : Mem} {p : Nat} {xs : List Dee.D} {i : Int} {v : Dee.D} {Q : Mem → Prop} (h : M p = some (.lst xs)) (hi : 0 ≤ i) (hx : i.toNat < xs.length) : setop (.ref p) (.int i) v M Q = Q (up M p (.lst (xs.set i.toNat v))) := by
  unfold setop onR
  simp only [h, onI, ob, ix_nat hi (show i < (xs.length : Int) by omega)]
theorem up_at {M : Mem} {p : Nat} {o : MO} : up M p o p = some o := by unfold up; rw [if_pos rfl]
/-- the pot -/
def Pot (M : Mem) (p : Nat) : Prop := ∃ (cs : List Int) (a b c : Int), M p = some (.lst [.lst (cs.map D.int), .int a, .int b, .int c]) ∧ (∀ x ∈ cs, 0 ≤ x) ∧ 0 ≤ a ∧ 0 ≤ b ∧ b < 2147483647 ∧ 0 ≤ c
/-- _law_draw -/
def drawFn : Fn := ⟨2, 4, [.ifs (.cmp .lt (.var 1) (.int 2)) [.ret (.int 0)] [], .ifs (.cmp .gt (.sub (.var 0) (.int 3)) (.int 0)) [.asg (.nm 3) (.bin .mod (.bi .int false [.sub (.var 0) (.int 3)]) (.var 1)), .asub (.var 0) (.int 3) (.bin .fdiv (.sub (.var 0) (.int 3)) (.var 1)), .ret (.var 3)] [], .asg (.nm 2) (.int 0), .ifs (.cmp .lt (.sub (.var 0) (.int 1)) (.bi .len false [.sub (.var 0) (.int 0)])) [.asg (.nm 2) (.sub (.sub (.var 0) (.int 0)) (.sub (.var 0) (.int 1))), .asub (.var 0) (.int 1) (.bin .add (.sub (.var 0) (.int 1)) (.int 1)), .ifs (.cmp .ge (.var 2) (.bin .pow (.int 10) (.int 18))) [.asub (.var 0) (.int 3) (.bin .fdiv (.var 2) (.var 1)), .ret (.bin .mod (.bi .int false [.var 2]) (.var 1))] []] [], .asub (.var 0) (.int 2) (.bin .mod (.bi .int false [.bin .add (.bin .add (.bin .mul (.sub (.var 0) (.int 2)) (.int 48271)) (.var 2)) (.int 12345)]) (.int 2147483647)), .ret (.bin .mod (.bi .int false [.bin .add (.bin .fdiv (.bin .mul (.sub (.var 0) (.int 2)) (.sub (.var 0) (.int 2))) (.int 64)) (.bin .fdiv (.sub (.var 0) (.int 2)) (.int 7))]) (.var 1))]⟩
/-- only at p -/
def Fr (p : Nat) (M M' : Mem) : Prop := ∀ q, q ≠ p → M' q = M q
theorem Fr.refl {p : Nat} {M : Mem} : Fr p M M := fun _ _ => rfl
theorem Fr.trans {p : Nat} {M M1 M2 : Mem} (a : Fr p M M1) (b : Fr p M1 M2) : Fr p M M2 := fun q h => (b q h).trans (a q h)
theorem Fr.up {p : Nat} {M : Mem} {o : MO} : Fr p M (up M p o) := fun q h => if_neg h
theorem draw_tail {F : Dee.Sem} {M : Mem} {p : Nat} {many cell : Int} {x3 : Option Dee.D} {Q : Dee.K} {Dn : Dee.Ends} (hp : Pot M p) (h1 : 2 ≤ many) (h2 : many < 1000) (hD : Dn.rt = Q) (hQ : ∀ r M', 0 ≤ r → r < many → Pot M' p → Fr p M M' → Q (.int r) M') :
    wSs F [.asub (.var 0) (.int 2) (.bin .mod (.bi .int false [.bin .add (.bin .add (.bin .mul (.sub (.var 0) (.int 2)) (.int 48271)) (.var 2)) (.int 12345)]) (.int 2147483647)), .ret (.bin .mod (.bi .int false [.bin .add (.bin .fdiv (.bin .mul (.sub (.var 0) (.int 2)) (.sub (.var 0) (.int 2))) (.int 64)) (.bin .fdiv (.sub (.var 0) (.int 2)) (.int 7))]) (.var 1))]
      [some (.ref p), some (.int many), some (.int cell), x3] M Dn := by
  obtain ⟨cs, a, b, c, hM, hcs, ha, hb, hb2, hc⟩ := hp
  have big : ∀ x : Int, 0 ≤ x → x < 2147483647 → x.natAbs < 2 ^ 100000 := fun x u v => Nat.lt_of_lt_of_le (show x.natAbs < 2 ^ 31 by omega) (Nat.pow_le_pow_right (by decide) (by decide))
  rw [wSs_cons]
  simp only [wS, wE, wEs, lk, ob, onI, on1, asB, binop, biop, sub_at hM (i := 2) (v := .int b) (by decide) rfl]
  refine ⟨⟨big b hb hb2, big 48271 (by decide) (by decide)⟩, by decide, ?_⟩
  rw [set_at hM (by decide) (by simp)]
  have hz : 0 ≤ (b * 48271 + cell + 12345) % 2147483647 := Int.emod_nonneg _ (by decide)
  have hz2 : (b * 48271 + cell + 12345) % 2147483647 < 2147483647 := Int.emod_lt_of_pos _ (by decide)
  generalize (b * 48271 + cell + 12345) % 2147483647 = z at hz hz2
  have hM' : (up M p (.lst (List.set [.lst (cs.map D.int), .int a, .int b, .int c] (2 : Int).toNat (.int z)))) p = some (.lst [.lst (cs.map D.int), .int a, .int z, .int c]) := up_at
  rw [wSs_cons]
  simp only [wS, wE, wEs, lk, ob, onI, on1, asB, binop, biop, sub_at hM' (i := 2) (v := .int z) (by decide) rfl]
  refine ⟨⟨big z hz hz2, big z hz hz2⟩, by decide, by decide, by omega, ?_⟩
  rw [hD]
  exact hQ _ _ (Int.emod_nonneg _ (by omega)) (Int.emod_lt_of_pos _ (by omega)) ⟨cs, a, z, c, hM', hcs, ha, hz, hz2, hc⟩ Fr.up
theorem drawF {P : Prog} {i k : Nat} (hi : P.fns[i]? = some drawFn) {M : Mem} {p : Nat} {many : Int} {Q : Dee.K} {E : Dee.KX} (hp : Pot M p) (h1 : 1 ≤ many) (h2 : many < 1000) (hQ : ∀ r M', 0 ≤ r → r < many → Pot M' p → Fr p M M' → Q (.int r) M') : wCall P (k + 1) i [.ref p, .int many] M Q E := by
  have hp0 := hp
  obtain ⟨cs, a, b, c, hM, hcs, ha, hb, hb2, hc⟩ := hp
  rw [wCall_succ, hi]
  refine ⟨rfl, ?_⟩
  unfold drawFn
  generalize semAt P k = F
  simp only [List.map, List.replicate, List.cons_append, List.nil_append, Nat.reduceSub]
  rw [wSs_cons]
  simp only [wS, wE, lk, ob, onI, asB, cmpop, plt, D.dep, wSs_nil, decide_eq_true_eq]
  refine ⟨by decide, ?_⟩
  split
  · rw [wSs_cons]
    simp only [wS, wE]
    exact hQ 0 M (by decide) (by omega) hp0 Fr.refl
  rename_i hm
  rw [wSs_cons]
  simp only [wS, wE, lk, ob, onI, asB, cmpop, plt, D.dep, wSs_nil, decide_eq_true_eq, sub_at hM (i := 3) (v := .int c) (by decide) rfl]
  split
  · rename_i hc0
    rw [wSs_cons]
    simp only [wS, wE, wEs, lk, ob, onI, on1, binop, biop, wTg, List.set, sub_at hM (i := 3) (v := .int c) (by decide) rfl]
    refine ⟨by omega, ?_⟩
    rw [wSs_cons]
    simp only [wS, wE, wEs, lk, ob, onI, on1, binop, biop, wTg, List.set, sub_at hM (i := 3) (v := .int c) (by decide) rfl]
    refine ⟨by omega, ?_⟩
    rw [set_at hM (by decide) (by simp), wSs_cons]
    simp only [wS, wE, lk, ob]
    exact hQ _ _ (Int.emod_nonneg _ (by omega)) (Int.emod_lt_of_pos _ (by omega)) ⟨cs, a, b, c / many, up_at, hcs, ha, hb, hb2, Int.ediv_nonneg hc (by omega)⟩ Fr.up
  rw [wSs_cons]
  simp only [wS, wE, wTg, List.set]
  rw [wSs_cons]
  simp only [wS, wE, wEs, lk, ob, onI, on1, asB, cmpop, biop, seqM, dctM, plt, D.dep, wSs_nil, decide_eq_true_eq, sub_at hM (i := 1) (v := .int a) (by decide) rfl, sub_at hM (i := 0) (v := .lst (cs.map D.int)) (by decide) rfl]
  refine ⟨by decide, ?_⟩
  split
  · rename_i hlt
    rw [List.length_map] at hlt
    obtain ⟨x, hx⟩ : ∃ x, cs[a.toNat]? = some x := ⟨cs[a.toNat]'(by omega), List.getElem?_eq_getElem _⟩
    have hx0 : 0 ≤ x := hcs x (List.mem_of_getElem? hx)
    have hx' : (cs.map D.int)[a.toNat]? = some (D.int x) := by rw [List.getElem?_map, hx]; rfl
    rw [wSs_cons]
    simp only [wS, wE, lk, ob, onI, wTg, List.set, sub_at hM (i := 1) (v := .int a) (by decide) rfl, sub_at hM (i := 0) (v := .lst (cs.map D.int)) (by decide) rfl, sub_lst ha hx']
    rw [wSs_cons]
    simp only [wS, wE, lk, ob, onI, binop, sub_at hM (i := 1) (v := .int a) (by decide) rfl]
    rw [set_at hM (by decide) (by simp)]
    have hM' : (up M p (.lst (List.set [.lst (cs.map D.int), .int a, .int b, .int c] (1 : Int).toNat (.int (a + 1))))) p = some (.lst [.lst (cs.map D.int), .int (a + 1), .int b, .int c]) := up_at
    have hf : Fr p M (up M p (.lst (List.set [.lst (cs.map D.int), .int a, .int b, .int c] (1 : Int).toNat (.int (a + 1))))) := Fr.up
    generalize up M p (.lst (List.set [.lst (cs.map D.int), .int a, .int b, .int c] (1 : Int).toNat (.int (a + 1)))) = M1 at hM' hf
    rw [wSs_cons]
    simp only [wS, wE, lk, ob, onI, asB, cmpop, binop, wSs_nil, decide_eq_true_eq]
    refine ⟨by decide, ?_⟩
    split
    · rw [wSs_cons]
      simp only [wS, wE, lk, ob, onI, binop]
      refine ⟨by omega, ?_⟩
      rw [set_at hM' (by decide) (by simp), wSs_cons]
      simp only [wS, wE, wEs, lk, ob, onI, on1, binop, biop]
      refine ⟨by omega, ?_⟩
      exact hQ _ _ (Int.emod_nonneg _ (by omega)) (Int.emod_lt_of_pos _ (by omega)) ⟨cs, a + 1, b, x / many, up_at, hcs, by omega, hb, hb2, Int.ediv_nonneg hx0 (by omega)⟩ (hf.trans Fr.up)
    · exact draw_tail ⟨cs, a + 1, b, c, hM', hcs, by omega, hb, hb2, hc⟩ (by omega) h2 rfl fun r M' u v w f => hQ r M' u v w (hf.trans f)
  · exact draw_tail hp0 (by omega) h2 rfl hQ
/-- _law_pick, d the number of _law_draw -/
def pickFn (d : Nat) : Fn := ⟨2, 2, [.ret (.sub (.var 1) (.call d [.var 0, .bi .len false [.var 1]]))]⟩
theorem pickF {P : Prog} {d i k : Nat} (hd : P.fns[d]? = some drawFn) (hi : P.fns[i]? = some (pickFn d)) {M : Mem} {p : Nat} {xs : List Dee.D} {Q : Dee.K} {E : Dee.KX} (hp : Pot M p) (h1 : 1 ≤ xs.length) (h2 : xs.length < 1000) (hQ : ∀ v M', v ∈ xs → Pot M' p → Fr p M M' → Q v M') :
    wCall P (k + 2) i [.ref p, .lst xs] M Q E := by
  rw [wCall_succ, hi]
  refine ⟨rfl, ?_⟩
  unfold pickFn
  simp only [List.map, List.replicate, List.cons_append, List.nil_append, Nat.reduceSub]
  rw [wSs_cons]
  simp only [wS, wE, wEs, lk, ob, on1, biop, dctM, seqM]
  refine drawF hd hp (by omega) (by omega) fun r M' r0 r1 hp' hf => ?_
  have hr : r.toNat < xs.length := by omega
  rw [sub_lst r0 (List.getElem?_eq_getElem hr)]
  exact hQ _ _ (List.getElem_mem hr) hp' hf
theorem draw {P : Prog} {i k : Nat} (hi : P.fns[i]? = some drawFn) {M : Mem} {p : Nat} {many : Int} {Q : Dee.K} {E : Dee.KX} (hp : Pot M p) (h1 : 1 ≤ many) (h2 : many < 1000) (hQ : ∀ r M', 0 ≤ r → r < many → Pot M' p → Q (.int r) M') : wCall P (k + 1) i [.ref p, .int many] M Q E :=
  drawF hi hp h1 h2 fun r M' a b c _ => hQ r M' a b c
theorem pick {P : Prog} {d i k : Nat} (hd : P.fns[d]? = some drawFn) (hi : P.fns[i]? = some (pickFn d)) {M : Mem} {p : Nat} {xs : List Dee.D} {Q : Dee.K} {E : Dee.KX} (hp : Pot M p) (h1 : 1 ≤ xs.length) (h2 : xs.length < 1000) (hQ : ∀ v M', v ∈ xs → Pot M' p → Q v M') :
    wCall P (k + 2) i [.ref p, .lst xs] M Q E := pickF hd hi hp h1 h2 fun v M' a b _ => hQ v M' a b
theorem lcL_none {turn : Dee.D → Mem → (Option Dee.D → Mem → Prop) → Prop} {Q : List Dee.D → Mem → Prop} {M : Mem} : ∀ {xs acc : List Dee.D}, (∀ x ∈ xs, ∀ R : Option Dee.D → Mem → Prop, R none M → turn x M R) → Q acc M → lcL turn Q xs acc M
  | [], acc, _, h => h
  | x :: xs, acc, ht, h => ht x (by simp) _ (lcL_none (fun y hy => ht y (by simp [hy])) h)
/-- values of which _law_same can be asked -/
def sv : Nat → Dee.D → Prop
  | _, .non => True
  | _, .bl _ => True
  | _, .int _ => True
  | _, .str _ => True
  | n + 1, .tup xs => xs.length ≤ 1000 ∧ ∀ x ∈ xs, sv n x
  | n + 1, .lst xs => xs.length ≤ 1000 ∧ ∀ x ∈ xs, sv n x
  | _, _ => False
/-- _law_same, i its own number -/
def sameFn (i : Nat) : Fn := ⟨2, 3, [.ifs (.or [.isi (.var 1) [.tuple], .isi (.var 1) [.list]]) [.ifs (.or [.cmp .ne (.isi (.var 1) [.tuple]) (.isi (.var 0) [.tuple]), .cmp .ne (.isi (.var 1) [.list]) (.isi (.var 0) [.list])]) [.ret (.bl false)] [], .ifs (.cmp .ne (.bi .len false [.var 0]) (.bi .len false [.var 1])) [.ret (.bl false)] [], .ret (.cmp .eq (.comp false (.var 2) (.nm 2) .rng [.bi .len false [.var 1]] [.not (.call i [.sub (.var 0) (.var 2), .sub (.var 1) (.var 2)])]) (.lst false []))] [], .ifs (.isN false (.var 1)) [.ret (.isN false (.var 0))] [], .ifs (.isi (.var 1) [.str]) [.ret (.and [.isi (.var 0) [.str], .cmp .eq (.var 0) (.var 1)])] [], .ret (.and [.isi (.var 0) [.int], .cmp .eq (.isi (.var 0) [.bool]) (.isi (.var 1) [.bool]), .cmp .eq (.var 0) (.var 1)])]⟩
theorem peq_bl (b : Bool) : peq (.bl b) (.bl b) = true := by cases b <;> rfl
theorem same_flat {P : Prog} {i : Nat} (hi : P.fns[i]? = some (sameFn i)) (k : Nat) {d : Dee.D} {M : Mem} {Q : Dee.K} {E : Dee.KX} (h : sv 0 d) (hQ : Q (.bl true) M) : wCall P (k + 1) i [d, d] M Q E := by
  rw [wCall_succ, hi]
  refine ⟨rfl, ?_⟩
  unfold sameFn
  generalize semAt P k = F
  simp only [List.map, List.replicate, List.cons_append, List.nil_append, Nat.reduceSub]
  cases d with
  | non =>
    rw [wSs_cons]
    simp only [wS, wE, wOr, lk, ob, asB, isiop, wSs_nil]
    rw [if_neg (by decide), if_neg (by decide), wSs_cons]
    simp only [wS, wE, lk, ob, asB]
    rw [if_pos (by simp), wSs_cons]
    simpa [wS, wE, lk, ob] using hQ
  | bl b =>
    rw [wSs_cons]
    simp only [wS, wE, wOr, lk, ob, asB, isiop, tyOf, wSs_nil]
    rw [if_neg (by decide), if_neg (by decide), wSs_cons]
    simp only [wS, wE, lk, ob, asB, wSs_nil]
    rw [if_neg (by simp), wSs_cons]
    simp only [wS, wE, lk, ob, asB, isiop, tyOf, wSs_nil]
    rw [if_neg (by decide), wSs_cons]
    simp only [wS, wE, wAnd, lk, ob, asB, isiop, tyOf, cmpop, iceL, D.dep]
    rw [if_pos (by decide)]
    refine ⟨by decide, ?_⟩
    rw [if_pos (by decide)]
    refine ⟨by decide, ?_⟩
    rw [peq_bl]
    exact hQ
  | int j =>
    rw [wSs_cons]
    simp only [wS, wE, wOr, lk, ob, asB, isiop, tyOf, wSs_nil]
    rw [if_neg (by decide), if_neg (by decide), wSs_cons]
    simp only [wS, wE, lk, ob, asB, wSs_nil]
    rw [if_neg (by simp), wSs_cons]
    simp only [wS, wE, lk, ob, asB, isiop, tyOf, wSs_nil]
    rw [if_neg (by decide), wSs_cons]
    simp only [wS, wE, wAnd, lk, ob, asB, isiop, tyOf, cmpop, iceL, D.dep]
    rw [if_pos (by decide)]
    refine ⟨by decide, ?_⟩
    rw [if_pos (by decide)]
    refine ⟨by decide, ?_⟩
    simpa only [peq, beq_self_eq_true] using hQ
  | str z =>
    rw [wSs_cons]
    simp only [wS, wE, wOr, lk, ob, asB, isiop, tyOf, wSs_nil]
    rw [if_neg (by decide), if_neg (by decide), wSs_cons]
    simp only [wS, wE, lk, ob, asB, wSs_nil]
    rw [if_neg (by simp), wSs_cons]
    simp only [wS, wE, lk, ob, asB, isiop, tyOf, wSs_nil]
    rw [if_pos (by decide), wSs_cons]
    simp only [wS, wE, wAnd, lk, ob, asB, isiop, tyOf, cmpop, iceL, D.dep]
    rw [if_pos (by decide)]
    refine ⟨by decide, ?_⟩
    simpa only [peq, beq_self_eq_true] using hQ
  | _ => exact h.elim
theorem sv_up : ∀ {n m : Nat} {d : Dee.D}, n ≤ m → sv n d → sv m d
  | _, _, .non, _, _ => by unfold sv; trivial
  | _, _, .bl _, _, _ => by unfold sv; trivial
  | _, _, .int _, _, _ => by unfold sv; trivial
  | _, _, .str _, _, _ => by unfold sv; trivial
  | n + 1, m + 1, .tup xs, h, hs => by
    unfold sv at hs ⊢
    exact ⟨hs.1, fun x hx => sv_up (by omega) (hs.2 x hx)⟩
  | n + 1, m + 1, .lst xs, h, hs => by
    unfold sv at hs ⊢
    exact ⟨hs.1, fun x hx => sv_up (by omega) (hs.2 x hx)⟩
  | _, _, .dct _ _, _, hs => by unfold sv at hs; exact hs.elim
  | _, _, .obj _ _, _, hs => by unfold sv at hs; exact hs.elim
  | _, _, .ref _, _, hs => by unfold sv at hs; exact hs.elim
  | _, _, .clo _ _, _, hs => by unfold sv at hs; exact hs.elim
theorem same {P : Prog} {i : Nat} (hi : P.fns[i]? = some (sameFn i)) : ∀ (n k : Nat) {d : Dee.D} {M : Mem} {Q : Dee.K} {E : Dee.KX}, sv n d → Q (.bl true) M → wCall P (k + n + 1) i [d, d] M Q E := by
  intro n
  induction n with
  | zero => exact fun k => same_flat hi k
  | succ n ih =>
    intro k d M Q E h hQ
    have turn : ∀ (xs : List Dee.D) (d : Dee.D), (∀ (j : Nat) (v : Dee.D) (R : Dee.D → Prop), xs[j]? = some v → R v → subop d (.int j) M R) → (∀ x ∈ xs, sv n x) → ∀ x ∈ rngF xs.length, ∀ R : Option Dee.D → Mem → Prop, R none M →
        (fun (x : Dee.D) (M : Mem) (R : Option Dee.D → Mem → Prop) => wTg (.nm 2) x (wipeD [some d, some d, none] (tgSlots (.nm 2))) fun σ1 => wCs (semAt P (k + (n + 1))) [.not (.call i [.sub (.var 0) (.var 2), .sub (.var 1) (.var 2)])] σ1 M (fun b M2 => if b then wE (semAt P (k + (n + 1))) (.var 2) σ1 M2 (fun y M3 => R (some y) M3) (fun _ _ => False) else R none M2) (fun _ _ => False)) x M R := by
      intro xs d hsub hx x hxm R hR
      unfold rngF at hxm
      obtain ⟨j, hj, rfl⟩ := List.mem_map.mp hxm
      have hj : j < xs.length := by simpa using hj
      simp only [wTg, wipeD, tgSlots, List.set, wCs, wE, wEs, lk, ob, asB]
      refine hsub j xs[j] _ (List.getElem?_eq_getElem hj) ?_
      refine hsub j xs[j] _ (List.getElem?_eq_getElem hj) ?_
      refine ih k (hx _ (List.getElem_mem hj)) ?_
      simpa [asB] using hR
    have fin : ∀ (xs : List Dee.D) (d : Dee.D) (D0 : Dee.Ends), D0.rt = Q → (∀ (j : Nat) (v : Dee.D) (R : Dee.D → Prop), xs[j]? = some v → R v → subop d (.int j) M R) → xs.length ≤ 1000 → (∀ x ∈ xs, sv n x) → (∀ R : Dee.K, R (.int xs.length) M → biop .len false [d] M R) →
        wSs (semAt P (k + (n + 1))) [.ret (.cmp .eq (.comp false (.var 2) (.nm 2) .rng [.bi .len false [.var 1]] [.not (.call i [.sub (.var 0) (.var 2), .sub (.var 1) (.var 2)])]) (.lst false []))] [some d, some d, none] M D0 := by
      intro xs d D0 hD hsub hl hx hlen
      rw [wSs_cons]
      simp only [wS, wE, wEs, lk, ob]
      refine hlen _ ?_
      simp only [itop, onI, line]
      refine ⟨by omega, ?_⟩
      refine lcL_none (turn xs d hsub hx) ?_
      simp only [newL, cmpop, iceL, D.dep, depL, peq, peqL, if_neg Bool.false_ne_true]
      rw [hD]
      exact ⟨by decide, hQ⟩
    have goT : ∀ xs : List Dee.D, d = .tup xs → xs.length ≤ 1000 → (∀ x ∈ xs, sv n x) → wCall P (k + (n + 1) + 1) i [d, d] M Q E := by
      intro xs hd hl hx
      subst hd
      rw [wCall_succ, hi]
      refine ⟨rfl, ?_⟩
      unfold sameFn
      simp only [List.map, List.replicate, List.cons_append, List.nil_append, Nat.reduceSub]
      rw [wSs_cons]
      simp only [wS, wE, wOr, lk, ob, asB, isiop, tyOf, wSs_nil]
      rw [if_pos (by decide), if_pos True.intro, wSs_cons]
      simp only [wS, wE, wOr, lk, ob, asB, isiop, tyOf, cmpop, iceL, D.dep, wSs_nil]
      refine ⟨by decide, ?_⟩
      rw [peq_bl, if_neg (by decide)]
      refine ⟨by decide, ?_⟩
      rw [peq_bl, if_neg (by decide), wSs_cons]
      simp only [wS, wE, wEs, lk, ob, on1, asB, biop, dctM, seqM, cmpop, iceL, D.dep, wSs_nil]
      refine ⟨by decide, ?_⟩
      rw [if_neg (by simp [peq])]
      exact fin xs (.tup xs) _ rfl (fun j v R h r => by rw [sub_tup (by omega) (by simpa using h)]; exact r) hl hx (fun R r => r)
    have goL : ∀ xs : List Dee.D, d = .lst xs → xs.length ≤ 1000 → (∀ x ∈ xs, sv n x) → wCall P (k + (n + 1) + 1) i [d, d] M Q E := by
      intro xs hd hl hx
      subst hd
      rw [wCall_succ, hi]
      refine ⟨rfl, ?_⟩
      unfold sameFn
      simp only [List.map, List.replicate, List.cons_append, List.nil_append, Nat.reduceSub]
      rw [wSs_cons]
      simp only [wS, wE, wOr, lk, ob, asB, isiop, tyOf, wSs_nil]
      rw [if_neg (by decide), if_pos (by decide), wSs_cons]
      simp only [wS, wE, wOr, lk, ob, asB, isiop, tyOf, cmpop, iceL, D.dep, wSs_nil]
      refine ⟨by decide, ?_⟩
      rw [peq_bl, if_neg (by decide)]
      refine ⟨by decide, ?_⟩
      rw [peq_bl, if_neg (by decide), wSs_cons]
      simp only [wS, wE, wEs, lk, ob, on1, asB, biop, dctM, seqM, cmpop, iceL, D.dep, wSs_nil]
      refine ⟨by decide, ?_⟩
      rw [if_neg (by simp [peq])]
      exact fin xs (.lst xs) _ rfl (fun j v R h r => by rw [sub_lst (by omega) (by simpa using h)]; exact r) hl hx (fun R r => r)
    cases d with
    | tup xs => exact goT xs rfl h.1 h.2
    | lst xs => exact goL xs rfl h.1 h.2
    | non => exact same_flat hi _ (by unfold sv; trivial) hQ
    | bl _ => exact same_flat hi _ (by unfold sv; trivial) hQ
    | int _ => exact same_flat hi _ (by unfold sv; trivial) hQ
    | str _ => exact same_flat hi _ (by unfold sv; trivial) hQ
    | _ => exact h.elim
end DL

set_option Elab.async false
set_option linter.all false
set_option autoImplicit false
set_option maxRecDepth 100000
set_option maxHeartbeats 1000000
/-! Dee: comprehensions and loops over plain turns; signs and names; plain Lean. -/
namespace DL
open PySem Dee
/-- a comprehension whose turns change nothing -/
theorem lcL_fm {turn : Dee.D → Mem → (Option Dee.D → Mem → Prop) → Prop} {Q : List Dee.D → Mem → Prop} {M : Mem} (g : Dee.D → Option Dee.D) : ∀ {xs acc : List Dee.D}, (∀ x ∈ xs, ∀ R : Option Dee.D → Mem → Prop, R (g x) M → turn x M R) → Q (acc ++ xs.filterMap g) M → lcL turn Q xs acc M
  | [], acc, _, h => by simpa [lcL] using h
  | x :: xs, acc, ht, h => by
    unfold lcL
    refine ht x (by simp) _ ?_
    cases e : g x with
    | none =>
      rw [List.filterMap_cons_none e] at h
      exact lcL_fm g (fun y hy => ht y (by simp [hy])) h
    | some v =>
      rw [List.filterMap_cons_some e] at h
      exact lcL_fm g (fun y hy => ht y (by simp [hy])) (by simpa using h)
theorem lcL_map {turn : Dee.D → Mem → (Option Dee.D → Mem → Prop) → Prop} {Q : List Dee.D → Mem → Prop} {M : Mem} (g : Dee.D → Dee.D) {xs acc : List Dee.D} (ht : ∀ x ∈ xs, ∀ R : Option Dee.D → Mem → Prop, R (some (g x)) M → turn x M R) (h : Q (acc ++ xs.map g) M) : lcL turn Q xs acc M :=
  lcL_fm (fun x => some (g x)) ht (by simpa using h)
/-- a comprehension without tests, turn by turn -/
theorem lcL_idx {turn : Dee.D → Mem → (Option Dee.D → Mem → Prop) → Prop} {Q : List Dee.D → Mem → Prop} (I : Nat → List Dee.D → Mem → Prop) : ∀ {xs acc : List Dee.D} {M : Mem} {n : Nat}, (∀ x ∈ xs, ∀ (i : Nat) (acc : List Dee.D) (M : Mem) (R : Option Dee.D → Mem → Prop), I i acc M → (∀ y M', I (i + 1) (acc ++ [y]) M' → R (some y) M') → turn x M R) → I n acc M → (∀ acc M, I (n + xs.length) acc M → Q acc M) → lcL turn Q xs acc M
  | [], acc, M, n, _, h, q => q acc M h
  | x :: xs, acc, M, n, ht, h, q => by
    unfold lcL
    refine ht x (by simp) n acc M _ h fun y M' h' => ?_
    exact lcL_idx I (fun z hz => ht z (by simp [hz])) h' fun acc M q' => q acc M (by rw [List.length_cons]; rw [show n + (xs.length + 1) = n + 1 + xs.length by omega]; exact q')
theorem forL_inv {turn : Dee.D → Dee.Env → Mem → (Dee.Env → Mem → Prop) → Prop} {Q : Dee.Env → Mem → Prop} (I : Dee.Env → Mem → Prop) (hQ : ∀ σ M, I σ M → Q σ M) : ∀ {xs : List Dee.D} {σ : Dee.Env} {M : Mem}, (∀ x ∈ xs, ∀ σ M, ∀ R : Dee.Env → Mem → Prop, I σ M → (∀ σ' M', I σ' M' → R σ' M') → turn x σ M R) → I σ M → forL turn Q xs σ M
  | [], σ, M, _, h => hQ σ M h
  | x :: xs, σ, M, ht, h => ht x (by simp) σ M _ h fun σ' M' h' => forL_inv I hQ (fun y hy => ht y (by simp [hy])) h'
theorem forL_idx {turn : Dee.D → Dee.Env → Mem → (Dee.Env → Mem → Prop) → Prop} {Q : Dee.Env → Mem → Prop} (I : Nat → Dee.Env → Mem → Prop) : ∀ {xs : List Dee.D} {σ : Dee.Env} {M : Mem} {n : Nat}, (∀ x ∈ xs, ∀ (i : Nat) σ M, ∀ R : Dee.Env → Mem → Prop, I i σ M → (∀ σ' M', I (i + 1) σ' M' → R σ' M') → turn x σ M R) → I n σ M → (∀ σ M, I (n + xs.length) σ M → Q σ M) → forL turn Q xs σ M
  | [], σ, M, n, _, h, q => q σ M h
  | x :: xs, σ, M, n, ht, h, q => by
    unfold forL
    refine ht x (by simp) n σ M _ h fun σ' M' h' => ?_
    exact forL_idx I (fun z hz => ht z (by simp [hz])) h' fun σ M q' => q σ M (by rw [List.length_cons]; rw [show n + (xs.length + 1) = n + 1 + xs.length by omega]; exact q')
/-- a for that may end early by a return of False, and otherwise changes nothing but its target -/
theorem forL_ret {turn : Dee.D → Dee.Env → Mem → (Dee.Env → Mem → Prop) → Prop} {Q : Dee.Env → Mem → Prop} {Z : Prop} (ok : Dee.D → Bool) (I : Dee.Env → Mem → Prop) : ∀ {xs : List Dee.D} {σ : Dee.Env} {M : Mem}, (∀ x ∈ xs, ∀ σ M, ∀ R : Dee.Env → Mem → Prop, I σ M → (ok x = true → ∀ σ' M', I σ' M' → R σ' M') → (ok x = false → Z) → turn x σ M R) → I σ M → (xs.all ok = true → ∀ σ M, I σ M → Q σ M) → (xs.all ok = false → Z) → forL turn Q xs σ M
  | [], σ, M, _, h, q, _ => q rfl σ M h
  | x :: xs, σ, M, ht, h, q, z => by
    unfold forL
    refine ht x (by simp) σ M _ h (fun e σ' M' h' => ?_) fun e => z (by simp [e])
    exact forL_ret ok I (fun y hy => ht y (by simp [hy])) h' (fun a => q (by simp [e, a])) fun a => z (by simp [e, a])
/-- a pair taken apart -/
theorem wTg_pair {i j : Nat} {a b : Dee.D} {σ : Dee.Env} {Q : Dee.Env → Prop} (h : Q ((σ.set i (some a)).set j (some b))) : wTg (.tu [.nm i, .nm j]) (.tup [a, b]) σ Q := by
  simp only [wTg, wTgs, onT]
  exact h
/-- a value that no reference, object or lambda is -/
def tyd : Dee.D → Bool
  | .ref _ => false | .obj _ _ => false | .clo _ _ => false | .dct true _ => false | _ => true
/-- a number, no bool, within -/
def isNum (d : Dee.D) (lo hi : Int) : Bool := match d with
  | .int i => decide (lo ≤ i) && decide (i ≤ hi)
  | _ => false
def numFn : Fn := ⟨3, 3, [.ret (.and [.isi (.var 0) [.int], .not (.isi (.var 0) [.bool]), .chain .le .le (.var 1) (.var 0) (.var 2)])]⟩
theorem num {P : Prog} {i k : Nat} (hi : P.fns[i]? = some numFn) {d : Dee.D} {lo up : Int} {M : Mem} {Q : Dee.K} {E : Dee.KX} (hd : tyd d = true) (hQ : Q (.bl (isNum d lo up)) M) : wCall P (k + 1) i [d, .int lo, .int up] M Q E := by
  rw [wCall_succ, hi]
  refine ⟨rfl, ?_⟩
  unfold numFn
  generalize semAt P k = F
  simp only [List.map, List.replicate, List.cons_append, List.nil_append, Nat.reduceSub]
  rw [wSs_cons]
  cases d with
  | int j =>
    simp (decide := true) only [wS, wE, wEs, wO, wAnd, wOr, wCs, wSs_nil, lk, ob, onI, on1, on2, asB, isiop, tyOf, cmpop, iceL, D.dep, depL, plt, binop, catop, biop, inop, seqM, dctM, isTup, wTg, wTgs, onT, List.set, newL, newT, plnM, Bool.false_and, newD, wipeD, tgSlots, tgsSlots, List.append_nil, List.nil_append, List.cons_append, if_true, if_false, Bool.false_eq_true, reduceIte, Bool.not_true, Bool.not_false]
    unfold isNum at hQ
    by_cases h1 : lo ≤ j
    · simpa [h1] using hQ
    · simpa [h1] using hQ
  | bl b => simpa (decide := true) only [wS, wE, wEs, wO, wAnd, wOr, wCs, wSs_nil, lk, ob, onI, on1, on2, asB, isiop, tyOf, cmpop, iceL, D.dep, depL, plt, binop, catop, biop, inop, seqM, dctM, isTup, wTg, wTgs, onT, List.set, newL, newT, plnM, Bool.false_and, newD, wipeD, tgSlots, tgsSlots, List.append_nil, List.nil_append, List.cons_append, if_true, if_false, Bool.false_eq_true, reduceIte, Bool.not_true, Bool.not_false, isNum] using hQ
  | dct t kvs =>
    cases t with
    | true => cases hd
    | false => simpa (decide := true) only [wS, wE, wEs, wO, wAnd, wOr, wCs, wSs_nil, lk, ob, onI, on1, on2, asB, isiop, tyOf, cmpop, iceL, D.dep, depL, plt, binop, catop, biop, inop, seqM, dctM, isTup, wTg, wTgs, onT, List.set, newL, newT, plnM, Bool.false_and, newD, wipeD, tgSlots, tgsSlots, List.append_nil, List.nil_append, List.cons_append, if_true, if_false, Bool.false_eq_true, reduceIte, Bool.not_true, Bool.not_false, isNum] using hQ
  | ref _ => cases hd
  | obj _ _ => cases hd
  | clo _ _ => cases hd
  | _ => simpa (decide := true) only [wS, wE, wEs, wO, wAnd, wOr, wCs, wSs_nil, lk, ob, onI, on1, on2, asB, isiop, tyOf, cmpop, iceL, D.dep, depL, plt, binop, catop, biop, inop, seqM, dctM, isTup, wTg, wTgs, onT, List.set, newL, newT, plnM, Bool.false_and, newD, wipeD, tgSlots, tgsSlots, List.append_nil, List.nil_append, List.cons_append, if_true, if_false, Bool.false_eq_true, reduceIte, Bool.not_true, Bool.not_false, isNum] using hQ
/-! ### names of signs -/
def abc : Str := "abcdefghijklmnopqrstuvwxyz"
def low (c : Nat) : Bool := decide (c ∈ abc.cps.toList)
def isName (d : Dee.D) : Bool := match d with
  | .str s => decide (1 ≤ s.length) && decide (s.length ≤ 8) && s.cps.toList.all low
  | _ => false
theorem len_str {s : Str} {M : Mem} {Q : Dee.K} (h : s.length ≤ line) (hQ : Q (.int s.length) M) : biop .len false [.str s] M Q := ⟨h, hQ⟩
def nameFn : Fn := ⟨1, 2, [.ifs (.or [.not (.isi (.var 0) [.str]), .not (.chain .le .le (.int 1) (.bi .len false [.var 0]) (.glb "MOST_NAME"))]) [.ret (.bl false)] [], .ret (.bi .all false [.comp false (.cmp .isin (.var 1) (.glb "LETTERS")) (.nm 1) .seq [.var 0] []])]⟩
theorem dBools_map {α : Type} (f : α → Bool) : ∀ xs : List α, dBools (xs.map fun x => D.bl (f x)) = some (xs.map f)
  | [] => rfl
  | x :: xs => by
    show (dBools (xs.map fun x => D.bl (f x))).map (f x :: ·) = _
    rw [dBools_map f xs]
    rfl
theorem name {P : Prog} {i k : Nat} (hi : P.fns[i]? = some nameFn) (g1 : P.glo "MOST_NAME" = some (.int 8)) (g2 : P.glo "LETTERS" = some (.str abc)) {d : Dee.D} {M : Mem} {Q : Dee.K} {E : Dee.KX} (hd : tyd d = true) (hl : ∀ s, d = .str s → s.length ≤ line) (hQ : Q (.bl (isName d)) M) : wCall P (k + 1) i [d] M Q E := by
  rw [wCall_succ, hi]
  refine ⟨rfl, ?_⟩
  unfold nameFn
  have g1' : (semAt P k).glo "MOST_NAME" = some (.int 8) := g1
  have g2' : (semAt P k).glo "LETTERS" = some (.str abc) := g2
  generalize semAt P k = F at g1' g2'
  simp only [List.map, List.replicate, List.cons_append, List.nil_append, Nat.reduceSub]
  rw [wSs_cons]
  cases d with
  | str s =>
    have hs := hl s rfl
    simp (decide := true) only [wS, wE, wEs, wO, wAnd, wOr, wCs, wSs_nil, lk, ob, onI, on1, on2, asB, isiop, tyOf, cmpop, iceL, D.dep, depL, plt, binop, catop, biop, inop, seqM, dctM, isTup, wTg, wTgs, onT, List.set, newL, newT, plnM, Bool.false_and, newD, wipeD, tgSlots, tgsSlots, List.append_nil, List.nil_append, List.cons_append, if_true, if_false, Bool.false_eq_true, reduceIte, Bool.not_true, Bool.not_false, g1', hs, true_and, decide_eq_true_eq]
    by_cases h1 : 1 ≤ s.length
    · have h1' : (1 : Int) ≤ s.length := by omega
      by_cases h2 : s.length ≤ 8
      · have h2' : (s.length : Int) ≤ 8 := by omega
        simp only [h1', h2', decide_true, Bool.not_true, Bool.false_eq_true, if_false, if_true]
        rw [wSs_cons]
        simp only [wS, wE, wEs, wO, wAnd, wOr, wCs, wSs_nil, lk, ob, onI, on1, on2, asB, isiop, tyOf, cmpop, iceL, D.dep, depL, plt, binop, catop, biop, inop, seqM, dctM, isTup, wTg, wTgs, onT, List.set, newL, newT, plnM, Bool.false_and, newD, wipeD, tgSlots, tgsSlots, List.append_nil, List.nil_append, List.cons_append, if_true, if_false, Bool.false_eq_true, reduceIte, Bool.not_true, Bool.not_false, itop, still, hs]
        refine lcL_map (fun x => match x with | .str t => .bl (match t.cps.toList with | [c] => low c | _ => false) | _ => .bl false) (fun x hx R hR => ?_) ?_
        · obtain ⟨c, hc, rfl⟩ := List.mem_map.mp hx
          simpa only [wS, wE, wEs, wO, wAnd, wOr, wCs, wSs_nil, lk, ob, onI, on1, on2, asB, isiop, tyOf, cmpop, iceL, D.dep, depL, plt, binop, catop, biop, inop, seqM, dctM, isTup, wTg, wTgs, onT, List.set, newL, newT, plnM, Bool.false_and, newD, wipeD, tgSlots, tgsSlots, List.append_nil, List.nil_append, List.cons_append, if_true, if_false, Bool.false_eq_true, reduceIte, Bool.not_true, Bool.not_false, g2', strOf, onC, low] using hR
        · simp only [List.nil_append, List.map_map]
          have e : (s.cps.toList.map ((fun x => match x with | .str t => D.bl (match t.cps.toList with | [c] => low c | _ => false) | _ => D.bl false) ∘ strOf)) = s.cps.toList.map fun c => D.bl (low c) := by
            apply List.map_congr_left
            intro c _
            rfl
          rw [e]
          unfold lsB
          simp only [wS, wE, wEs, wO, wAnd, wOr, wCs, wSs_nil, lk, ob, onI, on1, on2, asB, isiop, tyOf, cmpop, iceL, D.dep, depL, plt, binop, catop, biop, inop, seqM, dctM, isTup, wTg, wTgs, onT, List.set, newL, newT, plnM, Bool.false_and, newD, wipeD, tgSlots, tgsSlots, List.append_nil, List.nil_append, List.cons_append, if_true, if_false, Bool.false_eq_true, reduceIte, Bool.not_true, Bool.not_false, dBools_map]
          refine ⟨trivial, ?_⟩
          unfold isName at hQ
          simpa [h1, h2] using hQ
      · have h2' : ¬ (s.length : Int) ≤ 8 := by omega
        simp only [h1', h2', decide_true, decide_false, Bool.not_false, if_true]
        rw [wSs_cons]
        simp only [wS, wE, wEs, wO, wAnd, wOr, wCs, wSs_nil, lk, ob, onI, on1, on2, asB, isiop, tyOf, cmpop, iceL, D.dep, depL, plt, binop, catop, biop, inop, seqM, dctM, isTup, wTg, wTgs, onT, List.set, newL, newT, plnM, Bool.false_and, newD, wipeD, tgSlots, tgsSlots, List.append_nil, List.nil_append, List.cons_append, if_true, if_false, Bool.false_eq_true, reduceIte, Bool.not_true, Bool.not_false]
        unfold isName at hQ
        simpa [h1, h2] using hQ
    · have h1' : ¬ (1 : Int) ≤ s.length := by omega
      simp only [h1', decide_false, Bool.false_eq_true, if_false, Bool.not_false, if_true]
      rw [wSs_cons]
      simp only [wS, wE, wEs, wO, wAnd, wOr, wCs, wSs_nil, lk, ob, onI, on1, on2, asB, isiop, tyOf, cmpop, iceL, D.dep, depL, plt, binop, catop, biop, inop, seqM, dctM, isTup, wTg, wTgs, onT, List.set, newL, newT, plnM, Bool.false_and, newD, wipeD, tgSlots, tgsSlots, List.append_nil, List.nil_append, List.cons_append, if_true, if_false, Bool.false_eq_true, reduceIte, Bool.not_true, Bool.not_false]
      unfold isName at hQ
      simpa [h1] using hQ
  | dct t kvs =>
    cases t with
    | true => cases hd
    | false =>
      simp (decide := true) only [wS, wE, wEs, wO, wAnd, wOr, wCs, wSs_nil, lk, ob, onI, on1, on2, asB, isiop, tyOf, cmpop, iceL, D.dep, depL, plt, binop, catop, biop, inop, seqM, dctM, isTup, wTg, wTgs, onT, List.set, newL, newT, plnM, Bool.false_and, newD, wipeD, tgSlots, tgsSlots, List.append_nil, List.nil_append, List.cons_append, if_true, if_false, Bool.false_eq_true, reduceIte, Bool.not_true, Bool.not_false]
      rw [wSs_cons]
      simpa only [wS, wE, wEs, wO, wAnd, wOr, wCs, wSs_nil, lk, ob, onI, on1, on2, asB, isiop, tyOf, cmpop, iceL, D.dep, depL, plt, binop, catop, biop, inop, seqM, dctM, isTup, wTg, wTgs, onT, List.set, newL, newT, plnM, Bool.false_and, newD, wipeD, tgSlots, tgsSlots, List.append_nil, List.nil_append, List.cons_append, if_true, if_false, Bool.false_eq_true, reduceIte, Bool.not_true, Bool.not_false, isName] using hQ
  | ref _ => cases hd
  | obj _ _ => cases hd
  | clo _ _ => cases hd
  | _ =>
    simp (decide := true) only [wS, wE, wEs, wO, wAnd, wOr, wCs, wSs_nil, lk, ob, onI, on1, on2, asB, isiop, tyOf, cmpop, iceL, D.dep, depL, plt, binop, catop, biop, inop, seqM, dctM, isTup, wTg, wTgs, onT, List.set, newL, newT, plnM, Bool.false_and, newD, wipeD, tgSlots, tgsSlots, List.append_nil, List.nil_append, List.cons_append, if_true, if_false, Bool.false_eq_true, reduceIte, Bool.not_true, Bool.not_false]
    rw [wSs_cons]
    simpa only [wS, wE, wEs, wO, wAnd, wOr, wCs, wSs_nil, lk, ob, onI, on1, on2, asB, isiop, tyOf, cmpop, iceL, D.dep, depL, plt, binop, catop, biop, inop, seqM, dctM, isTup, wTg, wTgs, onT, List.set, newL, newT, plnM, Bool.false_and, newD, wipeD, tgSlots, tgsSlots, List.append_nil, List.nil_append, List.cons_append, if_true, if_false, Bool.false_eq_true, reduceIte, Bool.not_true, Bool.not_false, isName] using hQ
def lnameFn : Fn := ⟨1, 2, [.ifs (.or [.not (.isi (.var 0) [.str]), .not (.chain .le .le (.int 1) (.bi .len false [.var 0]) (.int 8))]) [.ret (.bl false)] [], .ret (.cmp .eq (.comp false (.int 1) (.nm 1) .seq [.var 0] [.cmp .notin (.var 1) (.str "abcdefghijklmnopqrstuvwxyz")]) (.lst false []))]⟩
theorem dep_ints : ∀ xs : List Dee.D, (∀ x ∈ xs, ∃ i, x = .int i) → depL xs = 0
  | [], _ => rfl
  | x :: xs, h => by
    obtain ⟨i, rfl⟩ := h x (by simp)
    unfold depL
    rw [dep_ints xs fun y hy => h y (by simp [hy])]
    rfl
theorem peqL_nil (xs : List Dee.D) : peqL xs [] = xs.isEmpty := by cases xs <;> rfl
theorem lname {P : Prog} {i k : Nat} (hi : P.fns[i]? = some lnameFn) {d : Dee.D} {M : Mem} {Q : Dee.K} {E : Dee.KX} (hd : tyd d = true) (hl : ∀ s, d = .str s → s.length ≤ line) (hQ : Q (.bl (isName d)) M) : wCall P (k + 1) i [d] M Q E := by
  rw [wCall_succ, hi]
  refine ⟨rfl, ?_⟩
  unfold lnameFn
  generalize semAt P k = F
  simp only [List.map, List.replicate, List.cons_append, List.nil_append, Nat.reduceSub]
  rw [wSs_cons]
  cases d with
  | str s =>
    have hs := hl s rfl
    simp (decide := true) only [wS, wE, wEs, wO, wAnd, wOr, wCs, wSs_nil, lk, ob, onI, on1, on2, asB, isiop, tyOf, cmpop, iceL, D.dep, depL, plt, binop, catop, biop, inop, seqM, dctM, isTup, wTg, wTgs, onT, List.set, newL, newT, plnM, Bool.false_and, newD, wipeD, tgSlots, tgsSlots, List.append_nil, List.nil_append, List.cons_append, if_true, if_false, Bool.false_eq_true, reduceIte, Bool.not_true, Bool.not_false, hs, true_and, decide_eq_true_eq]
    by_cases h1 : 1 ≤ s.length
    · have h1' : (1 : Int) ≤ s.length := by omega
      by_cases h2 : s.length ≤ 8
      · have h2' : (s.length : Int) ≤ 8 := by omega
        simp only [h1', h2', decide_true, Bool.not_true, Bool.false_eq_true, if_false, if_true]
        rw [wSs_cons]
        simp only [wS, wE, wEs, wO, wAnd, wOr, wCs, wSs_nil, lk, ob, onI, on1, on2, asB, isiop, tyOf, cmpop, iceL, D.dep, depL, plt, binop, catop, biop, inop, seqM, dctM, isTup, wTg, wTgs, onT, List.set, newL, newT, plnM, Bool.false_and, newD, wipeD, tgSlots, tgsSlots, List.append_nil, List.nil_append, List.cons_append, if_true, if_false, Bool.false_eq_true, reduceIte, Bool.not_true, Bool.not_false, itop, still, hs]
        refine lcL_fm (fun x => match x with | .str t => (match t.cps.toList with | [c] => if low c then none else some (.int 1) | _ => none) | _ => none) (fun x hx R hR => ?_) ?_
        · obtain ⟨c, hc, rfl⟩ := List.mem_map.mp hx
          simp only [wS, wE, wEs, wO, wAnd, wOr, wCs, wSs_nil, lk, ob, onI, on1, on2, asB, isiop, tyOf, cmpop, iceL, D.dep, depL, plt, binop, catop, biop, inop, seqM, dctM, isTup, wTg, wTgs, onT, List.set, newL, newT, plnM, Bool.false_and, newD, wipeD, tgSlots, tgsSlots, List.append_nil, List.nil_append, List.cons_append, if_true, if_false, Bool.false_eq_true, reduceIte, Bool.not_true, Bool.not_false, strOf, onC]
          have hR : R (if low c then none else some (.int 1)) M := hR
          cases e : low c with
          | true =>
            rw [e] at hR
            have e' : c ∈ ("abcdefghijklmnopqrstuvwxyz" : Str).cps.toList := of_decide_eq_true e
            simpa [e'] using hR
          | false =>
            rw [e] at hR
            have e' : c ∉ ("abcdefghijklmnopqrstuvwxyz" : Str).cps.toList := of_decide_eq_false e
            simpa [e'] using hR
        · have e : (s.cps.toList.map strOf).filterMap (fun x => match x with | .str t => (match t.cps.toList with | [c] => if low c then none else some (D.int 1) | _ => none) | _ => none) = s.cps.toList.filterMap fun c => if low c then none else some (D.int 1) := by
            rw [List.filterMap_map]
            rfl
          rw [e]
          have hi : ∀ x ∈ s.cps.toList.filterMap (fun c => if low c then none else some (D.int 1)), ∃ i, x = .int i := fun x hx => by
            obtain ⟨c, _, hc⟩ := List.mem_filterMap.mp hx
            split at hc
            · cases hc
            · cases hc; exact ⟨1, rfl⟩
          simp only [wS, wE, wEs, wO, wAnd, wOr, wCs, wSs_nil, lk, ob, onI, on1, on2, asB, isiop, tyOf, cmpop, iceL, D.dep, depL, plt, binop, catop, biop, inop, seqM, dctM, isTup, wTg, wTgs, onT, List.set, newL, newT, plnM, Bool.false_and, newD, wipeD, tgSlots, tgsSlots, List.append_nil, List.nil_append, List.cons_append, if_true, if_false, Bool.false_eq_true, reduceIte, Bool.not_true, Bool.not_false, dep_ints _ hi, peq, peqL_nil]
          refine ⟨by decide, ?_⟩
          have e2 : (s.cps.toList.filterMap fun c => if low c then none else some (D.int 1)).isEmpty = s.cps.toList.all low := by
            generalize s.cps.toList = cs
            induction cs with
            | nil => rfl
            | cons c cs ih =>
              cases e : low c with
              | true => rw [List.filterMap_cons_none (by simp [e])]; simpa [e] using ih
              | false => rw [List.filterMap_cons_some (b := D.int 1) (by simp [e])]; simp [e]
          rw [e2]
          unfold isName at hQ
          simpa [h1, h2] using hQ
      · have h2' : ¬ (s.length : Int) ≤ 8 := by omega
        simp only [h1', h2', decide_true, decide_false, Bool.not_false, if_true]
        rw [wSs_cons]
        simp only [wS, wE, wEs, wO, wAnd, wOr, wCs, wSs_nil, lk, ob, onI, on1, on2, asB, isiop, tyOf, cmpop, iceL, D.dep, depL, plt, binop, catop, biop, inop, seqM, dctM, isTup, wTg, wTgs, onT, List.set, newL, newT, plnM, Bool.false_and, newD, wipeD, tgSlots, tgsSlots, List.append_nil, List.nil_append, List.cons_append, if_true, if_false, Bool.false_eq_true, reduceIte, Bool.not_true, Bool.not_false]
        unfold isName at hQ
        simpa [h1, h2] using hQ
    · have h1' : ¬ (1 : Int) ≤ s.length := by omega
      simp only [h1', decide_false, Bool.false_eq_true, if_false, Bool.not_false, if_true]
      rw [wSs_cons]
      simp only [wS, wE, wEs, wO, wAnd, wOr, wCs, wSs_nil, lk, ob, onI, on1, on2, asB, isiop, tyOf, cmpop, iceL, D.dep, depL, plt, binop, catop, biop, inop, seqM, dctM, isTup, wTg, wTgs, onT, List.set, newL, newT, plnM, Bool.false_and, newD, wipeD, tgSlots, tgsSlots, List.append_nil, List.nil_append, List.cons_append, if_true, if_false, Bool.false_eq_true, reduceIte, Bool.not_true, Bool.not_false]
      unfold isName at hQ
      simpa [h1] using hQ
  | dct t kvs =>
    cases t with
    | true => cases hd
    | false =>
      simp (decide := true) only [wS, wE, wEs, wO, wAnd, wOr, wCs, wSs_nil, lk, ob, onI, on1, on2, asB, isiop, tyOf, cmpop, iceL, D.dep, depL, plt, binop, catop, biop, inop, seqM, dctM, isTup, wTg, wTgs, onT, List.set, newL, newT, plnM, Bool.false_and, newD, wipeD, tgSlots, tgsSlots, List.append_nil, List.nil_append, List.cons_append, if_true, if_false, Bool.false_eq_true, reduceIte, Bool.not_true, Bool.not_false]
      rw [wSs_cons]
      simpa only [wS, wE, wEs, wO, wAnd, wOr, wCs, wSs_nil, lk, ob, onI, on1, on2, asB, isiop, tyOf, cmpop, iceL, D.dep, depL, plt, binop, catop, biop, inop, seqM, dctM, isTup, wTg, wTgs, onT, List.set, newL, newT, plnM, Bool.false_and, newD, wipeD, tgSlots, tgsSlots, List.append_nil, List.nil_append, List.cons_append, if_true, if_false, Bool.false_eq_true, reduceIte, Bool.not_true, Bool.not_false, isName] using hQ
  | ref _ => cases hd
  | obj _ _ => cases hd
  | clo _ _ => cases hd
  | _ =>
    simp (decide := true) only [wS, wE, wEs, wO, wAnd, wOr, wCs, wSs_nil, lk, ob, onI, on1, on2, asB, isiop, tyOf, cmpop, iceL, D.dep, depL, plt, binop, catop, biop, inop, seqM, dctM, isTup, wTg, wTgs, onT, List.set, newL, newT, plnM, Bool.false_and, newD, wipeD, tgSlots, tgsSlots, List.append_nil, List.nil_append, List.cons_append, if_true, if_false, Bool.false_eq_true, reduceIte, Bool.not_true, Bool.not_false]
    rw [wSs_cons]
    simpa only [wS, wE, wEs, wO, wAnd, wOr, wCs, wSs_nil, lk, ob, onI, on1, on2, asB, isiop, tyOf, cmpop, iceL, D.dep, depL, plt, binop, catop, biop, inop, seqM, dctM, isTup, wTg, wTgs, onT, List.set, newL, newT, plnM, Bool.false_and, newD, wipeD, tgSlots, tgsSlots, List.append_nil, List.nil_append, List.cons_append, if_true, if_false, Bool.false_eq_true, reduceIte, Bool.not_true, Bool.not_false, isName] using hQ
/-! ### signs -/
/-- no reference and the like within; texts of at most so many letters, rows of at most so many items -/
def pv (L : Nat) : Nat → Dee.D → Prop
  | _, .non => True
  | _, .bl _ => True
  | _, .int _ => True
  | _, .str s => s.length ≤ L
  | n + 1, .tup xs => xs.length ≤ L ∧ ∀ x ∈ xs, pv L n x
  | n + 1, .lst xs => xs.length ≤ L ∧ ∀ x ∈ xs, pv L n x
  | _, .dct false [] => True
  | _, _ => False
theorem pv_tyd {L : Nat} : ∀ {n : Nat} {d : Dee.D}, pv L n d → tyd d = true
  | _, .non, _ => rfl
  | _, .bl _, _ => rfl
  | _, .int _, _ => rfl
  | _, .str _, _ => rfl
  | _, .tup _, _ => rfl
  | _, .lst _, _ => rfl
  | _, .dct false _, _ => rfl
  | _, .dct true _, h => by unfold pv at h; exact h.elim
  | _, .obj _ _, h => by unfold pv at h; exact h.elim
  | _, .ref _, h => by unfold pv at h; exact h.elim
  | _, .clo _ _, h => by unfold pv at h; exact h.elim
theorem pv_str {L : Nat} : ∀ {n : Nat} {d : Dee.D}, pv L n d → ∀ s, d = .str s → s.length ≤ L
  | _, _, h, s, e => by subst e; unfold pv at h; exact h
theorem pv_tup {L n : Nat} {xs : List Dee.D} (h : pv L n (.tup xs)) : xs.length ≤ L ∧ ∃ m, n = m + 1 ∧ ∀ x ∈ xs, pv L m x := by
  cases n with
  | zero => unfold pv at h; exact h.elim
  | succ n => unfold pv at h; exact ⟨h.1, n, rfl, h.2⟩
theorem pv_lst {L n : Nat} {xs : List Dee.D} (h : pv L n (.lst xs)) : xs.length ≤ L ∧ ∃ m, n = m + 1 ∧ ∀ x ∈ xs, pv L m x := by
  cases n with
  | zero => unfold pv at h; exact h.elim
  | succ n => unfold pv at h; exact ⟨h.1, n, rfl, h.2⟩
theorem pv_up {L L' : Nat} (hL : L ≤ L') : ∀ {n m : Nat} {d : Dee.D}, n ≤ m → pv L n d → pv L' m d
  | _, _, .non, _, _ => by unfold pv; trivial
  | _, _, .bl _, _, _ => by unfold pv; trivial
  | _, _, .int _, _, _ => by unfold pv; trivial
  | _, _, .str s, _, h => by unfold pv at h ⊢; omega
  | n, m, .tup xs, h, hs => by
    obtain ⟨h1, n', rfl, h2⟩ := pv_tup hs
    match m, h with
    | m + 1, h => unfold pv; exact ⟨by omega, fun x hx => pv_up hL (by omega) (h2 x hx)⟩
  | n, m, .lst xs, h, hs => by
    obtain ⟨h1, n', rfl, h2⟩ := pv_lst hs
    match m, h with
    | m + 1, h => unfold pv; exact ⟨by omega, fun x hx => pv_up hL (by omega) (h2 x hx)⟩
  | _, _, .dct false [], _, _ => by unfold pv; trivial
  | _, _, .dct false (_ :: _), _, h => by unfold pv at h; exact h.elim
  | _, _, .dct true _, _, h => by unfold pv at h; exact h.elim
  | _, _, .obj _ _, _, h => by unfold pv at h; exact h.elim
  | _, _, .ref _, _, h => by unfold pv at h; exact h.elim
  | _, _, .clo _ _, _, h => by unfold pv at h; exact h.elim
def isSign (d : Dee.D) : Bool := match d with
  | .tup [a, b] => isName a && isNum b 0 3
  | _ => false
def signFn (n m : Nat) : Fn := ⟨1, 1, [.ifs (.or [.not (.isi (.var 0) [.tuple]), .cmp .ne (.bi .len false [.var 0]) (.int 2)]) [.ret (.bl false)] [], .ret (.and [.call n [.sub (.var 0) (.int 0)], .call m [.sub (.var 0) (.int 1), .int 0, .glb "MOST_ARITY"]])]⟩
theorem ne_ints (a b : Int) : (!peq (.int a) (.int b)) = !decide (a = b) := by
  simp only [peq]
  by_cases h : a = b
  · subst h; simp
  · simp [h]
theorem sign {P : Prog} {i k n m : Nat} (hi : P.fns[i]? = some (signFn n m)) (hn : P.fns[n]? = some nameFn) (hm : P.fns[m]? = some numFn) (g1 : P.glo "MOST_NAME" = some (.int 8)) (g2 : P.glo "LETTERS" = some (.str abc)) (g3 : P.glo "MOST_ARITY" = some (.int 3)) {L N : Nat} {d : Dee.D} {M : Mem} {Q : Dee.K} {E : Dee.KX} (hd : pv L N d) (hL : L ≤ line) (hQ : Q (.bl (isSign d)) M) : wCall P (k + 2) i [d] M Q E := by
  rw [wCall_succ, hi]
  refine ⟨rfl, ?_⟩
  unfold signFn
  have g3' : (semAt P (k + 1)).glo "MOST_ARITY" = some (.int 3) := g3
  have hc : (semAt P (k + 1)).call = wCall P (k + 1) := rfl
  generalize semAt P (k + 1) = F at g3' hc
  simp only [List.map, List.replicate, List.cons_append, List.nil_append, Nat.reduceSub]
  rw [wSs_cons]
  have hd0 := hd
  cases d with
  | tup xs =>
    obtain ⟨hl, N', rfl, hx⟩ := pv_tup hd
    simp (decide := true) only [wS, wE, wEs, wO, wAnd, wOr, wCs, wSs_nil, lk, ob, onI, on1, on2, asB, isiop, tyOf, cmpop, iceL, D.dep, depL, plt, binop, catop, biop, inop, seqM, dctM, isTup, wTg, wTgs, onT, List.set, newL, newT, plnM, Bool.false_and, newD, wipeD, tgSlots, tgsSlots, List.append_nil, List.nil_append, List.cons_append, if_true, if_false, Bool.false_eq_true, reduceIte, Bool.not_true, Bool.not_false, ne_ints]
    refine ⟨by decide, ?_⟩
    by_cases h2 : xs.length = 2
    · match xs, h2, hx with
      | [a, b], _, hx =>
        simp (decide := true) only [wS, wE, wEs, wO, wAnd, wOr, wCs, wSs_nil, lk, ob, onI, on1, on2, asB, isiop, tyOf, cmpop, iceL, D.dep, depL, plt, binop, catop, biop, inop, seqM, dctM, isTup, wTg, wTgs, onT, List.set, newL, newT, plnM, Bool.false_and, newD, wipeD, tgSlots, tgsSlots, List.append_nil, List.nil_append, List.cons_append, if_true, if_false, Bool.false_eq_true, reduceIte, Bool.not_true, Bool.not_false, List.length_cons, List.length_nil]
        rw [wSs_cons]
        simp only [wS, wE, wEs, wO, wAnd, wOr, wCs, wSs_nil, lk, ob, onI, on1, on2, asB, isiop, tyOf, cmpop, iceL, D.dep, depL, plt, binop, catop, biop, inop, seqM, dctM, isTup, wTg, wTgs, onT, List.set, newL, newT, plnM, Bool.false_and, newD, wipeD, tgSlots, tgsSlots, List.append_nil, List.nil_append, List.cons_append, if_true, if_false, Bool.false_eq_true, reduceIte, Bool.not_true, Bool.not_false, hc, sub_tup (xs := [a, b]) (i := 0) (v := a) (by decide) rfl]
        have ha := hx a (by simp)
        have hb := hx b (by simp)
        refine name hn g1 g2 (pv_tyd ha) (fun s e => Nat.le_trans (pv_str ha s e) hL) ?_
        unfold isSign at hQ
        cases e : isName a with
        | false => simpa [wS, wE, wEs, wO, wAnd, wOr, wCs, wSs_nil, lk, ob, onI, on1, on2, asB, isiop, tyOf, cmpop, iceL, D.dep, depL, plt, binop, catop, biop, inop, seqM, dctM, isTup, wTg, wTgs, onT, List.set, newL, newT, plnM, Bool.false_and, newD, wipeD, tgSlots, tgsSlots, List.append_nil, List.nil_append, List.cons_append, if_true, if_false, Bool.false_eq_true, reduceIte, Bool.not_true, Bool.not_false, e] using hQ
        | true =>
          simp only [wS, wE, wEs, wO, wAnd, wOr, wCs, wSs_nil, lk, ob, onI, on1, on2, asB, isiop, tyOf, cmpop, iceL, D.dep, depL, plt, binop, catop, biop, inop, seqM, dctM, isTup, wTg, wTgs, onT, List.set, newL, newT, plnM, Bool.false_and, newD, wipeD, tgSlots, tgsSlots, List.append_nil, List.nil_append, List.cons_append, if_true, if_false, Bool.false_eq_true, reduceIte, Bool.not_true, Bool.not_false, g3', sub_tup (xs := [a, b]) (i := 1) (v := b) (by decide) rfl]
          refine num hm (pv_tyd hb) ?_
          simpa [wS, wE, wEs, wO, wAnd, wOr, wCs, wSs_nil, lk, ob, onI, on1, on2, asB, isiop, tyOf, cmpop, iceL, D.dep, depL, plt, binop, catop, biop, inop, seqM, dctM, isTup, wTg, wTgs, onT, List.set, newL, newT, plnM, Bool.false_and, newD, wipeD, tgSlots, tgsSlots, List.append_nil, List.nil_append, List.cons_append, if_true, if_false, Bool.false_eq_true, reduceIte, Bool.not_true, Bool.not_false, e] using hQ
    · have h2' : ¬ ((xs.length : Int) = 2) := by omega
      simp only [h2', decide_false, Bool.not_false, if_true]
      rw [wSs_cons]
      simp only [wS, wE, wEs, wO, wAnd, wOr, wCs, wSs_nil, lk, ob, onI, on1, on2, asB, isiop, tyOf, cmpop, iceL, D.dep, depL, plt, binop, catop, biop, inop, seqM, dctM, isTup, wTg, wTgs, onT, List.set, newL, newT, plnM, Bool.false_and, newD, wipeD, tgSlots, tgsSlots, List.append_nil, List.nil_append, List.cons_append, if_true, if_false, Bool.false_eq_true, reduceIte, Bool.not_true, Bool.not_false]
      have e : isSign (.tup xs) = false := by
        unfold isSign
        split
        · rename_i a b e
          cases e
          simp at h2
        · rfl
      rw [e] at hQ
      exact hQ
  | dct t kvs =>
    cases t with
    | true => unfold pv at hd; exact hd.elim
    | false =>
      simp (decide := true) only [wS, wE, wEs, wO, wAnd, wOr, wCs, wSs_nil, lk, ob, onI, on1, on2, asB, isiop, tyOf, cmpop, iceL, D.dep, depL, plt, binop, catop, biop, inop, seqM, dctM, isTup, wTg, wTgs, onT, List.set, newL, newT, plnM, Bool.false_and, newD, wipeD, tgSlots, tgsSlots, List.append_nil, List.nil_append, List.cons_append, if_true, if_false, Bool.false_eq_true, reduceIte, Bool.not_true, Bool.not_false]
      rw [wSs_cons]
      simpa only [wS, wE, wEs, wO, wAnd, wOr, wCs, wSs_nil, lk, ob, onI, on1, on2, asB, isiop, tyOf, cmpop, iceL, D.dep, depL, plt, binop, catop, biop, inop, seqM, dctM, isTup, wTg, wTgs, onT, List.set, newL, newT, plnM, Bool.false_and, newD, wipeD, tgSlots, tgsSlots, List.append_nil, List.nil_append, List.cons_append, if_true, if_false, Bool.false_eq_true, reduceIte, Bool.not_true, Bool.not_false, isSign] using hQ
  | ref _ => unfold pv at hd; exact hd.elim
  | obj _ _ => unfold pv at hd; exact hd.elim
  | clo _ _ => unfold pv at hd; exact hd.elim
  | _ =>
    simp (decide := true) only [wS, wE, wEs, wO, wAnd, wOr, wCs, wSs_nil, lk, ob, onI, on1, on2, asB, isiop, tyOf, cmpop, iceL, D.dep, depL, plt, binop, catop, biop, inop, seqM, dctM, isTup, wTg, wTgs, onT, List.set, newL, newT, plnM, Bool.false_and, newD, wipeD, tgSlots, tgsSlots, List.append_nil, List.nil_append, List.cons_append, if_true, if_false, Bool.false_eq_true, reduceIte, Bool.not_true, Bool.not_false]
    rw [wSs_cons]
    simpa only [wS, wE, wEs, wO, wAnd, wOr, wCs, wSs_nil, lk, ob, onI, on1, on2, asB, isiop, tyOf, cmpop, iceL, D.dep, depL, plt, binop, catop, biop, inop, seqM, dctM, isTup, wTg, wTgs, onT, List.set, newL, newT, plnM, Bool.false_and, newD, wipeD, tgSlots, tgsSlots, List.append_nil, List.nil_append, List.cons_append, if_true, if_false, Bool.false_eq_true, reduceIte, Bool.not_true, Bool.not_false, isSign] using hQ
def fst0 : Dee.D → Dee.D | .tup (a :: _) => a | _ => .non
def snd0 : Dee.D → Dee.D | .tup (_ :: b :: _) => b | _ => .non
def nmS (d : Dee.D) : Str := match fst0 d with | .str s => s | _ => ""
def isSigns (d : Dee.D) : Bool := match d with
  | .tup xs => decide (1 ≤ xs.length) && decide (xs.length ≤ 8) && xs.all isSign && decide (distS (xs.map nmS) = xs.length) && xs.any fun x => peq (snd0 x) (.int 0)
  | _ => false
theorem isSign_ok {d : Dee.D} (h : isSign d = true) : ∃ s j, d = .tup [.str s, .int j] ∧ 1 ≤ s.length ∧ s.length ≤ 8 ∧ 0 ≤ j ∧ j ≤ 3 := by
  unfold isSign at h
  split at h
  · rename_i a b
    rw [Bool.and_eq_true] at h
    obtain ⟨h1, h2⟩ := h
    unfold isName at h1
    unfold isNum at h2
    split at h1
    · rename_i s
      split at h2
      · rename_i j
        simp only [Bool.and_eq_true, decide_eq_true_eq] at h1 h2
        exact ⟨s, j, rfl, h1.1.1, h1.1.2, h2.1, h2.2⟩
      · cases h2
    · cases h1
  · cases h
theorem distS_snoc (ts : List Str) (t : Str) : distS (ts ++ [t]) = distS ts + (if ts.any (· == t) then 0 else 1) ∧ (∀ u, ((ts.foldl (fun acc t => if acc.any (· == t) then acc else acc ++ [t]) []).any (· == u)) = ts.any (· == u)) := by
  have mem : ∀ (us acc : List Str) (u : Str), ((us.foldl (fun acc t => if acc.any (· == t) then acc else acc ++ [t]) acc).any (· == u)) = (acc.any (· == u) || us.any (· == u)) := by
    intro us
    induction us with
    | nil => intro acc u; simp
    | cons v us ih =>
      intro acc u
      rw [List.foldl_cons, ih]
      have e := DeeSet.stepK_any acc v u
      unfold DeeSet.stepK at e
      rw [e, List.any_cons]
      by_cases z : u = v
      · subst z; simp
      · have : (v == u) = false := by simpa [beq_iff_eq] using (fun h : v = u => z h.symm)
        simp [z, this]
  have mem0 : ∀ u, ((ts.foldl (fun acc t => if acc.any (· == t) then acc else acc ++ [t]) []).any (· == u)) = ts.any (· == u) := fun u => by rw [mem]; simp
  refine ⟨?_, mem0⟩
  unfold distS
  rw [List.foldl_append, List.foldl_cons, List.foldl_nil, mem0]
  split <;> simp
theorem distS_le (ts : List Str) : distS ts ≤ ts.length := by
  have := DeeSet.metK_length_le (fun i => ts.getD i Str.empty) ts.length
  rw [metK_list] at this
  exact this
/-- no text stands twice, by places -/
def uniq (ts : List Str) : Bool := (List.range ts.length).all fun k => !(ts.take k).any (· == ts.getD k "")
theorem uniq_snoc (ts : List Str) (t : Str) : uniq (ts ++ [t]) = (uniq ts && !ts.any (· == t)) := by
  unfold uniq
  rw [List.length_append, List.length_singleton, List.range_succ, List.all_append]
  have e1 : ((List.range ts.length).all fun k => !((ts ++ [t]).take k).any (· == (ts ++ [t]).getD k "")) = (List.range ts.length).all fun k => !(ts.take k).any (· == ts.getD k "") := by
    rw [Bool.eq_iff_iff, List.all_eq_true, List.all_eq_true]
    have key : ∀ k ∈ List.range ts.length, (!((ts ++ [t]).take k).any (· == (ts ++ [t]).getD k "")) = !(ts.take k).any (· == ts.getD k "") := fun k hk => by
      have hk : k < ts.length := by simpa using hk
      rw [List.take_append_of_le_length (by omega), List.getD_eq_getElem?_getD, List.getD_eq_getElem?_getD, List.getElem?_append_left hk]
    exact ⟨fun h k hk => by rw [← key k hk]; exact h k hk, fun h k hk => by rw [key k hk]; exact h k hk⟩
  rw [e1]
  simp [List.getD_eq_getElem?_getD]
theorem uniq_dist (ts : List Str) : decide (distS ts = ts.length) = uniq ts := by
  have key : ∀ us : List Str, ∀ ts : List Str, us.reverse = ts → decide (distS ts = ts.length) = uniq ts := by
    intro us
    induction us with
    | nil => intro ts e; subst e; rfl
    | cons u us ih =>
      intro ts e
      rw [List.reverse_cons] at e
      subst e
      have h1 := ih _ rfl
      have h2 := distS_le us.reverse
      rw [uniq_snoc, (distS_snoc us.reverse u).1, List.length_append, List.length_singleton, ← h1]
      cases e : us.reverse.any (· == u) with
      | true =>
        simp only [if_true, Bool.not_true, Bool.and_false, decide_eq_false_iff_not]
        omega
      | false =>
        simp only [Bool.false_eq_true, if_false, Bool.not_false, Bool.and_true]
        congr 1
        exact propext ⟨fun h => by omega, fun h => by omega⟩
  exact key ts.reverse ts (by simp)
def signsFn (n : Nat) : Fn := ⟨1, 3, [.ifs (.or [.not (.isi (.var 0) [.tuple]), .not (.chain .le .le (.int 1) (.bi .len false [.var 0]) (.glb "MOST_SIGNS"))]) [.ret (.bl false)] [], .ifs (.not (.bi .all false [.comp false (.call n [.var 2]) (.nm 2) .seq [.var 0] []])) [.ret (.bl false)] [], .asg (.nm 1) (.comp false (.sub (.var 2) (.int 0)) (.nm 2) .seq [.var 0] []), .ret (.and [.cmp .eq (.lens (.var 1)) (.bi .len false [.var 1]), .cmp .isin (.int 0) (.comp false (.sub (.var 2) (.int 1)) (.nm 2) .seq [.var 0] [])])]⟩
theorem names_of {xs : List Dee.D} (h : xs.all isSign = true) : xs.map fst0 = (xs.map nmS).map D.str := by
  rw [List.map_map]
  apply List.map_congr_left
  intro x hx
  obtain ⟨s, j, rfl, _⟩ := isSign_ok (List.all_eq_true.mp h x hx)
  rfl
theorem dTexts_map : ∀ ts : List Str, dTexts (ts.map D.str) = some ts
  | [] => rfl
  | t :: ts => by
    show (dTexts (ts.map D.str)).map (t :: ·) = _
    rw [dTexts_map ts]
    rfl
theorem peq_int (a b : Int) : peq (.int a) (.int b) = decide (a = b) := by
  simp only [peq]
  by_cases h : a = b
  · subst h; simp
  · simp [h]
theorem dep_flat : ∀ xs : List Dee.D, (∀ x ∈ xs, x.dep = 0) → depL xs = 0
  | [], _ => rfl
  | x :: xs, h => by
    unfold depL
    rw [dep_flat xs fun y hy => h y (by simp [hy]), h x (by simp)]
    rfl
theorem still_tup (xs : List Dee.D) : still (.tup xs) = some xs := rfl
theorem signs {P : Prog} {i k n m l : Nat} (hi : P.fns[i]? = some (signsFn l)) (hl : P.fns[l]? = some (signFn n m)) (hn : P.fns[n]? = some nameFn) (hm : P.fns[m]? = some numFn) (g1 : P.glo "MOST_NAME" = some (.int 8)) (g2 : P.glo "LETTERS" = some (.str abc)) (g3 : P.glo "MOST_ARITY" = some (.int 3)) (g4 : P.glo "MOST_SIGNS" = some (.int 8)) {L N : Nat} {d : Dee.D} {M : Mem} {Q : Dee.K} {E : Dee.KX} (hd : pv L N d) (hL : L ≤ line) (hQ : Q (.bl (isSigns d)) M) : wCall P (k + 3) i [d] M Q E := by
  rw [wCall_succ, hi]
  refine ⟨rfl, ?_⟩
  unfold signsFn
  have g4' : (semAt P (k + 2)).glo "MOST_SIGNS" = some (.int 8) := g4
  have hc : (semAt P (k + 2)).call = wCall P (k + 2) := rfl
  generalize semAt P (k + 2) = F at g4' hc
  simp only [List.map, List.replicate, List.cons_append, List.nil_append, Nat.reduceSub]
  rw [wSs_cons]
  have hd0 := hd
  cases d with
  | tup xs =>
    obtain ⟨hlen, N', rfl, hx⟩ := pv_tup hd
    simp (decide := true) only [wS, wE, wEs, wO, wAnd, wOr, wCs, wSs_nil, lk, ob, onI, on1, on2, asB, isiop, tyOf, cmpop, iceL, D.dep, depL, plt, binop, catop, biop, inop, seqM, dctM, isTup, wTg, wTgs, onT, List.set, newL, newT, plnM, Bool.false_and, newD, wipeD, tgSlots, tgsSlots, List.append_nil, List.nil_append, List.cons_append, if_true, if_false, Bool.false_eq_true, reduceIte, Bool.not_true, Bool.not_false, g4', decide_eq_true_eq]
    unfold isSigns at hQ
    by_cases h1 : 1 ≤ xs.length
    · have h1' : (1 : Int) ≤ xs.length := by omega
      by_cases h2 : xs.length ≤ 8
      · have h2' : (xs.length : Int) ≤ 8 := by omega
        simp only [h1', h2', decide_true, Bool.not_true, Bool.false_eq_true, if_false, if_true]
        rw [wSs_cons]
        generalize hD : ({ nx := _, rt := _, bk := _, ct := _, ex := _ } : Dee.Ends) = D1
        simp only [wS, wE, wEs, wO, wAnd, wOr, wCs, wSs_nil, lk, ob, onI, on1, on2, asB, isiop, tyOf, cmpop, iceL, D.dep, depL, plt, binop, catop, biop, inop, seqM, dctM, isTup, wTg, wTgs, onT, List.set, newL, newT, plnM, Bool.false_and, newD, wipeD, tgSlots, tgsSlots, List.append_nil, List.nil_append, List.cons_append, if_true, if_false, Bool.false_eq_true, reduceIte, Bool.not_true, Bool.not_false, itop, still_tup]
        refine lcL_map (fun x => .bl (isSign x)) (fun x hx' R hR => ?_) ?_
        · simp only [wS, wE, wEs, wO, wAnd, wOr, wCs, wSs_nil, lk, ob, onI, on1, on2, asB, isiop, tyOf, cmpop, iceL, D.dep, depL, plt, binop, catop, biop, inop, seqM, dctM, isTup, wTg, wTgs, onT, List.set, newL, newT, plnM, Bool.false_and, newD, wipeD, tgSlots, tgsSlots, List.append_nil, List.nil_append, List.cons_append, if_true, if_false, Bool.false_eq_true, reduceIte, Bool.not_true, Bool.not_false, hc]
          exact sign hl hn hm g1 g2 g3 (hx x hx') hL hR
        · unfold lsB
          simp only [wS, wE, wEs, wO, wAnd, wOr, wCs, wSs_nil, lk, ob, onI, on1, on2, asB, isiop, tyOf, cmpop, iceL, D.dep, depL, plt, binop, catop, biop, inop, seqM, dctM, isTup, wTg, wTgs, onT, List.set, newL, newT, plnM, Bool.false_and, newD, wipeD, tgSlots, tgsSlots, List.append_nil, List.nil_append, List.cons_append, if_true, if_false, Bool.false_eq_true, reduceIte, Bool.not_true, Bool.not_false, dBools_map, List.all_map]
          refine ⟨trivial, ?_⟩
          have e0 : (xs.all (id ∘ fun x => isSign x)) = xs.all isSign := rfl
          rw [e0]
          cases hs : xs.all isSign with
          | false =>
            simp only [Bool.not_false, if_true]
            rw [wSs_cons]
            simp only [wS, wE, wEs, wO, wAnd, wOr, wCs, wSs_nil, lk, ob, onI, on1, on2, asB, isiop, tyOf, cmpop, iceL, D.dep, depL, plt, binop, catop, biop, inop, seqM, dctM, isTup, wTg, wTgs, onT, List.set, newL, newT, plnM, Bool.false_and, newD, wipeD, tgSlots, tgsSlots, List.append_nil, List.nil_append, List.cons_append, if_true, if_false, Bool.false_eq_true, reduceIte, Bool.not_true, Bool.not_false]
            rw [← hD]
            simpa [h1, h2, hs] using hQ
          | true =>
            simp only [Bool.not_true, Bool.false_eq_true, if_false]
            rw [← hD]
            show wSs _ _ _ _ _
            rw [wSs_cons]
            generalize hD : ({ nx := _, rt := _, bk := _, ct := _, ex := _ } : Dee.Ends) = D1
            simp only [wS, wE, wEs, wO, wAnd, wOr, wCs, wSs_nil, lk, ob, onI, on1, on2, asB, isiop, tyOf, cmpop, iceL, D.dep, depL, plt, binop, catop, biop, inop, seqM, dctM, isTup, wTg, wTgs, onT, List.set, newL, newT, plnM, Bool.false_and, newD, wipeD, tgSlots, tgsSlots, List.append_nil, List.nil_append, List.cons_append, if_true, if_false, Bool.false_eq_true, reduceIte, Bool.not_true, Bool.not_false, itop, still_tup]
            refine lcL_map fst0 (fun x hx' R hR => ?_) ?_
            · obtain ⟨s, j, rfl, _⟩ := isSign_ok (List.all_eq_true.mp hs x hx')
              exact Eq.mpr (sub_tup (by decide) rfl) hR
            · simp only [List.nil_append, ← hD]
              show wSs _ _ _ _ _
              rw [wSs_cons]
              simp only [wS, wE, wEs, wO, wAnd, wOr, wCs, wSs_nil, lk, ob, onI, on1, on2, asB, isiop, tyOf, cmpop, iceL, D.dep, depL, plt, binop, catop, biop, inop, seqM, dctM, isTup, wTg, wTgs, onT, List.set, newL, newT, plnM, Bool.false_and, newD, wipeD, tgSlots, tgsSlots, List.append_nil, List.nil_append, List.cons_append, if_true, if_false, Bool.false_eq_true, reduceIte, Bool.not_true, Bool.not_false, lensop, lsS, names_of hs, dTexts_map, List.length_map]
              refine ⟨trivial, by omega, ⟨by decide, by decide⟩, ?_⟩
              rw [peq_int]
              have e1 : decide ((distS (xs.map nmS) : Int) = (xs.length : Int)) = decide (distS (xs.map nmS) = xs.length) := by
                congr 1
                exact propext ⟨fun h => by omega, fun h => by omega⟩
              rw [e1]
              cases h3 : decide (distS (xs.map nmS) = xs.length) with
              | false =>
                simp only [Bool.false_eq_true, if_false]
                simpa [h1, h2, hs, h3] using hQ
              | true =>
                simp only [if_true, itop, on1, still_tup, ob]
                refine lcL_map snd0 (fun x hx' R hR => ?_) ?_
                · obtain ⟨s, j, rfl, _⟩ := isSign_ok (List.all_eq_true.mp hs x hx')
                  exact Eq.mpr (sub_tup (by decide) rfl) hR
                · simp only [wS, wE, wEs, wO, wAnd, wOr, wCs, wSs_nil, lk, ob, onI, on1, on2, asB, isiop, tyOf, cmpop, iceL, D.dep, depL, plt, binop, catop, biop, inop, seqM, dctM, isTup, wTg, wTgs, onT, List.set, newL, newT, plnM, Bool.false_and, newD, wipeD, tgSlots, tgsSlots, List.append_nil, List.nil_append, List.cons_append, if_true, if_false, Bool.false_eq_true, reduceIte, Bool.not_true, Bool.not_false]
                  refine ⟨⟨by decide, ?_⟩, ?_⟩
                  · rw [dep_flat _ fun y hy => ?_]
                    · decide
                    · obtain ⟨x, hx', rfl⟩ := List.mem_map.mp hy
                      obtain ⟨s, j, rfl, _⟩ := isSign_ok (List.all_eq_true.mp hs x hx')
                      rfl
                  · rw [List.any_map]
                    have e3 : distS (xs.map nmS) = xs.length := of_decide_eq_true h3
                    simpa [h1, h2, hs, e3, Function.comp_def] using hQ
      · have h2' : ¬ (xs.length : Int) ≤ 8 := by omega
        simp only [h1', h2', decide_true, decide_false, Bool.not_false, if_true]
        rw [wSs_cons]
        simp only [wS, wE, wEs, wO, wAnd, wOr, wCs, wSs_nil, lk, ob, onI, on1, on2, asB, isiop, tyOf, cmpop, iceL, D.dep, depL, plt, binop, catop, biop, inop, seqM, dctM, isTup, wTg, wTgs, onT, List.set, newL, newT, plnM, Bool.false_and, newD, wipeD, tgSlots, tgsSlots, List.append_nil, List.nil_append, List.cons_append, if_true, if_false, Bool.false_eq_true, reduceIte, Bool.not_true, Bool.not_false]
        simpa [h1, h2] using hQ
    · have h1' : ¬ (1 : Int) ≤ xs.length := by omega
      simp only [h1', decide_false, Bool.false_eq_true, if_false, Bool.not_false, if_true]
      rw [wSs_cons]
      simp only [wS, wE, wEs, wO, wAnd, wOr, wCs, wSs_nil, lk, ob, onI, on1, on2, asB, isiop, tyOf, cmpop, iceL, D.dep, depL, plt, binop, catop, biop, inop, seqM, dctM, isTup, wTg, wTgs, onT, List.set, newL, newT, plnM, Bool.false_and, newD, wipeD, tgSlots, tgsSlots, List.append_nil, List.nil_append, List.cons_append, if_true, if_false, Bool.false_eq_true, reduceIte, Bool.not_true, Bool.not_false]
      simpa [h1] using hQ
  | dct t kvs =>
    cases t with
    | true => unfold pv at hd; exact hd.elim
    | false =>
      simp (decide := true) only [wS, wE, wEs, wO, wAnd, wOr, wCs, wSs_nil, lk, ob, onI, on1, on2, asB, isiop, tyOf, cmpop, iceL, D.dep, depL, plt, binop, catop, biop, inop, seqM, dctM, isTup, wTg, wTgs, onT, List.set, newL, newT, plnM, Bool.false_and, newD, wipeD, tgSlots, tgsSlots, List.append_nil, List.nil_append, List.cons_append, if_true, if_false, Bool.false_eq_true, reduceIte, Bool.not_true, Bool.not_false]
      rw [wSs_cons]
      simpa only [wS, wE, wEs, wO, wAnd, wOr, wCs, wSs_nil, lk, ob, onI, on1, on2, asB, isiop, tyOf, cmpop, iceL, D.dep, depL, plt, binop, catop, biop, inop, seqM, dctM, isTup, wTg, wTgs, onT, List.set, newL, newT, plnM, Bool.false_and, newD, wipeD, tgSlots, tgsSlots, List.append_nil, List.nil_append, List.cons_append, if_true, if_false, Bool.false_eq_true, reduceIte, Bool.not_true, Bool.not_false, isSigns] using hQ
  | ref _ => unfold pv at hd; exact hd.elim
  | obj _ _ => unfold pv at hd; exact hd.elim
  | clo _ _ => unfold pv at hd; exact hd.elim
  | _ =>
    simp (decide := true) only [wS, wE, wEs, wO, wAnd, wOr, wCs, wSs_nil, lk, ob, onI, on1, on2, asB, isiop, tyOf, cmpop, iceL, D.dep, depL, plt, binop, catop, biop, inop, seqM, dctM, isTup, wTg, wTgs, onT, List.set, newL, newT, plnM, Bool.false_and, newD, wipeD, tgSlots, tgsSlots, List.append_nil, List.nil_append, List.cons_append, if_true, if_false, Bool.false_eq_true, reduceIte, Bool.not_true, Bool.not_false]
    rw [wSs_cons]
    simpa only [wS, wE, wEs, wO, wAnd, wOr, wCs, wSs_nil, lk, ob, onI, on1, on2, asB, isiop, tyOf, cmpop, iceL, D.dep, depL, plt, binop, catop, biop, inop, seqM, dctM, isTup, wTg, wTgs, onT, List.set, newL, newT, plnM, Bool.false_and, newD, wipeD, tgSlots, tgsSlots, List.append_nil, List.nil_append, List.cons_append, if_true, if_false, Bool.false_eq_true, reduceIte, Bool.not_true, Bool.not_false, isSigns] using hQ
def lsignsFn (n m : Nat) : Fn := ⟨1, 4, [.ifs (.or [.not (.isi (.var 0) [.tuple]), .not (.chain .le .le (.int 1) (.bi .len false [.var 0]) (.int 8))]) [.ret (.bl false)] [], .for (.nm 1) .seq [.var 0] [.ifs (.or [.not (.isi (.var 1) [.tuple]), .cmp .ne (.bi .len false [.var 1]) (.int 2), .not (.call n [.sub (.var 1) (.int 0)]), .not (.call m [.sub (.var 1) (.int 1), .int 0, .int 3])]) [.ret (.bl false)] []], .asg (.nm 2) (.comp false (.sub (.var 1) (.int 0)) (.nm 1) .seq [.var 0] []), .ret (.and [.cmp .eq (.comp false (.var 3) (.nm 3) .rng [.bi .len false [.var 2]] [.cmp .isin (.sub (.var 2) (.var 3)) (.slc (.var 2) none (some (.var 3)))]) (.lst false []), .cmp .ne (.comp false (.int 1) (.nm 1) .seq [.var 0] [.cmp .eq (.sub (.var 1) (.int 1)) (.int 0)]) (.lst false [])])]⟩
/-- the loop's test -/
theorem lsign_test {P : Prog} {k n m : Nat} (hn : P.fns[n]? = some lnameFn) (hm : P.fns[m]? = some numFn) {L N : Nat} {d : Dee.D} {x0 x2 x3 : Option Dee.D} {M : Mem} {Dn : Dee.Ends} (hd : pv L N d) (hL : L ≤ line) (h1 : isSign d = true → Dn.nx [x0, some d, x2, x3] M) (h0 : isSign d = false → Dn.rt (.bl false) M) :
    wSs (semAt P (k + 1)) [.ifs (.or [.not (.isi (.var 1) [.tuple]), .cmp .ne (.bi .len false [.var 1]) (.int 2), .not (.call n [.sub (.var 1) (.int 0)]), .not (.call m [.sub (.var 1) (.int 1), .int 0, .int 3])]) [.ret (.bl false)] []] [x0, some d, x2, x3] M Dn := by
  have hc : (semAt P (k + 1)).call = wCall P (k + 1) := rfl
  generalize semAt P (k + 1) = F at hc
  rw [wSs_cons]
  have no : isSign d = false → wSs F [.ret (.bl false)] [x0, some d, x2, x3] M { Dn with nx := fun σ1 M1 => wSs F [] σ1 M1 Dn } := fun e => by
    rw [wSs_cons]
    simp only [wS, wE, wEs, wO, wAnd, wOr, wCs, wSs_nil, lk, ob, onI, on1, on2, asB, isiop, tyOf, cmpop, iceL, D.dep, depL, plt, binop, catop, biop, inop, seqM, dctM, isTup, wTg, wTgs, onT, List.set, newL, newT, plnM, Bool.false_and, newD, wipeD, tgSlots, tgsSlots, List.append_nil, List.nil_append, List.cons_append, if_true, if_false, Bool.false_eq_true, reduceIte, Bool.not_true, Bool.not_false]
    exact h0 e
  cases d with
  | tup xs =>
    obtain ⟨hl, N', rfl, hx⟩ := pv_tup hd
    simp (decide := true) only [wS, wE, wEs, wO, wAnd, wOr, wCs, wSs_nil, lk, ob, onI, on1, on2, asB, isiop, tyOf, cmpop, iceL, D.dep, depL, plt, binop, catop, biop, inop, seqM, dctM, isTup, wTg, wTgs, onT, List.set, newL, newT, plnM, Bool.false_and, newD, wipeD, tgSlots, tgsSlots, List.append_nil, List.nil_append, List.cons_append, if_true, if_false, Bool.false_eq_true, reduceIte, Bool.not_true, Bool.not_false, ne_ints]
    refine ⟨by decide, ?_⟩
    by_cases h2 : xs.length = 2
    · match xs, h2, hx, no, h1, h0 with
      | [a, b], _, hx, no, h1, h0 =>
        simp (decide := true) only [wS, wE, wEs, wO, wAnd, wOr, wCs, wSs_nil, lk, ob, onI, on1, on2, asB, isiop, tyOf, cmpop, iceL, D.dep, depL, plt, binop, catop, biop, inop, seqM, dctM, isTup, wTg, wTgs, onT, List.set, newL, newT, plnM, Bool.false_and, newD, wipeD, tgSlots, tgsSlots, List.append_nil, List.nil_append, List.cons_append, if_true, if_false, Bool.false_eq_true, reduceIte, Bool.not_true, Bool.not_false, List.length_cons, List.length_nil, hc, sub_tup (xs := [a, b]) (i := 0) (v := a) (by decide) rfl]
        have ha := hx a (by simp)
        have hb := hx b (by simp)
        refine lname hn (pv_tyd ha) (fun s e => Nat.le_trans (pv_str ha s e) hL) ?_
        unfold isSign at h1 h0 no
        cases e : isName a with
        | false =>
          simp only [wS, wE, wEs, wO, wAnd, wOr, wCs, wSs_nil, lk, ob, onI, on1, on2, asB, isiop, tyOf, cmpop, iceL, D.dep, depL, plt, binop, catop, biop, inop, seqM, dctM, isTup, wTg, wTgs, onT, List.set, newL, newT, plnM, Bool.false_and, newD, wipeD, tgSlots, tgsSlots, List.append_nil, List.nil_append, List.cons_append, if_true, if_false, Bool.false_eq_true, reduceIte, Bool.not_true, Bool.not_false]
          exact no (by simp [e])
        | true =>
          simp only [wS, wE, wEs, wO, wAnd, wOr, wCs, wSs_nil, lk, ob, onI, on1, on2, asB, isiop, tyOf, cmpop, iceL, D.dep, depL, plt, binop, catop, biop, inop, seqM, dctM, isTup, wTg, wTgs, onT, List.set, newL, newT, plnM, Bool.false_and, newD, wipeD, tgSlots, tgsSlots, List.append_nil, List.nil_append, List.cons_append, if_true, if_false, Bool.false_eq_true, reduceIte, Bool.not_true, Bool.not_false, sub_tup (xs := [a, b]) (i := 1) (v := b) (by decide) rfl]
          refine num hm (pv_tyd hb) ?_
          cases e2 : isNum b 0 3 with
          | true =>
            simp only [wS, wE, wEs, wO, wAnd, wOr, wCs, wSs_nil, lk, ob, onI, on1, on2, asB, isiop, tyOf, cmpop, iceL, D.dep, depL, plt, binop, catop, biop, inop, seqM, dctM, isTup, wTg, wTgs, onT, List.set, newL, newT, plnM, Bool.false_and, newD, wipeD, tgSlots, tgsSlots, List.append_nil, List.nil_append, List.cons_append, if_true, if_false, Bool.false_eq_true, reduceIte, Bool.not_true, Bool.not_false]
            exact h1 (by simp [e, e2])
          | false =>
            simp only [wS, wE, wEs, wO, wAnd, wOr, wCs, wSs_nil, lk, ob, onI, on1, on2, asB, isiop, tyOf, cmpop, iceL, D.dep, depL, plt, binop, catop, biop, inop, seqM, dctM, isTup, wTg, wTgs, onT, List.set, newL, newT, plnM, Bool.false_and, newD, wipeD, tgSlots, tgsSlots, List.append_nil, List.nil_append, List.cons_append, if_true, if_false, Bool.false_eq_true, reduceIte, Bool.not_true, Bool.not_false]
            exact no (by simp [e, e2])
    · have h2' : ¬ ((xs.length : Int) = 2) := by omega
      simp only [h2', decide_false, Bool.not_false, if_true]
      refine no ?_
      unfold isSign
      split
      · rename_i a b e
        cases e
        simp at h2
      · rfl
  | dct t kvs =>
    cases t with
    | true => unfold pv at hd; exact hd.elim
    | false =>
      simp (decide := true) only [wS, wE, wEs, wO, wAnd, wOr, wCs, wSs_nil, lk, ob, onI, on1, on2, asB, isiop, tyOf, cmpop, iceL, D.dep, depL, plt, binop, catop, biop, inop, seqM, dctM, isTup, wTg, wTgs, onT, List.set, newL, newT, plnM, Bool.false_and, newD, wipeD, tgSlots, tgsSlots, List.append_nil, List.nil_append, List.cons_append, if_true, if_false, Bool.false_eq_true, reduceIte, Bool.not_true, Bool.not_false]
      exact no rfl
  | ref _ => unfold pv at hd; exact hd.elim
  | obj _ _ => unfold pv at hd; exact hd.elim
  | clo _ _ => unfold pv at hd; exact hd.elim
  | _ =>
    simp (decide := true) only [wS, wE, wEs, wO, wAnd, wOr, wCs, wSs_nil, lk, ob, onI, on1, on2, asB, isiop, tyOf, cmpop, iceL, D.dep, depL, plt, binop, catop, biop, inop, seqM, dctM, isTup, wTg, wTgs, onT, List.set, newL, newT, plnM, Bool.false_and, newD, wipeD, tgSlots, tgsSlots, List.append_nil, List.nil_append, List.cons_append, if_true, if_false, Bool.false_eq_true, reduceIte, Bool.not_true, Bool.not_false]
    exact no rfl
theorem cut_take {ts : List Dee.D} {j : Nat} (h : j ≤ ts.length) : cutL ts none (some (j : Int)) = ts.take j := by
  unfold cutL sIx
  simp only [List.drop_zero, Nat.sub_zero]
  rw [if_neg (by omega)]
  simp [h]
theorem any_strs (ts : List Str) (t : Str) : ((ts.map D.str).any fun x => peq x (.str t)) = ts.any (· == t) := by
  rw [List.any_map]
  rfl
theorem dep_strs (ts : List Str) : depL (ts.map D.str) = 0 := dep_flat _ fun y hy => by
  obtain ⟨x, _, rfl⟩ := List.mem_map.mp hy
  rfl
theorem lsigns {P : Prog} {i k n m : Nat} (hi : P.fns[i]? = some (lsignsFn n m)) (hn : P.fns[n]? = some lnameFn) (hm : P.fns[m]? = some numFn) {L N : Nat} {d : Dee.D} {M : Mem} {Q : Dee.K} {E : Dee.KX} (hd : pv L N d) (hL : L ≤ line) (hQ : Q (.bl (isSigns d)) M) : wCall P (k + 2) i [d] M Q E := by
  rw [wCall_succ, hi]
  refine ⟨rfl, ?_⟩
  unfold lsignsFn
  have ht := @lsign_test P k n m hn hm L
  generalize hF : semAt P (k + 1) = F at ht
  simp only [List.map, List.replicate, List.cons_append, List.nil_append, Nat.reduceSub]
  rw [wSs_cons]
  have hd0 := hd
  cases d with
  | tup xs =>
    obtain ⟨hlen, N', rfl, hx⟩ := pv_tup hd
    simp (decide := true) only [wS, wE, wEs, wO, wAnd, wOr, wCs, wSs_nil, lk, ob, onI, on1, on2, asB, isiop, tyOf, cmpop, iceL, D.dep, depL, plt, binop, catop, biop, inop, seqM, dctM, isTup, wTg, wTgs, onT, List.set, newL, newT, plnM, Bool.false_and, newD, wipeD, tgSlots, tgsSlots, List.append_nil, List.nil_append, List.cons_append, if_true, if_false, Bool.false_eq_true, reduceIte, Bool.not_true, Bool.not_false, decide_eq_true_eq]
    unfold isSigns at hQ
    dsimp only at hQ
    by_cases h1 : 1 ≤ xs.length
    · have h1' : (1 : Int) ≤ xs.length := by omega
      by_cases h2 : xs.length ≤ 8
      · have h2' : (xs.length : Int) ≤ 8 := by omega
        simp only [h1', h2', decide_true, Bool.not_true, Bool.false_eq_true, if_false, if_true]
        rw [wSs_cons]
        generalize hD : ({ nx := _, rt := _, bk := _, ct := _, ex := _ } : Dee.Ends) = D1
        simp only [wS, wEs, wE, lk, ob, itop, on1, still_tup]
        refine forL_ret (Z := Q (.bl false) M) isSign (fun σ M' => M' = M ∧ ∃ o, σ = [some (.tup xs), o, none, none]) (fun x hx' σ M' R hI hR hZ => ?_) ⟨rfl, _, rfl⟩ (fun hs σ M' hI => ?_) fun hs => ?_
        · obtain ⟨rfl, o, rfl⟩ := hI
          simp only [wTg, List.set]
          refine ht (hx x hx') hL (fun e => hR e _ _ ⟨rfl, _, rfl⟩) fun e => ?_
          rw [← hD]
          exact hZ e
        · obtain ⟨rfl, o, rfl⟩ := hI
          rw [← hD]
          show wSs _ _ _ _ _
          rw [wSs_cons]
          generalize hD2 : ({ nx := _, rt := _, bk := _, ct := _, ex := _ } : Dee.Ends) = D2
          simp only [wS, wE, wEs, wO, wAnd, wOr, wCs, wSs_nil, lk, ob, onI, on1, on2, asB, isiop, tyOf, cmpop, iceL, D.dep, depL, plt, binop, catop, biop, inop, seqM, dctM, isTup, wTg, wTgs, onT, List.set, newL, newT, plnM, Bool.false_and, newD, wipeD, tgSlots, tgsSlots, List.append_nil, List.nil_append, List.cons_append, if_true, if_false, Bool.false_eq_true, reduceIte, Bool.not_true, Bool.not_false, itop, still_tup]
          refine lcL_map fst0 (fun x hx' R hR => ?_) ?_
          · obtain ⟨s, j, rfl, _⟩ := isSign_ok (List.all_eq_true.mp hs x hx')
            exact Eq.mpr (sub_tup (by decide) rfl) hR
          · simp only [List.nil_append, ← hD2]
            show wSs _ _ _ _ _
            rw [wSs_cons, names_of hs]
            simp only [wS, wE, wEs, wO, wAnd, wOr, wCs, wSs_nil, lk, ob, onI, on1, on2, asB, isiop, tyOf, cmpop, iceL, D.dep, depL, plt, binop, catop, biop, inop, seqM, dctM, isTup, wTg, wTgs, onT, List.set, newL, newT, plnM, Bool.false_and, newD, wipeD, tgSlots, tgsSlots, List.append_nil, List.nil_append, List.cons_append, if_true, if_false, Bool.false_eq_true, reduceIte, Bool.not_true, Bool.not_false, itop, List.length_map]
            refine ⟨⟨by omega, by unfold line; omega⟩, ?_⟩
            refine lcL_fm (fun x => match x with | .int j => if ((xs.map nmS).take j.toNat).any (· == (xs.map nmS).getD j.toNat "") then some (.int j) else none | _ => none) (fun x hx' R hR => ?_) ?_
            · obtain ⟨j, hj, rfl⟩ := List.mem_map.mp hx'
              have hj : j < xs.length := by simpa using hj
              have hg : ((xs.map nmS).map D.str)[(j : Int).toNat]? = some (.str ((xs.map nmS).getD j "")) := by
                rw [List.getElem?_map, List.getD_eq_getElem?_getD, show ((j : Int).toNat) = j by omega, List.getElem?_eq_getElem (by simpa using hj)]
                rfl
              simp only [wS, wE, wEs, wO, wAnd, wOr, wCs, wSs_nil, lk, ob, onI, on1, on2, asB, isiop, tyOf, cmpop, iceL, D.dep, depL, plt, binop, catop, biop, inop, seqM, dctM, isTup, wTg, wTgs, onT, List.set, newL, newT, plnM, Bool.false_and, newD, wipeD, tgSlots, tgsSlots, List.append_nil, List.nil_append, List.cons_append, if_true, if_false, Bool.false_eq_true, reduceIte, Bool.not_true, Bool.not_false, sub_lst (Int.natCast_nonneg j) hg, slcop, cut_take (show j ≤ ((xs.map nmS).map D.str).length by simpa using Nat.le_of_lt hj)]
              rw [← List.map_take, dep_strs, any_strs]
              refine ⟨⟨by decide, by decide⟩, ?_⟩
              have hR : R (if ((xs.map nmS).take j).any (· == (xs.map nmS).getD j "") then some (.int j) else none) _ := hR
              cases e : ((xs.map nmS).take j).any (· == (xs.map nmS).getD j "") with
              | true => rw [e] at hR; simpa using hR
              | false => rw [e] at hR; simpa using hR
            · have hu : ((rngF xs.length).filterMap fun x => match x with | .int j => if ((xs.map nmS).take j.toNat).any (· == (xs.map nmS).getD j.toNat "") then some (D.int j) else none | _ => none).isEmpty = uniq (xs.map nmS) := by
                unfold rngF uniq
                rw [List.filterMap_map, List.length_map, Int.toNat_natCast]
                generalize List.range xs.length = rs
                induction rs with
                | nil => rfl
                | cons r rs ih =>
                  cases e : ((xs.map nmS).take r).any (· == (xs.map nmS).getD r "") with
                  | true =>
                    rw [List.filterMap_cons_some (b := D.int r) (by simp only [Function.comp_apply, Int.toNat_natCast, e]; rfl)]
                    simp only [List.isEmpty_cons, List.all_cons, e, Bool.not_true, Bool.false_and]
                  | false =>
                    rw [List.filterMap_cons_none (by simp only [Function.comp_apply, Int.toNat_natCast, e]; rfl), ih]
                    simp only [List.all_cons, e, Bool.not_false, Bool.true_and]
              have hi : ∀ x ∈ (rngF xs.length).filterMap fun x => match x with | .int j => if ((xs.map nmS).take j.toNat).any (· == (xs.map nmS).getD j.toNat "") then some (D.int j) else none | _ => none, ∃ i, x = .int i := fun x hx => by
                obtain ⟨y, _, hy⟩ := List.mem_filterMap.mp hx
                split at hy
                · split at hy
                  · cases hy; exact ⟨_, rfl⟩
                  · cases hy
                · cases hy
              simp only [wS, wE, wEs, wO, wAnd, wOr, wCs, wSs_nil, lk, ob, onI, on1, on2, asB, isiop, tyOf, cmpop, iceL, D.dep, depL, plt, binop, catop, biop, inop, seqM, dctM, isTup, wTg, wTgs, onT, List.set, newL, newT, plnM, Bool.false_and, newD, wipeD, tgSlots, tgsSlots, List.append_nil, List.nil_append, List.cons_append, if_true, if_false, Bool.false_eq_true, reduceIte, Bool.not_true, Bool.not_false, dep_ints _ hi, peq, peqL_nil, hu]
              refine ⟨by decide, ?_⟩
              have e1 := uniq_dist (xs.map nmS)
              rw [List.length_map] at e1
              rw [e1] at hQ
              cases h3 : uniq (xs.map nmS) with
              | false =>
                rw [h3] at hQ
                simpa [h1, h2, hs] using hQ
              | true =>
                rw [h3] at hQ
                simp only [if_true, itop, on1, still_tup, ob]
                refine lcL_fm (fun x => if peq (snd0 x) (.int 0) then some (.int 1) else none) (fun x hx' R hR => ?_) ?_
                · obtain ⟨s, j, rfl, _⟩ := isSign_ok (List.all_eq_true.mp hs x hx')
                  simp only [sub_tup (xs := [.str s, .int j]) (i := 1) (v := .int j) (by decide) rfl, iceL, D.dep]
                  refine ⟨by decide, ?_⟩
                  have hR : R (if peq (.int j) (.int 0) then some (.int 1) else none) _ := hR
                  cases e : peq (.int j) (.int 0) with
                  | true => rw [e] at hR; simpa using hR
                  | false => rw [e] at hR; simpa using hR
                · have hi : ∀ x ∈ xs.filterMap (fun x => if peq (snd0 x) (.int 0) then some (D.int 1) else none), ∃ i, x = .int i := fun x hx => by
                    obtain ⟨y, _, hy⟩ := List.mem_filterMap.mp hx
                    split at hy
                    · cases hy; exact ⟨_, rfl⟩
                    · cases hy
                  have hz : (!(xs.filterMap (fun x => if peq (snd0 x) (.int 0) then some (D.int 1) else none)).isEmpty) = xs.any fun x => peq (snd0 x) (.int 0) := by
                    generalize xs = ys
                    induction ys with
                    | nil => rfl
                    | cons y ys ih =>
                      cases e : peq (snd0 y) (.int 0) with
                      | true => rw [List.filterMap_cons_some (b := D.int 1) (by simp [e])]; simp [e]
                      | false => rw [List.filterMap_cons_none (by simp [e])]; simpa [e] using ih
                  simp only [wS, wE, wEs, wO, wAnd, wOr, wCs, wSs_nil, lk, ob, onI, on1, on2, asB, isiop, tyOf, cmpop, iceL, D.dep, depL, plt, binop, catop, biop, inop, seqM, dctM, isTup, wTg, wTgs, onT, List.set, newL, newT, plnM, Bool.false_and, newD, wipeD, tgSlots, tgsSlots, List.append_nil, List.nil_append, List.cons_append, if_true, if_false, Bool.false_eq_true, reduceIte, Bool.not_true, Bool.not_false, dep_ints _ hi, peqL_nil, hz]
                  refine ⟨by decide, ?_⟩
                  simpa [h1, h2, hs] using hQ
        · have e : (Q (.bl false) M : Prop) := by simpa [h1, h2, hs] using hQ
          exact e
      · have h2' : ¬ (xs.length : Int) ≤ 8 := by omega
        simp only [h1', h2', decide_true, decide_false, Bool.not_false, if_true]
        rw [wSs_cons]
        simp only [wS, wE, wEs, wO, wAnd, wOr, wCs, wSs_nil, lk, ob, onI, on1, on2, asB, isiop, tyOf, cmpop, iceL, D.dep, depL, plt, binop, catop, biop, inop, seqM, dctM, isTup, wTg, wTgs, onT, List.set, newL, newT, plnM, Bool.false_and, newD, wipeD, tgSlots, tgsSlots, List.append_nil, List.nil_append, List.cons_append, if_true, if_false, Bool.false_eq_true, reduceIte, Bool.not_true, Bool.not_false]
        simpa [h1, h2] using hQ
    · have h1' : ¬ (1 : Int) ≤ xs.length := by omega
      simp only [h1', decide_false, Bool.false_eq_true, if_false, Bool.not_false, if_true]
      rw [wSs_cons]
      simp only [wS, wE, wEs, wO, wAnd, wOr, wCs, wSs_nil, lk, ob, onI, on1, on2, asB, isiop, tyOf, cmpop, iceL, D.dep, depL, plt, binop, catop, biop, inop, seqM, dctM, isTup, wTg, wTgs, onT, List.set, newL, newT, plnM, Bool.false_and, newD, wipeD, tgSlots, tgsSlots, List.append_nil, List.nil_append, List.cons_append, if_true, if_false, Bool.false_eq_true, reduceIte, Bool.not_true, Bool.not_false]
      simpa [h1] using hQ
  | dct t kvs =>
    cases t with
    | true => unfold pv at hd; exact hd.elim
    | false =>
      simp (decide := true) only [wS, wE, wEs, wO, wAnd, wOr, wCs, wSs_nil, lk, ob, onI, on1, on2, asB, isiop, tyOf, cmpop, iceL, D.dep, depL, plt, binop, catop, biop, inop, seqM, dctM, isTup, wTg, wTgs, onT, List.set, newL, newT, plnM, Bool.false_and, newD, wipeD, tgSlots, tgsSlots, List.append_nil, List.nil_append, List.cons_append, if_true, if_false, Bool.false_eq_true, reduceIte, Bool.not_true, Bool.not_false]
      rw [wSs_cons]
      simpa only [wS, wE, wEs, wO, wAnd, wOr, wCs, wSs_nil, lk, ob, onI, on1, on2, asB, isiop, tyOf, cmpop, iceL, D.dep, depL, plt, binop, catop, biop, inop, seqM, dctM, isTup, wTg, wTgs, onT, List.set, newL, newT, plnM, Bool.false_and, newD, wipeD, tgSlots, tgsSlots, List.append_nil, List.nil_append, List.cons_append, if_true, if_false, Bool.false_eq_true, reduceIte, Bool.not_true, Bool.not_false, isSigns] using hQ
  | ref _ => unfold pv at hd; exact hd.elim
  | obj _ _ => unfold pv at hd; exact hd.elim
  | clo _ _ => unfold pv at hd; exact hd.elim
  | _ =>
    simp (decide := true) only [wS, wE, wEs, wO, wAnd, wOr, wCs, wSs_nil, lk, ob, onI, on1, on2, asB, isiop, tyOf, cmpop, iceL, D.dep, depL, plt, binop, catop, biop, inop, seqM, dctM, isTup, wTg, wTgs, onT, List.set, newL, newT, plnM, Bool.false_and, newD, wipeD, tgSlots, tgsSlots, List.append_nil, List.nil_append, List.cons_append, if_true, if_false, Bool.false_eq_true, reduceIte, Bool.not_true, Bool.not_false]
    rw [wSs_cons]
    simpa only [wS, wE, wEs, wO, wAnd, wOr, wCs, wSs_nil, lk, ob, onI, on1, on2, asB, isiop, tyOf, cmpop, iceL, D.dep, depL, plt, binop, catop, biop, inop, seqM, dctM, isTup, wTg, wTgs, onT, List.set, newL, newT, plnM, Bool.false_and, newD, wipeD, tgSlots, tgsSlots, List.append_nil, List.nil_append, List.cons_append, if_true, if_false, Bool.false_eq_true, reduceIte, Bool.not_true, Bool.not_false, isSigns] using hQ
/-! ### dicts -/
theorem look_put (kvs : List (Dee.D × Dee.D)) (k v k' : Dee.D) : look (put kvs k v) k' = if k' = k then some v else look kvs k' := by
  have app : ∀ (l : List (Dee.D × Dee.D)), look l k' = none ∨ k' ≠ k → look (l ++ [(k, v)]) k' = if k' = k then some v else look l k' := by
    intro l hl
    unfold look
    rw [List.find?_append]
    by_cases e : k' = k
    · subst e
      rcases hl with hl | hl
      · unfold look at hl
        rw [Option.map_eq_none_iff] at hl
        rw [hl]
        simp
      · exact absurd rfl hl
    · cases h : l.find? fun p => decide (p.1 = k') with
      | some p => simp [e]
      | none =>
        have : ¬ k = k' := fun z => e z.symm
        simp [e, this]
  have upd : ∀ (l : List (Dee.D × Dee.D)), look (l.map fun p => if p.1 = k then (p.1, v) else p) k' = if k' = k then (look l k').map fun _ => v else look l k' := by
    intro l
    induction l with
    | nil => unfold look; simp
    | cons p l ih =>
      unfold look at ih ⊢
      rw [List.map_cons, List.find?_cons, List.find?_cons]
      by_cases e : p.1 = k
      · simp only [e, if_true]
        by_cases e2 : k = k'
        · subst e2; simp
        · have e3 : ¬ k' = k := fun z => e2 z.symm
          simp only [e2, decide_false, e3, if_false] at ih ⊢
          exact ih
      · simp only [e, if_false]
        by_cases e2 : p.1 = k'
        · have e3 : ¬ k' = k := fun z => e (e2.trans z)
          simp [e2, e3]
        · simp only [e2, decide_false]
          exact ih
  unfold put
  by_cases h : (look kvs k).isSome = true
  · rw [if_pos h, upd]
    by_cases e : k' = k
    · subst e
      obtain ⟨w, hw⟩ := Option.isSome_iff_exists.mp h
      simp [hw]
    · simp [e]
  · rw [if_neg h]
    refine app kvs ?_
    by_cases e : k' = k
    · subst e
      left
      simpa using h
    · exact .inr e
theorem putAll_cons (kvs : List (Dee.D × Dee.D)) (p : Dee.D × Dee.D) (ps : List (Dee.D × Dee.D)) : putAll kvs (p :: ps) = putAll (put kvs p.1 p.2) ps := rfl
theorem look_putAll_none {k : Dee.D} : ∀ {ps kvs : List (Dee.D × Dee.D)}, (∀ p ∈ ps, p.1 ≠ k) → look (putAll kvs ps) k = look kvs k
  | [], _, _ => rfl
  | p :: ps, kvs, h => by
    rw [putAll_cons, look_putAll_none fun q hq => h q (by simp [hq]), look_put, if_neg (Ne.symm (h p (by simp)))]
theorem look_putAll_mem {k v : Dee.D} : ∀ {ps kvs : List (Dee.D × Dee.D)}, (ps.map (·.1)).Nodup → (k, v) ∈ ps → look (putAll kvs ps) k = some v
  | p :: ps, kvs, h, hm => by
    rw [List.map_cons, List.nodup_cons] at h
    rw [putAll_cons]
    rcases List.mem_cons.mp hm with e | hm
    · subst e
      rw [look_putAll_none fun q hq z => h.1 (List.mem_map.mpr ⟨q, hq, z⟩), look_put, if_pos rfl]
    · exact look_putAll_mem h.2 hm
theorem uniq_nodup (ts : List Str) : uniq ts = true → ts.Nodup := by
  have key : ∀ us : List Str, ∀ ts : List Str, us.reverse = ts → uniq ts = true → ts.Nodup := by
    intro us
    induction us with
    | nil => intro ts e _; subst e; exact List.nodup_nil
    | cons u us ih =>
      intro ts e h
      rw [List.reverse_cons] at e
      subst e
      rw [uniq_snoc, Bool.and_eq_true] at h
      rw [List.nodup_append]
      refine ⟨ih _ rfl h.1, by simp, fun a ha b hb => ?_⟩
      have hb : b = u := by simpa using hb
      subst hb
      rintro rfl
      have := h.2
      rw [Bool.not_eq_true', List.any_eq_false] at this
      exact this a ha (by simp)
  exact key ts.reverse ts (by simp)
theorem isSigns_ok {xs : List Dee.D} (h : isSigns (.tup xs) = true) : 1 ≤ xs.length ∧ xs.length ≤ 8 ∧ xs.all isSign = true ∧ (xs.map nmS).Nodup ∧ ∃ x ∈ xs, peq (snd0 x) (.int 0) = true := by
  unfold isSigns at h
  simp only [Bool.and_eq_true, decide_eq_true_eq] at h
  obtain ⟨⟨⟨⟨h1, h2⟩, h3⟩, h4⟩, h5⟩ := h
  refine ⟨h1, h2, h3, uniq_nodup _ ?_, List.any_eq_true.mp h5⟩
  rw [← uniq_dist]
  simpa using h4
theorem isSigns_tup {d : Dee.D} (h : isSigns d = true) : ∃ xs, d = .tup xs := by
  unfold isSigns at h
  split at h
  · exact ⟨_, rfl⟩
  · cases h
def pairsOf (xs : List Dee.D) : List (Dee.D × Dee.D) := xs.map fun x => (fst0 x, snd0 x)
theorem dPairs_signs : ∀ {xs : List Dee.D}, xs.all isSign = true → dPairs (xs.map fun x => .tup [fst0 x, snd0 x]) = some (pairsOf xs)
  | [], _ => rfl
  | x :: xs, h => by
    rw [List.all_cons, Bool.and_eq_true] at h
    show (dPairs (xs.map fun x => .tup [fst0 x, snd0 x])).map ((fst0 x, snd0 x) :: ·) = _
    rw [dPairs_signs h.2]
    rfl
def aritiesFn (n : Nat) : Fn := ⟨1, 3, [.ifs (.not (.call n [.var 0])) [.raise "NoSigns" []] [], .ret (.bi .dict false [.comp false (.tup [.var 1, .var 2]) (.tu [.nm 1, .nm 2]) .seq [.var 0] []])]⟩
/-- is_signs, as it is called -/
def SignsAt (P : Prog) (i k : Nat) : Prop := ∀ {L N : Nat} {d : Dee.D} {M : Mem} {Q : Dee.K} {E : Dee.KX}, pv L N d → L ≤ line → Q (.bl (isSigns d)) M → wCall P k i [d] M Q E
theorem arities {P : Prog} {i k n : Nat} (hi : P.fns[i]? = some (aritiesFn n)) (hn : SignsAt P n k) (hx : P.xf "NoSigns" = some []) {L N : Nat} {d : Dee.D} {M : Mem} {Q : Dee.K} {E : Dee.KX} (hd : pv L N d) (hL : L ≤ line)
    (h1 : ∀ xs, d = .tup xs → isSigns d = true → Q (.dct false (putAll [] (pairsOf xs))) M) (h0 : isSigns d = false → E ⟨"NoSigns", []⟩ M) : wCall P (k + 1) i [d] M Q E := by
  rw [wCall_succ, hi]
  refine ⟨rfl, ?_⟩
  unfold aritiesFn
  have hc : (semAt P k).call = wCall P k := rfl
  have hx' : (semAt P k).xf "NoSigns" = some [] := hx
  generalize semAt P k = F at hc hx'
  simp only [List.map, List.replicate, List.cons_append, List.nil_append, Nat.reduceSub]
  rw [wSs_cons]
  generalize hD : ({ nx := _, rt := _, bk := _, ct := _, ex := _ } : Dee.Ends) = D1
  simp only [wS, wE, wEs, lk, ob, hc]
  refine hn hd hL ?_
  cases e : isSigns d with
  | false =>
    simp only [wS, wE, wEs, wO, wAnd, wOr, wCs, wSs_nil, lk, ob, onI, on1, on2, asB, isiop, tyOf, cmpop, iceL, D.dep, depL, plt, binop, catop, biop, inop, seqM, dctM, isTup, wTg, wTgs, onT, List.set, newL, newT, plnM, Bool.false_and, newD, wipeD, tgSlots, tgsSlots, List.append_nil, List.nil_append, List.cons_append, if_true, if_false, Bool.false_eq_true, reduceIte, Bool.not_true, Bool.not_false]
    rw [wSs_cons]
    simp only [wS, wEs, hx', ob]
    rw [← hD]
    exact ⟨rfl, h0 e⟩
  | true =>
    obtain ⟨xs, rfl⟩ := isSigns_tup e
    obtain ⟨_, _, hs, _, _⟩ := isSigns_ok e
    simp only [wS, wE, wEs, wO, wAnd, wOr, wCs, wSs_nil, lk, ob, onI, on1, on2, asB, isiop, tyOf, cmpop, iceL, D.dep, depL, plt, binop, catop, biop, inop, seqM, dctM, isTup, wTg, wTgs, onT, List.set, newL, newT, plnM, Bool.false_and, newD, wipeD, tgSlots, tgsSlots, List.append_nil, List.nil_append, List.cons_append, if_true, if_false, Bool.false_eq_true, reduceIte, Bool.not_true, Bool.not_false]
    rw [← hD]
    show wSs _ _ _ _ _
    rw [wSs_cons]
    simp only [wS, wE, wEs, wO, wAnd, wOr, wCs, wSs_nil, lk, ob, onI, on1, on2, asB, isiop, tyOf, cmpop, iceL, D.dep, depL, plt, binop, catop, biop, inop, seqM, dctM, isTup, wTg, wTgs, onT, List.set, newL, newT, plnM, Bool.false_and, newD, wipeD, tgSlots, tgsSlots, List.append_nil, List.nil_append, List.cons_append, if_true, if_false, Bool.false_eq_true, reduceIte, Bool.not_true, Bool.not_false, itop, still_tup]
    refine lcL_map (fun x => .tup [fst0 x, snd0 x]) (fun x hx' R hR => ?_) ?_
    · obtain ⟨s, j, rfl, _⟩ := isSign_ok (List.all_eq_true.mp hs x hx')
      simp only [wS, wE, wEs, wO, wAnd, wOr, wCs, wSs_nil, lk, ob, onI, on1, on2, asB, isiop, tyOf, cmpop, iceL, D.dep, depL, plt, binop, catop, biop, inop, seqM, dctM, isTup, wTg, wTgs, onT, List.set, newL, newT, plnM, Bool.false_and, newD, wipeD, tgSlots, tgsSlots, List.append_nil, List.nil_append, List.cons_append, if_true, if_false, Bool.false_eq_true, reduceIte, Bool.not_true, Bool.not_false]
      exact hR
    · simp only [wS, wE, wEs, wO, wAnd, wOr, wCs, wSs_nil, lk, ob, onI, on1, on2, asB, isiop, tyOf, cmpop, iceL, D.dep, depL, plt, binop, catop, biop, inop, seqM, dctM, isTup, wTg, wTgs, onT, List.set, newL, newT, plnM, Bool.false_and, newD, wipeD, tgSlots, tgsSlots, List.append_nil, List.nil_append, List.cons_append, if_true, if_false, Bool.false_eq_true, reduceIte, Bool.not_true, Bool.not_false, dPairs_signs hs]
      refine ⟨fun p hp => ?_, h1 xs rfl e⟩
      obtain ⟨x, hx, rfl⟩ := List.mem_map.mp hp
      obtain ⟨s, j, rfl, _⟩ := isSign_ok (List.all_eq_true.mp hs x hx)
      rfl
theorem look_sign {xs : List Dee.D} (h : isSigns (.tup xs) = true) {s : Str} {v : Dee.D} (hm : .tup [.str s, v] ∈ xs) : look (putAll [] (pairsOf xs)) (.str s) = some v := by
  obtain ⟨_, _, hs, hn, _⟩ := isSigns_ok h
  refine look_putAll_mem ?_ ?_
  · unfold pairsOf
    rw [List.map_map]
    have e : (xs.map ((fun x : Dee.D × Dee.D => x.1) ∘ fun x => (fst0 x, snd0 x))) = (xs.map nmS).map D.str := names_of hs
    rw [e]
    exact List.pairwise_map.mpr (List.Pairwise.imp (fun h e => h (by cases e; rfl)) hn)
  · exact List.mem_map_of_mem (f := fun x => (fst0 x, snd0 x)) hm
theorem look_nosign {xs : List Dee.D} {k : Dee.D} (hm : ∀ x ∈ xs, fst0 x ≠ k) : look (putAll [] (pairsOf xs)) k = none := by
  rw [look_putAll_none]
  · rfl
  · intro p hp
    obtain ⟨x, hx, rfl⟩ := List.mem_map.mp hp
    exact hm x hx
def arityFn (n : Nat) : Fn := ⟨2, 3, [.asg (.nm 2) (.call n [.var 0]), .ifs (.or [.not (.isi (.var 1) [.str]), .cmp .notin (.var 1) (.var 2)]) [.raise "NotThere" []] [], .ret (.sub (.var 2) (.var 1))]⟩
/-- arities_of, as it is called -/
def AritiesAt (P : Prog) (i k : Nat) : Prop := ∀ {L N : Nat} {d : Dee.D} {M : Mem} {Q : Dee.K} {E : Dee.KX}, pv L N d → L ≤ line → (∀ xs, d = .tup xs → isSigns d = true → Q (.dct false (putAll [] (pairsOf xs))) M) → (isSigns d = false → E ⟨"NoSigns", []⟩ M) → wCall P k i [d] M Q E
theorem arity {P : Prog} {i k n : Nat} (hi : P.fns[i]? = some (arityFn n)) (hn : AritiesAt P n k) (hx : P.xf "NotThere" = some []) {L N : Nat} {d a : Dee.D} {M : Mem} {Q : Dee.K} {E : Dee.KX} (hd : pv L N d) (hL : L ≤ line) (ha : tyd a = true)
    (h1 : ∀ xs s v, d = .tup xs → isSigns d = true → a = .str s → .tup [.str s, v] ∈ xs → Q v M) (h2 : ∀ xs, d = .tup xs → isSigns d = true → (∀ x ∈ xs, fst0 x ≠ a) → E ⟨"NotThere", []⟩ M) (h0 : isSigns d = false → E ⟨"NoSigns", []⟩ M) : wCall P (k + 1) i [d, a] M Q E := by
  rw [wCall_succ, hi]
  refine ⟨rfl, ?_⟩
  unfold arityFn
  have hc : (semAt P k).call = wCall P k := rfl
  have hx' : (semAt P k).xf "NotThere" = some [] := hx
  generalize semAt P k = F at hc hx'
  simp only [List.map, List.replicate, List.cons_append, List.nil_append, Nat.reduceSub]
  rw [wSs_cons]
  generalize hD : ({ nx := _, rt := _, bk := _, ct := _, ex := _ } : Dee.Ends) = D1
  simp only [wS, wE, wEs, lk, ob, hc]
  refine hn hd hL (fun xs e hs => ?_) fun e => ?_
  · subst e
    simp only [wTg, List.set]
    rw [← hD]
    show wSs _ _ _ _ _
    rw [wSs_cons]
    have no : (∀ x ∈ xs, fst0 x ≠ a) → ∀ D2 : Dee.Ends, D2.ex = (fun e _ M => E e M) → wSs F [.raise "NotThere" []] [some (.tup xs), some a, some (.dct false (putAll [] (pairsOf xs)))] M D2 := fun z D2 hD2 => by
      rw [wSs_cons]
      simp only [wS, wEs, hx', ob, hD2]
      exact ⟨rfl, h2 xs rfl hs z⟩
    have nostr : isStr a = false → ∀ x ∈ xs, fst0 x ≠ a := fun z x hx e => by
      obtain ⟨s, j, rfl, _⟩ := isSign_ok (List.all_eq_true.mp (isSigns_ok hs).2.2.1 x hx)
      subst e
      cases z
    cases a with
    | str s =>
      simp (decide := true) only [wS, wE, wEs, wO, wAnd, wOr, wCs, wSs_nil, lk, ob, onI, on1, on2, asB, isiop, tyOf, cmpop, iceL, D.dep, depL, plt, binop, catop, biop, inop, seqM, dctM, isTup, wTg, wTgs, onT, List.set, newL, newT, plnM, Bool.false_and, newD, wipeD, tgSlots, tgsSlots, List.append_nil, List.nil_append, List.cons_append, if_true, if_false, Bool.false_eq_true, reduceIte, Bool.not_true, Bool.not_false, isKey, true_and]
      by_cases h : ∃ x ∈ xs, fst0 x = .str s
      · obtain ⟨x, hx, ex⟩ := h
        obtain ⟨s', j, rfl, _⟩ := isSign_ok (List.all_eq_true.mp (isSigns_ok hs).2.2.1 x hx)
        cases (show s' = s by injection ex)
        rw [look_sign hs hx]
        simp only [Option.isSome_some, Bool.not_true, Bool.false_eq_true, if_false]
        rw [wSs_cons]
        simp only [wS, wE, wEs, wO, wAnd, wOr, wCs, wSs_nil, lk, ob, onI, on1, on2, asB, isiop, tyOf, cmpop, iceL, D.dep, depL, plt, binop, catop, biop, inop, seqM, dctM, isTup, wTg, wTgs, onT, List.set, newL, newT, plnM, Bool.false_and, newD, wipeD, tgSlots, tgsSlots, List.append_nil, List.nil_append, List.cons_append, if_true, if_false, Bool.false_eq_true, reduceIte, Bool.not_true, Bool.not_false, subop, isKey, look_sign hs hx]
        exact ⟨trivial, h1 xs s _ rfl hs rfl hx⟩
      · have h' : ∀ x ∈ xs, fst0 x ≠ .str s := fun x hx e => h ⟨x, hx, e⟩
        rw [look_nosign h']
        simp only [Option.isSome_none, Bool.not_false, if_true]
        exact no h' _ rfl
    | dct t kvs =>
      cases t with
      | true => cases ha
      | false =>
        simp (decide := true) only [wS, wE, wEs, wO, wAnd, wOr, wCs, wSs_nil, lk, ob, onI, on1, on2, asB, isiop, tyOf, cmpop, iceL, D.dep, depL, plt, binop, catop, biop, inop, seqM, dctM, isTup, wTg, wTgs, onT, List.set, newL, newT, plnM, Bool.false_and, newD, wipeD, tgSlots, tgsSlots, List.append_nil, List.nil_append, List.cons_append, if_true, if_false, Bool.false_eq_true, reduceIte, Bool.not_true, Bool.not_false]
        exact no (nostr rfl) _ rfl
    | ref _ => cases ha
    | obj _ _ => cases ha
    | clo _ _ => cases ha
    | _ =>
      simp (decide := true) only [wS, wE, wEs, wO, wAnd, wOr, wCs, wSs_nil, lk, ob, onI, on1, on2, asB, isiop, tyOf, cmpop, iceL, D.dep, depL, plt, binop, catop, biop, inop, seqM, dctM, isTup, wTg, wTgs, onT, List.set, newL, newT, plnM, Bool.false_and, newD, wipeD, tgSlots, tgsSlots, List.append_nil, List.nil_append, List.cons_append, if_true, if_false, Bool.false_eq_true, reduceIte, Bool.not_true, Bool.not_false]
      exact no (nostr rfl) _ rfl
  · rw [← hD]
    exact h0 e
def withFn (n : Nat) : Fn := ⟨2, 4, [.expr (.call n [.var 0]), .ret (.bi .tuple false [.comp false (.var 2) (.tu [.nm 2, .nm 3]) .seq [.var 0] [.cmp .eq (.var 3) (.var 1)]])]⟩
def namesWith (xs : List Dee.D) (a : Dee.D) : List Dee.D := xs.filterMap fun x => if peq (snd0 x) a then some (fst0 x) else none
theorem names_with {P : Prog} {i k n : Nat} (hi : P.fns[i]? = some (withFn n)) (hn : AritiesAt P n k) {L N : Nat} {d : Dee.D} {a : Int} {M : Mem} {Q : Dee.K} {E : Dee.KX} (hd : pv L N d) (hL : L ≤ line)
    (h1 : ∀ xs, d = .tup xs → isSigns d = true → Q (.tup (namesWith xs (.int a))) M) (h0 : isSigns d = false → E ⟨"NoSigns", []⟩ M) : wCall P (k + 1) i [d, .int a] M Q E := by
  rw [wCall_succ, hi]
  refine ⟨rfl, ?_⟩
  unfold withFn
  have hc : (semAt P k).call = wCall P k := rfl
  generalize semAt P k = F at hc
  simp only [List.map, List.replicate, List.cons_append, List.nil_append, Nat.reduceSub]
  rw [wSs_cons]
  generalize hD : ({ nx := _, rt := _, bk := _, ct := _, ex := _ } : Dee.Ends) = D1
  simp only [wS, wE, wEs, lk, ob, hc]
  refine hn hd hL (fun xs e hs => ?_) fun e => ?_
  · subst e
    rw [← hD]
    show wSs _ _ _ _ _
    rw [wSs_cons]
    simp only [wS, wE, wEs, wO, wAnd, wOr, wCs, wSs_nil, lk, ob, onI, on1, on2, asB, isiop, tyOf, cmpop, iceL, D.dep, depL, plt, binop, catop, biop, inop, seqM, dctM, isTup, wTg, wTgs, onT, List.set, newL, newT, plnM, Bool.false_and, newD, wipeD, tgSlots, tgsSlots, List.append_nil, List.nil_append, List.cons_append, if_true, if_false, Bool.false_eq_true, reduceIte, Bool.not_true, Bool.not_false, itop, still_tup]
    refine lcL_fm (fun x => if peq (snd0 x) (.int a) then some (fst0 x) else none) (fun x hx R hR => ?_) ?_
    · obtain ⟨s, j, rfl, _⟩ := isSign_ok (List.all_eq_true.mp (isSigns_ok hs).2.2.1 x hx)
      simp only [wS, wE, wEs, wO, wAnd, wOr, wCs, wSs_nil, lk, ob, onI, on1, on2, asB, isiop, tyOf, cmpop, iceL, D.dep, depL, plt, binop, catop, biop, inop, seqM, dctM, isTup, wTg, wTgs, onT, List.set, newL, newT, plnM, Bool.false_and, newD, wipeD, tgSlots, tgsSlots, List.append_nil, List.nil_append, List.cons_append, if_true, if_false, Bool.false_eq_true, reduceIte, Bool.not_true, Bool.not_false]
      refine ⟨by decide, ?_⟩
      have hR : R (if peq (.int j) (.int a) then some (.str s) else none) M := hR
      cases e : peq (.int j) (.int a) with
      | true => rw [e] at hR; simpa using hR
      | false => rw [e] at hR; simpa using hR
    · simp only [wS, wE, wEs, wO, wAnd, wOr, wCs, wSs_nil, lk, ob, onI, on1, on2, asB, isiop, tyOf, cmpop, iceL, D.dep, depL, plt, binop, catop, biop, inop, seqM, dctM, isTup, wTg, wTgs, onT, List.set, newL, newT, plnM, Bool.false_and, newD, wipeD, tgSlots, tgsSlots, List.append_nil, List.nil_append, List.cons_append, if_true, if_false, Bool.false_eq_true, reduceIte, Bool.not_true, Bool.not_false]
      exact h1 xs rfl hs
  · rw [← hD]
    exact h0 e
/-! ### the pot, names and signs drawn -/
def potFn : Fn := ⟨1, 2, [.ret (.lst true [.comp false (.bi .abs false [.var 1]) (.nm 1) .seq [.slc (.var 0) none (some (.int 63))] [], .int 0, .int 20011, .int 0])]⟩
theorem potS {P : Prog} {i k : Nat} (hi : P.fns[i]? = some potFn) {ns : List Int} {M : Mem} {Q : Dee.K} {E : Dee.KX} (h : ∀ a M', Pot M' a → Q (.ref a) M') : wCall P (k + 1) i [.lst (ns.map Dee.D.int)] M Q E := by
  rw [wCall_succ, hi]
  refine ⟨rfl, ?_⟩
  unfold potFn
  generalize semAt P k = F
  simp only [List.map, List.replicate, List.cons_append, List.nil_append, Nat.reduceSub]
  rw [wSs_cons]
  have hc : cutL (ns.map Dee.D.int) none (some 63) = (cutL ns none (some 63)).map Dee.D.int := by
    unfold cutL
    simp only [List.length_map, List.map_take, List.map_drop]
  simp only [wS, wE, wEs, wO, lk, ob, onI, slcop, seqM, itop, on1, still, hc]
  refine lcL_map (fun d => match d with | .int i => .int (if i < 0 then -i else i) | d => d) (fun x hx R hR => ?_) ?_
  · obtain ⟨i, _, rfl⟩ := List.mem_map.mp hx
    simp only [wTg, wipeD, tgSlots, List.set, wCs, wE, wEs, lk, ob, on1, onI, biop]
    exact hR
  · simp only [newL, List.nil_append, if_neg Bool.false_ne_true]
    intro a _
    refine h a _ ⟨(cutL ns none (some 63)).map fun i => if i < 0 then -i else i, 0, 20011, 0, ?_, fun x hx => ?_, by decide, by decide, by decide, by decide⟩
    · rw [up_at]
      simp [List.map_map, Function.comp_def]
    · obtain ⟨i, _, rfl⟩ := List.mem_map.mp hx
      split <;> omega
theorem sub_str {s : Str} {i : Int} {c : Nat} {M : Mem} {Q : Dee.D → Prop} (hl : s.length ≤ line) (hi : 0 ≤ i) (hx : s.cps.toList[i.toNat]? = some c) (h : Q (strOf c)) : subop (.str s) (.int i) M Q := by
  have hlt : i.toNat < s.cps.toList.length := (List.getElem?_eq_some_iff.mp hx).1
  unfold subop dctM
  simp only [onI, ob, ix_nat hi (show i < (s.cps.toList.length : Int) by omega), hx]
  exact ⟨hl, h⟩
theorem pick_str {P : Prog} {d i k : Nat} (hd : P.fns[d]? = some drawFn) (hi : P.fns[i]? = some (pickFn d)) {M : Mem} {p : Nat} {s : Str} {Q : Dee.K} {E : Dee.KX} (hp : Pot M p) (h1 : 1 ≤ s.length) (h2 : s.length < 1000) (hQ : ∀ c M', c ∈ s.cps.toList → Pot M' p → Fr p M M' → Q (strOf c) M') :
    wCall P (k + 2) i [.ref p, .str s] M Q E := by
  rw [wCall_succ, hi]
  refine ⟨rfl, ?_⟩
  unfold pickFn
  simp only [List.map, List.replicate, List.cons_append, List.nil_append, Nat.reduceSub]
  rw [wSs_cons]
  simp only [wS, wE, wEs, lk, ob, on1, biop]
  refine ⟨by unfold line; omega, ?_⟩
  refine drawF hd hp (by omega) (by omega) fun r M' r0 r1 hp' hf => ?_
  have hr : r.toNat < s.cps.toList.length := by
    have : s.cps.toList.length = s.length := Array.length_toList
    omega
  exact sub_str (by unfold line; omega) r0 (List.getElem?_eq_getElem hr) (hQ _ _ (List.getElem_mem hr) hp' hf)
theorem join_nil : ∀ ts : List Str, (Str.join "" ts).cps.toList = ts.flatMap fun t => t.cps.toList
  | [] => rfl
  | [t] => by simp [Str.join]
  | t :: u :: ts => by
    have ih := join_nil (u :: ts)
    show ((t ++ ("" : Str)) ++ Str.join "" (u :: ts)).cps.toList = _
    rw [List.flatMap_cons, ← ih]
    show (t.cps ++ ("" : Str).cps ++ (Str.join "" (u :: ts)).cps).toList = _
    simp [show ("" : Str).cps = #[] from by decide +kernel]
/-- a text of so many small letters at most -/
def lowS (n : Nat) (s : Str) : Prop := 1 ≤ s.length ∧ s.length ≤ n ∧ s.cps.toList.all low = true
theorem lowS_name {n : Nat} {s : Str} (h : lowS n s) (hn : n ≤ 8) : isName (.str s) = true := by
  unfold isName
  simp only [h.2.2, Bool.and_true, Bool.and_eq_true, decide_eq_true_eq]
  exact ⟨h.1, Nat.le_trans h.2.1 hn⟩
def lnmFn (d q : Nat) : Fn := ⟨1, 2, [.ret (.mth .join (.str "") [.comp false (.call q [.var 0, .str "abcdefghijklmnopqrstuvwxyz"]) (.nm 1) .rng [.bin .add (.int 1) (.call d [.var 0, .int 3])] []])]⟩
theorem lnm {P : Prog} {d q i k : Nat} (hd : P.fns[d]? = some drawFn) (hq : P.fns[q]? = some (pickFn d)) (hi : P.fns[i]? = some (lnmFn d q)) {M : Mem} {p : Nat} {Q : Dee.K} {E : Dee.KX} (hp : Pot M p) (hQ : ∀ s M', lowS 3 s → Pot M' p → Fr p M M' → Q (.str s) M') :
    wCall P (k + 3) i [.ref p] M Q E := by
  rw [wCall_succ, hi]
  refine ⟨rfl, ?_⟩
  unfold lnmFn
  have hc : (semAt P (k + 2)).call = wCall P (k + 2) := rfl
  generalize semAt P (k + 2) = F at hc
  simp only [List.map, List.replicate, List.cons_append, List.nil_append, Nat.reduceSub]
  rw [wSs_cons]
  simp only [wS, wE, wEs, wO, wAnd, wOr, wCs, wSs_nil, lk, ob, onI, on1, on2, asB, isiop, tyOf, cmpop, iceL, D.dep, depL, plt, binop, catop, biop, inop, seqM, dctM, isTup, wTg, wTgs, onT, List.set, newL, newT, plnM, Bool.false_and, newD, wipeD, tgSlots, tgsSlots, List.append_nil, List.nil_append, List.cons_append, if_true, if_false, Bool.false_eq_true, reduceIte, Bool.not_true, Bool.not_false, mtIs, isStr, hc, true_and]
  refine drawF (k := k + 1) hd hp (by decide) (by decide) fun r M1 r0 r1 hp1 f1 => ?_
  simp only [wS, wE, wEs, wO, wAnd, wOr, wCs, wSs_nil, lk, ob, onI, on1, on2, asB, isiop, tyOf, cmpop, iceL, D.dep, depL, plt, binop, catop, biop, inop, seqM, dctM, isTup, wTg, wTgs, onT, List.set, newL, newT, plnM, Bool.false_and, newD, wipeD, tgSlots, tgsSlots, List.append_nil, List.nil_append, List.cons_append, if_true, if_false, Bool.false_eq_true, reduceIte, Bool.not_true, Bool.not_false, itop]
  refine ⟨⟨by omega, by unfold line; omega⟩, ?_⟩
  refine lcL_idx (fun n acc M' => Pot M' p ∧ Fr p M M' ∧ ∃ cs : List Nat, acc = cs.map strOf ∧ cs.length = n ∧ cs.all low = true) (fun x hx n acc M' R hI hR => ?_) ⟨hp1, f1, [], rfl, rfl, rfl⟩ fun acc M' hI => ?_
  · obtain ⟨hp', f', cs, rfl, hl, ha⟩ := hI
    obtain ⟨j, _, rfl⟩ := List.mem_map.mp hx
    refine pick_str hd hq hp' (by decide) (by decide) fun c M2 hc2 hp2 f2 => ?_
    refine hR _ _ ⟨hp2, f'.trans f2, cs ++ [c], by simp, by simp [hl], ?_⟩
    rw [List.all_append, ha]
    simp only [List.all_cons, List.all_nil, Bool.and_true, Bool.true_and]
    exact decide_eq_true hc2
  · obtain ⟨hp', f', cs, rfl, hl, ha⟩ := hI
    have hl' : cs.length = (1 + r).toNat := by
      rw [hl]
      unfold rngF
      simp
    have hts : dTexts (cs.map strOf) = some (cs.map fun c => (⟨#[c]⟩ : Str)) := by
      have := dTexts_map (cs.map fun c => (⟨#[c]⟩ : Str))
      rw [List.map_map] at this
      exact this
    simp only [wS, wE, wEs, wO, wAnd, wOr, wCs, wSs_nil, lk, ob, onI, on1, on2, asB, isiop, tyOf, cmpop, iceL, D.dep, depL, plt, binop, catop, biop, inop, seqM, dctM, isTup, wTg, wTgs, onT, List.set, newL, newT, plnM, Bool.false_and, newD, wipeD, tgSlots, tgsSlots, List.append_nil, List.nil_append, List.cons_append, if_true, if_false, Bool.false_eq_true, reduceIte, Bool.not_true, Bool.not_false, mthop, onS, lsS, hts]
    have hlen : (cs.map fun c => (⟨#[c]⟩ : Str)).map (·.length) = cs.map fun _ => 1 := by
      rw [List.map_map]
      rfl
    have hsum : ∀ l : List Nat, (l.map fun _ => 1).sum = l.length := fun l => by
      induction l with
      | nil => rfl
      | cons a l ih => simp [ih]; omega
    refine ⟨?_, ?_⟩
    · rw [hlen, hsum, show ("" : Str).length = 0 from by decide +kernel]
      omega
    · have hj : (Str.join "" (cs.map fun c => (⟨#[c]⟩ : Str))).cps.toList = cs := by
        rw [join_nil, List.flatMap_map]
        induction cs with
        | nil => rfl
        | cons c cs ih => simp
      refine hQ _ _ ⟨?_, ?_, by rw [hj]; exact ha⟩ hp' f'
      · show 1 ≤ (Str.join "" (cs.map fun c => (⟨#[c]⟩ : Str))).cps.size
        rw [← Array.length_toList, hj]
        omega
      · show (Str.join "" (cs.map fun c => (⟨#[c]⟩ : Str))).cps.size ≤ 3
        rw [← Array.length_toList, hj]
        omega
end DL

set_option Elab.async false
set_option linter.all false
set_option autoImplicit false
set_option maxRecDepth 100000
set_option maxHeartbeats 1000000
/-! Dee: signs drawn. -/
namespace DL
open PySem Dee
theorem sq_l (M : Mem) (xs : List Dee.D) : seqM M (.lst xs) = some xs := rfl
theorem sq_t (M : Mem) (xs : List Dee.D) : seqM M (.tup xs) = some xs := rfl
theorem dc_l (M : Mem) (xs : List Dee.D) : dctM M (.lst xs) = none := rfl
theorem dc_t (M : Mem) (xs : List Dee.D) : dctM M (.tup xs) = none := rfl
theorem forL_at {turn : Dee.D → Dee.Env → Mem → (Dee.Env → Mem → Prop) → Prop} {Q : Dee.Env → Mem → Prop} (I : Nat → Dee.Env → Mem → Prop) {xs : List Dee.D} {σ : Dee.Env} {M : Mem} (ht : ∀ (i : Nat) (x : Dee.D), xs[i]? = some x → ∀ σ M, ∀ R : Dee.Env → Mem → Prop, I i σ M → (∀ σ' M', I (i + 1) σ' M' → R σ' M') → turn x σ M R) (h : I 0 σ M) (q : ∀ σ M, I xs.length σ M → Q σ M) : forL turn Q xs σ M := by
  have key : ∀ (ys : List Dee.D) (n : Nat), ys = xs.drop n → n ≤ xs.length → ∀ σ M, I n σ M → forL turn Q ys σ M := by
    intro ys
    induction ys with
    | nil =>
      intro n e hn σ M hI
      have : n = xs.length := by
        have := congrArg List.length e
        simp at this
        omega
      subst this
      exact q σ M hI
    | cons y ys ih =>
      intro n e hn σ M hI
      have hlt : n < xs.length := by
        have := congrArg List.length e
        simp at this
        omega
      rw [List.drop_eq_getElem_cons hlt] at e
      injection e with e1 e2
      unfold forL
      exact ht n y (by rw [List.getElem?_eq_getElem hlt, e1]) σ M _ hI fun σ' M' hI' => ih (n + 1) e2 hlt σ' M' hI'
  exact key xs 0 (by simp) (Nat.zero_le _) σ M h
theorem pigeon : ∀ (xs ys : List Str), xs.Nodup → (∀ x ∈ xs, x ∈ ys) → xs.length ≤ ys.length
  | [], _, _, _ => by simp
  | x :: xs, ys, hn, hs => by
    have hx := hs x (by simp)
    rw [List.nodup_cons] at hn
    have ih := pigeon xs (ys.erase x) hn.2 fun y hy => (List.mem_erase_of_ne (fun e => hn.1 (by rw [← e]; exact hy))).mpr (hs y (by simp [hy]))
    rw [List.length_erase_of_mem hx] at ih
    have : 0 < ys.length := List.length_pos_of_mem hx
    simp only [List.length_cons]
    omega
theorem nodup_uniq : ∀ {ts : List Str}, ts.Nodup → uniq ts = true := by
  have key : ∀ us : List Str, ∀ ts : List Str, us.reverse = ts → ts.Nodup → uniq ts = true := by
    intro us
    induction us with
    | nil => intro ts e _; subst e; rfl
    | cons u us ih =>
      intro ts e h
      rw [List.reverse_cons] at e
      subst e
      rw [List.nodup_append] at h
      rw [uniq_snoc, ih _ rfl h.1, Bool.true_and, Bool.not_eq_true', List.any_eq_false]
      intro a ha e
      have e : a = u := by simpa using e
      exact h.2.2 a ha u (by simp) e
  exact fun {ts} h => key ts.reverse ts (by simp) h
/-- signs as they are drawn -/
structure Sg (xs : List Dee.D) (most : Nat) : Prop where
  two : 2 ≤ xs.length
  top : xs.length ≤ most
  it : ∀ x ∈ xs, ∃ s j, x = .tup [.str s, .int j] ∧ lowS 4 s ∧ 0 ≤ j ∧ j ≤ 3
  nd : (xs.map nmS).Nodup
  zero : ∃ x ∈ xs, snd0 x = .int 0
theorem Sg.all {xs : List Dee.D} {most : Nat} (h : Sg xs most) : xs.all isSign = true := by
  rw [List.all_eq_true]
  intro x hx
  obtain ⟨s, j, rfl, hs, h1, h2⟩ := h.it x hx
  show (isName (.str s) && isNum (.int j) 0 3) = true
  rw [lowS_name hs (by decide)]
  simp [isNum, h1, h2]
theorem Sg.signs {xs : List Dee.D} {most : Nat} (h : Sg xs most) (hm : most ≤ 8) : isSigns (.tup xs) = true := by
  unfold isSigns
  have e := uniq_dist (xs.map nmS)
  rw [nodup_uniq h.nd, List.length_map] at e
  obtain ⟨x, hx, hz⟩ := h.zero
  have h1 := h.two
  have h2 := h.top
  simp only [h.all, e, Bool.and_true, Bool.and_eq_true, decide_eq_true_eq, List.any_eq_true]
  exact ⟨⟨by omega, by omega⟩, x, hx, by rw [hz]; rfl⟩
theorem Sg.pv {xs : List Dee.D} {most : Nat} (h : Sg xs most) (hm : most ≤ 8) : pv 10 2 (.tup xs) := by
  unfold DL.pv
  refine ⟨by have := h.top; omega, fun x hx => ?_⟩
  obtain ⟨s, j, rfl, hs, _, _⟩ := h.it x hx
  unfold DL.pv
  refine ⟨by simp, fun y hy => ?_⟩
  simp only [List.mem_cons, List.not_mem_nil, or_false] at hy
  rcases hy with rfl | rfl
  · unfold DL.pv
    have := hs.2.1
    omega
  · unfold DL.pv
    trivial
theorem app_str (M : Mem) {a : Nat} {xs : List Dee.D} {d : Dee.D} {Q : Dee.K} (h : M a = some (.lst xs)) (hl : xs.length < line) (hQ : Q .non (up M a (.lst (xs ++ [d])))) : mthop .append (.ref a) [d] M Q := by
  unfold mthop
  simp only [onR, atL, h, ob, on1]
  exact ⟨hl, hQ⟩
theorem seq_at {M : Mem} {a : Nat} {xs : List Dee.D} (h : M a = some (.lst xs)) : seqM M (.ref a) = some xs := by
  unfold seqM
  simp only [h]
theorem dct_at {M : Mem} {a : Nat} {xs : List Dee.D} (h : M a = some (.lst xs)) : dctM M (.ref a) = none := by
  unfold dctM
  simp only [h]
/-- the candidates for a name -/
def cands (t : Str) : List Str := t :: ("abcdefgh" : Str).cps.toList.map fun c => t ++ (⟨#[c]⟩ : Str)
theorem app_cps (t u : Str) : (t ++ u).cps.toList = t.cps.toList ++ u.cps.toList := by
  show (t.cps ++ u.cps).toList = _
  simp
theorem abcdefgh : ("abcdefgh" : Str).cps.toList = [97, 98, 99, 100, 101, 102, 103, 104] := by decide +kernel
theorem cands_nd (t : Str) : (cands t).Nodup := by
  unfold cands
  rw [abcdefgh, List.nodup_cons]
  constructor
  · intro h
    obtain ⟨c, _, e⟩ := List.mem_map.mp h
    have := congrArg (fun s : Str => s.cps.toList.length) e
    simp only [app_cps] at this
    simp at this
  · unfold List.Nodup
    rw [List.pairwise_map]
    have h0 : ([97, 98, 99, 100, 101, 102, 103, 104] : List Nat).Nodup := by decide
    exact List.Pairwise.imp (fun {a b} hab e => hab (by
      have := congrArg (fun s : Str => s.cps.toList) e
      simp only [app_cps] at this
      simpa using this)) h0
theorem cands_low {t : Str} (h : lowS 3 t) : ∀ u ∈ cands t, lowS 4 u := by
  intro u hu
  unfold cands at hu
  rcases List.mem_cons.mp hu with rfl | hu
  · exact ⟨h.1, by have := h.2.1; omega, h.2.2⟩
  · obtain ⟨c, hc, rfl⟩ := List.mem_map.mp hu
    have e : (t ++ (⟨#[c]⟩ : Str)).length = t.length + 1 := by
      show (t.cps ++ #[c]).size = _
      simp
      rfl
    refine ⟨by rw [e]; omega, by rw [e]; have := h.2.1; omega, ?_⟩
    rw [app_cps, List.all_append, h.2.2, Bool.true_and]
    rw [abcdefgh] at hc
    simp only [List.all_cons, List.all_nil, Bool.and_true]
    simp only [List.mem_cons, List.not_mem_nil, or_false] at hc
    rcases hc with rfl | rfl | rfl | rfl | rfl | rfl | rfl | rfl <;> decide +kernel
theorem cands_new {t : Str} {ts : List Str} (h : ts.length < 9) : ∃ u us, (cands t).filter (fun u => !ts.any (· == u)) = u :: us ∧ u ∈ cands t ∧ u ∉ ts := by
  cases e : (cands t).filter (fun u => !ts.any (· == u)) with
  | cons u us =>
    have hm : u ∈ (cands t).filter (fun u => !ts.any (· == u)) := by rw [e]; simp
    obtain ⟨h1, h2⟩ := List.mem_filter.mp hm
    refine ⟨u, us, rfl, h1, fun hu => ?_⟩
    rw [Bool.not_eq_true', List.any_eq_false] at h2
    exact h2 u hu (by simp)
  | nil =>
    have := pigeon (cands t) ts (cands_nd t) fun u hu => by
      have h2 := List.filter_eq_nil_iff.mp e u hu
      simp only [Bool.not_eq_true, Bool.not_eq_false'] at h2
      obtain ⟨v, hv, ev⟩ := List.any_eq_true.mp h2
      have : v = u := by simpa using ev
      rw [← this]; exact hv
    unfold cands at this
    rw [abcdefgh] at this
    simp at this
    omega
def drawnTurn (nm : Nat) : List Dee.St := [.asg (.nm 6) (.call nm [.var 0]), .asg (.nm 7) (.bin .add (.lst false [.var 6]) (.comp false (.bin .add (.var 6) (.var 8)) (.nm 8) .seq [.str "abcdefgh"] [])), .expr (.mth .append (.var 4) [.sub (.comp false (.var 9) (.nm 9) .seq [.var 7] [.cmp .notin (.var 9) (.var 4)]) (.int 0)])]
/-- one name more -/
theorem drawn_turn {P : Prog} {d q nm k : Nat} (hd : P.fns[d]? = some drawFn) (hq : P.fns[q]? = some (pickFn d)) (hnm : P.fns[nm]? = some (lnmFn d q)) {p a : Nat} {x1 x2 x3 x5 x6 x7 : Option Dee.D} {ts : List Str} {M : Mem} {Dn : Dee.Ends} (hp : Pot M p) (hap : a ≠ p) (ha : M a = some (.lst (ts.map D.str))) (hl : ts.length < 8)
    (h : ∀ t x6 x7 M', lowS 4 t → t ∉ ts → Pot M' p → M' a = some (.lst ((ts ++ [t]).map D.str)) → (∀ q, q ≠ p → q ≠ a → M' q = M q) → Dn.nx [some (.ref p), x1, x2, x3, some (.ref a), x5, x6, x7, none, none] M') :
    wSs (semAt P (k + 3)) (drawnTurn nm) [some (.ref p), x1, x2, x3, some (.ref a), x5, x6, x7, none, none] M Dn := by
  unfold drawnTurn
  have hc : (semAt P (k + 3)).call = wCall P (k + 3) := rfl
  generalize semAt P (k + 3) = F at hc
  rw [wSs_cons]
  generalize hD : ({ nx := _, rt := _, bk := _, ct := _, ex := _ } : Dee.Ends) = D1
  simp only [wS, wE, wEs, lk, ob, hc]
  refine lnm hd hq hnm hp fun t M1 ht hp1 f1 => ?_
  simp only [wTg, List.set]
  rw [← hD]
  show wSs _ _ _ _ _
  rw [wSs_cons]
  generalize hD2 : ({ nx := _, rt := _, bk := _, ct := _, ex := _ } : Dee.Ends) = D2
  simp only [wS, wE, wEs, wO, wAnd, wOr, wCs, wSs_nil, lk, ob, onI, on1, on2, asB, isiop, tyOf, cmpop, iceL, D.dep, depL, plt, binop, catop, biop, inop, seqM, dctM, isTup, wTg, wTgs, onT, List.set, newL, newT, plnM, Bool.false_and, newD, wipeD, tgSlots, tgsSlots, List.append_nil, List.nil_append, List.cons_append, if_true, if_false, Bool.false_eq_true, reduceIte, Bool.not_true, Bool.not_false, itop, still, show ("abcdefgh" : Str).length ≤ line from by decide +kernel]
  refine lcL_map (fun x => match x with | .str u => .str (t ++ u) | x => x) (fun x hx R hR => ?_) ?_
  · obtain ⟨c, hc', rfl⟩ := List.mem_map.mp hx
    simp only [wS, wE, wEs, wO, wAnd, wOr, wCs, wSs_nil, lk, ob, onI, on1, on2, asB, isiop, tyOf, cmpop, iceL, D.dep, depL, plt, binop, catop, biop, inop, seqM, dctM, isTup, wTg, wTgs, onT, List.set, newL, newT, plnM, Bool.false_and, newD, wipeD, tgSlots, tgsSlots, List.append_nil, List.nil_append, List.cons_append, if_true, if_false, Bool.false_eq_true, reduceIte, Bool.not_true, Bool.not_false, strOf]
    refine ⟨?_, hR⟩
    have := ht.2.1
    show t.length + 1 ≤ _
    unfold line
    omega
  · have e : (("abcdefgh" : Str).cps.toList.map strOf).map (fun x => match x with | .str u => D.str (t ++ u) | x => x) = (("abcdefgh" : Str).cps.toList.map fun c => t ++ (⟨#[c]⟩ : Str)).map D.str := by
      rw [List.map_map, List.map_map]
      rfl
    simp only [wS, wE, wEs, wO, wAnd, wOr, wCs, wSs_nil, lk, ob, onI, on1, on2, asB, isiop, tyOf, cmpop, iceL, D.dep, depL, plt, binop, catop, biop, inop, seqM, dctM, isTup, wTg, wTgs, onT, List.set, newL, newT, plnM, Bool.false_and, newD, wipeD, tgSlots, tgsSlots, List.append_nil, List.nil_append, List.cons_append, if_true, if_false, Bool.false_eq_true, reduceIte, Bool.not_true, Bool.not_false, e]
    refine ⟨⟨trivial, trivial⟩, ?_, ?_⟩
    · rw [abcdefgh]
      simp [line]
    · rw [← hD2]
      show wSs _ _ _ _ _
      rw [wSs_cons]
      have ha1 : M1 a = some (.lst (ts.map D.str)) := (f1 a hap).trans ha
      have ec : D.str t :: (("abcdefgh" : Str).cps.toList.map fun c => t ++ (⟨#[c]⟩ : Str)).map D.str = (cands t).map D.str := rfl
      simp only [wS, wE, wEs, wO, wAnd, wOr, wCs, wSs_nil, lk, ob, onI, on1, on2, asB, isiop, tyOf, cmpop, iceL, D.dep, depL, plt, binop, catop, biop, inop, sq_l, sq_t, dc_l, dc_t, isTup, wTg, wTgs, onT, List.set, newL, newT, plnM, Bool.false_and, newD, wipeD, tgSlots, tgsSlots, List.append_nil, List.nil_append, List.cons_append, if_true, if_false, Bool.false_eq_true, reduceIte, Bool.not_true, Bool.not_false, mtIs, seq_at ha1, itop, still, ec, Option.isSome_some, true_and]
      refine lcL_fm (fun x => match x with | .str u => if ts.any (· == u) then none else some (.str u) | _ => none) (fun x hx R hR => ?_) ?_
      · obtain ⟨u, hu, rfl⟩ := List.mem_map.mp hx
        simp only [wS, wE, wEs, wO, wAnd, wOr, wCs, wSs_nil, lk, ob, onI, on1, on2, asB, isiop, tyOf, cmpop, iceL, D.dep, depL, plt, binop, catop, biop, inop, sq_l, sq_t, dc_l, dc_t, isTup, wTg, wTgs, onT, List.set, newL, newT, plnM, Bool.false_and, newD, wipeD, tgSlots, tgsSlots, List.append_nil, List.nil_append, List.cons_append, if_true, if_false, Bool.false_eq_true, reduceIte, Bool.not_true, Bool.not_false, dct_at ha1, seq_at ha1, any_strs, dep_strs]
        refine ⟨⟨by decide, by decide⟩, ?_⟩
        have hR : R (if ts.any (· == u) then none else some (.str u)) M1 := hR
        cases e : ts.any (· == u) with
        | true => rw [e] at hR; simpa using hR
        | false => rw [e] at hR; simpa using hR
      · have ef : ((cands t).map D.str).filterMap (fun x => match x with | .str u => if ts.any (· == u) then none else some (D.str u) | _ => none) = ((cands t).filter (fun u => !ts.any (· == u))).map D.str := by
          rw [List.filterMap_map]
          generalize cands t = cs
          induction cs with
          | nil => rfl
          | cons c cs ih =>
            cases e : ts.any (· == c) with
            | true => rw [List.filterMap_cons_none (by simp only [Function.comp_apply, e]; rfl), ih, List.filter_cons_of_neg (by simp [e])]
            | false => rw [List.filterMap_cons_some (b := D.str c) (by simp only [Function.comp_apply, e]; rfl), ih, List.filter_cons_of_pos (by simp [e]), List.map_cons]
        obtain ⟨u, us, e1, e2, e3⟩ := cands_new (t := t) (ts := ts) (by omega)
        simp only [wS, wE, wEs, wO, wAnd, wOr, wCs, wSs_nil, lk, ob, onI, on1, on2, asB, isiop, tyOf, cmpop, iceL, D.dep, depL, plt, binop, catop, biop, inop, sq_l, sq_t, dc_l, dc_t, isTup, wTg, wTgs, onT, List.set, newL, newT, plnM, Bool.false_and, newD, wipeD, tgSlots, tgsSlots, List.append_nil, List.nil_append, List.cons_append, if_true, if_false, Bool.false_eq_true, reduceIte, Bool.not_true, Bool.not_false, ef, e1, List.map_cons]
        rw [sub_lst (by decide) rfl]
        refine app_str M1 ha1 (by rw [List.length_map]; unfold line; omega) ?_
        refine h u _ _ _ (cands_low ht u e2) e3 ?_ (by rw [up_at]; simp) fun q hq1 hq2 => by
          unfold up
          rw [if_neg hq2]
          exact f1 q hq1
        obtain ⟨cs, x, y, z, hM, r⟩ := hp1
        refine ⟨cs, x, y, z, ?_, r⟩
        unfold up
        rw [if_neg (Ne.symm hap)]
        exact hM
def lsgFn (d q nm : Nat) (m : Bool := false) : Fn := ⟨2, 10, [.asg (.tu [.nm 4, .nm 5]) (.tup [.lst true [], .lst true []]), .for (.nm 2) .rng [.bin .add (.int 2) (.call d [.var 0, .bin .sub (.var 1) (.int 1)])] (drawnTurn nm), .for (.nm 2) .rng [.bi .len false [.var 4]] [.expr (.mth .append (.var 5) [.tup [.sub (.var 4) (.var 2), .call q [.var 0, .lst false [.int 0, .int 0, .int 1, .int 1, .int 2, .int 2, .int 3]]]])], .asg (.nm 3) (.call d [.var 0, .bi .len false [.var 4]]), .asub (.var 5) (.var 3) (.tup [.sub (.var 4) (.var 3), .int 0]), .ret (.bi .tuple m [.var 5])]⟩
/-- names with numbers -/
def Row (ts : List Str) (ys : List Dee.D) (n : Nat) : Prop := ys.length = n ∧ ∀ j, j < n → ∃ t m, ts[j]? = some t ∧ ys[j]? = some (.tup [.str t, .int m]) ∧ 0 ≤ m ∧ m ≤ 3
theorem row_sg {ts : List Str} {ys : List Dee.D} {most : Nat} (h : Row ts ys ts.length) (h2 : 2 ≤ ts.length) (hm : ts.length ≤ most) (hl : ∀ t ∈ ts, lowS 4 t) (hn : ts.Nodup) {at_ : Nat} {t : Str} (hat : ts[at_]? = some t) : Sg (ys.set at_ (.tup [.str t, .int 0])) most := by
  have hlt : at_ < ts.length := (List.getElem?_eq_some_iff.mp hat).1
  have len : (ys.set at_ (.tup [.str t, .int 0])).length = ts.length := by rw [List.length_set]; exact h.1
  have each : ∀ j, j < ts.length → ∃ u m, ts[j]? = some u ∧ (ys.set at_ (.tup [.str t, .int 0]))[j]? = some (.tup [.str u, .int m]) ∧ 0 ≤ m ∧ m ≤ 3 := fun j hj => by
    by_cases e : at_ = j
    · subst e
      exact ⟨t, 0, hat, List.getElem?_set_self (by rw [h.1]; exact hlt), by decide, by decide⟩
    · obtain ⟨u, m, e1, e2, e3⟩ := h.2 j hj
      exact ⟨u, m, e1, by rw [List.getElem?_set_ne e]; exact e2, e3⟩
  have nms : (ys.set at_ (.tup [.str t, .int 0])).map nmS = ts := by
    apply List.ext_getElem?
    intro j
    rw [List.getElem?_map]
    by_cases hj : j < ts.length
    · obtain ⟨u, m, e1, e2, _⟩ := each j hj
      rw [e1, e2]
      rfl
    · rw [List.getElem?_eq_none (by omega), List.getElem?_eq_none (by omega)]
      rfl
  refine ⟨by omega, by omega, fun x hx => ?_, by rw [nms]; exact hn, ?_⟩
  · obtain ⟨j, hj⟩ := List.mem_iff_getElem?.mp hx
    have hj2 : j < ts.length := by
      have := (List.getElem?_eq_some_iff.mp hj).1
      omega
    obtain ⟨u, m, e1, e2, e3, e4⟩ := each j hj2
    rw [hj] at e2
    cases e2
    exact ⟨u, m, rfl, hl u (List.mem_of_getElem? e1), e3, e4⟩
  · exact ⟨_, List.mem_of_getElem? (List.getElem?_set_self (a := D.tup [.str t, .int 0]) (show at_ < ys.length by rw [h.1]; exact hlt)), rfl⟩
theorem pot_up {M : Mem} {p a : Nat} {o : MO} (h : Pot M p) (hap : a ≠ p) : Pot (up M a o) p := by
  obtain ⟨cs, x, y, z, hM, r⟩ := h
  exact ⟨cs, x, y, z, by unfold up; rw [if_neg (Ne.symm hap)]; exact hM, r⟩
theorem up_of_ne {M : Mem} {a b : Nat} {o : MO} (h : b ≠ a) : up M a o b = M b := by unfold up; rw [if_neg h]
theorem lsgM {P : Prog} {m : Bool} {d q nm i k : Nat} (hd : P.fns[d]? = some drawFn) (hq : P.fns[q]? = some (pickFn d)) (hnm : P.fns[nm]? = some (lnmFn d q)) (hi : P.fns[i]? = some (lsgFn d q nm m)) {M : Mem} {p : Nat} {most : Nat} {Q : Dee.K} {E : Dee.KX} (hp : Pot M p) (h2 : 2 ≤ most) (h8 : most ≤ 8)
    (hQ : ∀ xs M', Sg xs most → Pot M' p → newT m xs M' Q) : wCall P (k + 4) i [.ref p, .int most] M Q E := by
  rw [wCall_succ, hi]
  refine ⟨rfl, ?_⟩
  unfold lsgFn
  have htn := @drawn_turn P d q nm k hd hq hnm
  have hc : (semAt P (k + 3)).call = wCall P (k + 3) := rfl
  generalize semAt P (k + 3) = F at hc htn
  simp only [List.map, List.replicate, List.cons_append, List.nil_append, Nat.reduceSub]
  rw [wSs_cons]
  generalize hD : ({ nx := _, rt := _, bk := _, ct := _, ex := _ } : Dee.Ends) = D1
  simp only [wS, wE, wEs, newL, if_true]
  intro a hMa b hMb
  have hap : a ≠ p := by
    rintro rfl
    obtain ⟨cs, x, y, z, hM, _⟩ := hp
    rw [hMa] at hM
    cases hM
  have hba : b ≠ a := by
    rintro rfl
    rw [up_at] at hMb
    cases hMb
  have hbp : b ≠ p := by
    rintro rfl
    rw [up_of_ne hba] at hMb
    obtain ⟨cs, x, y, z, hM, _⟩ := hp
    rw [hMb] at hM
    cases hM
  have hp2 : Pot (up (up M a (.lst [])) b (.lst [])) p := pot_up (pot_up hp hap) hbp
  have ha2 : (up (up M a (.lst [])) b (.lst [])) a = some (.lst (([] : List Str).map D.str)) := by rw [up_of_ne (Ne.symm hba), up_at]; rfl
  have hb2 : (up (up M a (.lst [])) b (.lst [])) b = some (.lst []) := up_at
  generalize (up (up M a (.lst [])) b (.lst [])) = M2 at hp2 ha2 hb2
  simp only [wTg, wTgs, onT, List.set]
  rw [← hD]
  show wSs _ _ _ _ _
  rw [wSs_cons]
  generalize hD2 : ({ nx := _, rt := _, bk := _, ct := _, ex := _ } : Dee.Ends) = D2
  simp only [wS, wE, wEs, lk, ob, binop, onI, hc]
  refine drawF (k := k + 2) hd hp2 (by omega) (by omega) fun r M3 r0 r1 hp3 f3 => ?_
  simp only [binop, itop, onI]
  refine ⟨⟨by omega, by unfold line; omega⟩, ?_⟩
  refine forL_at (fun n σ M' => (∃ x2 x3 x6 x7, σ = [some (.ref p), some (.int most), x2, x3, some (.ref a), some (.ref b), x6, x7, none, none]) ∧ Pot M' p ∧ M' b = some (.lst []) ∧ ∃ ts : List Str, M' a = some (.lst (ts.map D.str)) ∧ ts.length = n ∧ ts.Nodup ∧ ∀ t ∈ ts, lowS 4 t)
    (fun n x hx σ M' R hI hR => ?_) ⟨⟨_, _, _, _, rfl⟩, hp3, (f3 b hbp).trans hb2, [], (f3 a hap).trans ha2, rfl, List.nodup_nil, fun t ht => nomatch ht⟩ fun σ M4 hI => ?_
  · obtain ⟨⟨x2, x3, x6, x7, rfl⟩, hp', hb', ts, ha', hlen, hnd, hlow⟩ := hI
    have hn : n < (2 + r).toNat := by
      have := (List.getElem?_eq_some_iff.mp hx).1
      unfold rngF at this
      simpa using this
    simp only [wTg, List.set]
    refine htn hp' hap ha' (by omega) fun t y6 y7 M'' ht hnt hp'' ha'' fr => ?_
    refine hR _ _ ⟨⟨_, _, _, _, rfl⟩, hp'', (fr b hbp hba).trans hb', ts ++ [t], ha'', by simp [hlen], ?_, fun u hu => ?_⟩
    · rw [List.nodup_append]
      refine ⟨hnd, by simp, fun u hu v hv => ?_⟩
      have : v = t := by simpa using hv
      subst this
      rintro rfl
      exact hnt hu
    · rcases List.mem_append.mp hu with hu | hu
      · exact hlow u hu
      · have : u = t := by simpa using hu
        subst this
        exact ht
  · obtain ⟨⟨x2, x3, x6, x7, rfl⟩, hp4, hb4, ts, ha4, hlen, hnd, hlow⟩ := hI
    have hlen' : ts.length = (2 + r).toNat := by
      rw [hlen]
      unfold rngF
      simp
    rw [← hD2]
    show wSs _ _ _ _ _
    rw [wSs_cons]
    generalize hD3 : ({ nx := _, rt := _, bk := _, ct := _, ex := _ } : Dee.Ends) = D3
    simp only [wS, wE, wEs, lk, ob, on1, biop, dct_at ha4, seq_at ha4, itop, onI, List.length_map]
    refine ⟨⟨by omega, by unfold line; omega⟩, ?_⟩
    refine forL_at (fun n σ M' => (∃ x2, σ = [some (.ref p), some (.int most), x2, x3, some (.ref a), some (.ref b), x6, x7, none, none]) ∧ Pot M' p ∧ M' a = some (.lst (ts.map D.str)) ∧ ∃ ys, M' b = some (.lst ys) ∧ Row ts ys n)
      (fun n x hx σ M' R hI hR => ?_) ⟨⟨_, rfl⟩, hp4, ha4, [], hb4, rfl, fun j hj => nomatch hj⟩ fun σ M5 hI => ?_
    · obtain ⟨⟨x2', rfl⟩, hp', ha', ys, hb', hrow⟩ := hI
      unfold rngF at hx
      rw [List.getElem?_map] at hx
      have hn : n < ts.length := by
        cases e : (List.range ((ts.length : Int).toNat))[n]? with
        | none => rw [e] at hx; cases hx
        | some j =>
          have := (List.getElem?_eq_some_iff.mp e).1
          simpa using this
      rw [List.getElem?_eq_getElem (by simpa using hn)] at hx
      simp only [List.getElem_range, Option.map_some, Option.some.injEq] at hx
      subst hx
      have hg : (ts.map D.str)[(n : Int).toNat]? = some (.str ts[n]) := by
        rw [List.getElem?_map, show ((n : Int).toNat) = n by omega, List.getElem?_eq_getElem hn]
        rfl
      simp only [wTg, List.set]
      rw [wSs_cons]
      simp only [wS, wE, wEs, lk, ob, mtIs, isTup, seq_at hb', Option.isSome_some, true_and, sub_at ha' (Int.natCast_nonneg n) hg, newL, if_neg Bool.false_ne_true, hc, wSs_nil]
      refine pickF (k := k + 1) hd hq hp' (by decide) (by decide) fun v M6 hv hp6 f6 => ?_
      have hb6 : M6 b = some (.lst ys) := (f6 b hbp).trans hb'
      obtain ⟨m, rfl, hm1, hm2⟩ : ∃ m, v = .int m ∧ 0 ≤ m ∧ m ≤ 3 := by
        simp only [List.mem_cons, List.not_mem_nil, or_false] at hv
        rcases hv with rfl | rfl | rfl | rfl | rfl | rfl | rfl <;> exact ⟨_, rfl, by decide, by decide⟩
      refine app_str M6 hb6 (by rw [hrow.1]; unfold line; omega) ?_
      refine hR _ _ ⟨⟨_, rfl⟩, pot_up hp6 hbp, by rw [up_of_ne (Ne.symm hba)]; exact (f6 a hap).trans ha', _, up_at, by simp [hrow.1], fun j hj => ?_⟩
      by_cases e : j = n
      · subst e
        exact ⟨_, m, List.getElem?_eq_getElem hn, by rw [List.getElem?_append_right (by rw [hrow.1]; omega), hrow.1]; simp, hm1, hm2⟩
      · obtain ⟨t, m', e1, e2, e3⟩ := hrow.2 j (by omega)
        exact ⟨t, m', e1, by rw [List.getElem?_append_left (by rw [hrow.1]; omega)]; exact e2, e3⟩
    · obtain ⟨⟨x2', rfl⟩, hp5, ha5, ys, hb5, hrow⟩ := hI
      rw [show (rngF (ts.length : Int)).length = ts.length by unfold rngF; simp] at hrow
      rw [← hD3]
      show wSs _ _ _ _ _
      rw [wSs_cons]
      generalize hD4 : ({ nx := _, rt := _, bk := _, ct := _, ex := _ } : Dee.Ends) = D4
      simp only [wS, wE, wEs, lk, ob, on1, biop, dct_at ha5, seq_at ha5, List.length_map, hc]
      refine drawF (k := k + 2) hd hp5 (by omega) (by omega) fun z M7 z0 z1 hp7 f7 => ?_
      have ha7 : M7 a = some (.lst (ts.map D.str)) := (f7 a hap).trans ha5
      have hb7 : M7 b = some (.lst ys) := (f7 b hbp).trans hb5
      have hz : z.toNat < ts.length := by omega
      have hg : (ts.map D.str)[z.toNat]? = some (.str ts[z.toNat]) := by
        rw [List.getElem?_map, List.getElem?_eq_getElem hz]
        rfl
      simp only [wTg, List.set]
      rw [← hD4]
      show wSs _ _ _ _ _
      rw [wSs_cons]
      simp only [wS, wE, wEs, lk, ob, sub_at ha7 z0 hg]
      rw [set_at hb7 z0 (by rw [hrow.1]; exact hz)]
      rw [wSs_cons]
      simp only [wS, wE, wEs, lk, ob, on1, biop, isTup, Bool.not_false, Bool.and_true, seq_at (up_at (M := M7) (p := b))]
      exact hQ _ _ (row_sg hrow (by omega) (by omega) hlow hnd (List.getElem?_eq_getElem hz)) (pot_up hp7 hbp)
theorem lsg {P : Prog} {d q nm i k : Nat} (hd : P.fns[d]? = some drawFn) (hq : P.fns[q]? = some (pickFn d)) (hnm : P.fns[nm]? = some (lnmFn d q)) (hi : P.fns[i]? = some (lsgFn d q nm)) {M : Mem} {p : Nat} {most : Nat} {Q : Dee.K} {E : Dee.KX} (hp : Pot M p) (h2 : 2 ≤ most) (h8 : most ≤ 8)
    (hQ : ∀ xs M', Sg xs most → Pot M' p → Q (.tup xs) M') : wCall P (k + 4) i [.ref p, .int most] M Q E := lsgM (m := false) hd hq hnm hi hp h2 h8 hQ
/-- signs as a plain tuple -/
theorem lsgP {P : Prog} {d q nm i k : Nat} (hd : P.fns[d]? = some drawFn) (hq : P.fns[q]? = some (pickFn d)) (hnm : P.fns[nm]? = some (lnmFn d q)) (hi : P.fns[i]? = some (lsgFn d q nm true)) {M : Mem} {p : Nat} {most : Nat} {Q : Dee.K} {E : Dee.KX} (hp : Pot M p) (h2 : 2 ≤ most) (h8 : most ≤ 8)
    (hQ : ∀ xs M' a, Sg xs most → Pot M' p → a ≠ p → M' a = some (.tup xs) → Q (.ref a) M') : wCall P (k + 4) i [.ref p, .int most] M Q E := lsgM (m := true) hd hq hnm hi hp h2 h8 fun xs M' hs hp' a ha => by
  have hap : a ≠ p := by
    rintro rfl
    obtain ⟨cs, x, y, z, hM, _⟩ := hp'
    rw [ha] at hM
    cases hM
  exact hQ xs _ a hs (pot_up hp' hap) hap up_at
end DL

set_option Elab.async false
set_option linter.all false
set_option autoImplicit false
set_option maxRecDepth 100000
set_option maxHeartbeats 1000000
/-! Dee: values that are bent. -/
namespace DL
open PySem Dee
/-- numbers, texts, rows of such; no dict -/
def qv (L : Nat) : Nat → Dee.D → Prop
  | _, .non => True
  | _, .bl _ => True
  | _, .int _ => True
  | _, .str s => s.length ≤ L
  | n + 1, .tup xs => xs.length ≤ L ∧ ∀ x ∈ xs, qv L n x
  | n + 1, .lst xs => xs.length ≤ L ∧ ∀ x ∈ xs, qv L n x
  | _, _ => False
theorem qv_tup {L n : Nat} {xs : List Dee.D} (h : qv L n (.tup xs)) : xs.length ≤ L ∧ ∃ m, n = m + 1 ∧ ∀ x ∈ xs, qv L m x := by
  cases n with
  | zero => unfold qv at h; exact h.elim
  | succ n => unfold qv at h; exact ⟨h.1, n, rfl, h.2⟩
theorem qv_lst {L n : Nat} {xs : List Dee.D} (h : qv L n (.lst xs)) : xs.length ≤ L ∧ ∃ m, n = m + 1 ∧ ∀ x ∈ xs, qv L m x := by
  cases n with
  | zero => unfold qv at h; exact h.elim
  | succ n => unfold qv at h; exact ⟨h.1, n, rfl, h.2⟩
theorem qv_up {L L' : Nat} (hL : L ≤ L') : ∀ {n m : Nat} {d : Dee.D}, n ≤ m → qv L n d → qv L' m d
  | _, _, .non, _, _ => by unfold qv; trivial
  | _, _, .bl _, _, _ => by unfold qv; trivial
  | _, _, .int _, _, _ => by unfold qv; trivial
  | _, _, .str s, _, h => by unfold qv at h ⊢; omega
  | n, m, .tup xs, h, hs => by
    obtain ⟨h1, n', rfl, h2⟩ := qv_tup hs
    match m, h with
    | m + 1, h => unfold qv; exact ⟨by omega, fun x hx => qv_up hL (by omega) (h2 x hx)⟩
  | n, m, .lst xs, h, hs => by
    obtain ⟨h1, n', rfl, h2⟩ := qv_lst hs
    match m, h with
    | m + 1, h => unfold qv; exact ⟨by omega, fun x hx => qv_up hL (by omega) (h2 x hx)⟩
  | _, _, .dct _ _, _, h => by unfold qv at h; exact h.elim
  | _, _, .obj _ _, _, h => by unfold qv at h; exact h.elim
  | _, _, .ref _, _, h => by unfold qv at h; exact h.elim
  | _, _, .clo _ _, _, h => by unfold qv at h; exact h.elim
theorem qv_pv {L : Nat} : ∀ {n : Nat} {d : Dee.D}, qv L n d → pv L n d
  | _, .non, _ => by unfold pv; trivial
  | _, .bl _, _ => by unfold pv; trivial
  | _, .int _, _ => by unfold pv; trivial
  | _, .str s, h => by unfold qv at h; unfold pv; exact h
  | n, .tup xs, hs => by
    obtain ⟨h1, n', rfl, h2⟩ := qv_tup hs
    unfold pv
    exact ⟨h1, fun x hx => qv_pv (h2 x hx)⟩
  | n, .lst xs, hs => by
    obtain ⟨h1, n', rfl, h2⟩ := qv_lst hs
    unfold pv
    exact ⟨h1, fun x hx => qv_pv (h2 x hx)⟩
  | _, .dct _ _, h => by unfold qv at h; exact h.elim
  | _, .obj _ _, h => by unfold qv at h; exact h.elim
  | _, .ref _, h => by unfold qv at h; exact h.elim
  | _, .clo _ _, h => by unfold qv at h; exact h.elim
theorem depL_le {n : Nat} : ∀ {xs : List Dee.D}, (∀ x ∈ xs, x.dep ≤ n) → depL xs ≤ n
  | [], _ => Nat.zero_le _
  | x :: xs, h => by
    unfold depL
    have h1 := h x (by simp)
    have h2 := depL_le (xs := xs) fun y hy => h y (by simp [hy])
    omega
theorem qv_dep {L : Nat} : ∀ {n : Nat} {d : Dee.D}, qv L n d → d.dep ≤ n
  | _, .non, _ => by unfold D.dep; omega
  | _, .bl _, _ => by unfold D.dep; omega
  | _, .int _, _ => by unfold D.dep; omega
  | _, .str s, h => by unfold D.dep; omega
  | n, .tup xs, hs => by
    obtain ⟨h1, n', rfl, h2⟩ := qv_tup hs
    unfold D.dep
    have := depL_le (n := n') fun x hx => qv_dep (h2 x hx)
    omega
  | n, .lst xs, hs => by
    obtain ⟨h1, n', rfl, h2⟩ := qv_lst hs
    unfold D.dep
    have := depL_le (n := n') fun x hx => qv_dep (h2 x hx)
    omega
  | _, .dct _ _, h => by unfold qv at h; exact h.elim
  | _, .obj _ _, h => by unfold qv at h; exact h.elim
  | _, .ref _, h => by unfold qv at h; exact h.elim
  | _, .clo _ _, h => by unfold qv at h; exact h.elim
/-- what may be bent: signs and what is in them -/
def base (B : Nat) : Nat → Dee.D → Prop
  | _, .int j => 0 ≤ j ∧ j ≤ 3
  | _, .str s => s.length ≤ B
  | n + 1, .tup xs => xs.length ≤ B ∧ ∀ x ∈ xs, base B n x
  | _, _ => False
theorem base_tup {B n : Nat} {xs : List Dee.D} (h : base B n (.tup xs)) : xs.length ≤ B ∧ ∃ m, n = m + 1 ∧ ∀ x ∈ xs, base B m x := by
  cases n with
  | zero => unfold base at h; exact h.elim
  | succ n => unfold base at h; exact ⟨h.1, n, rfl, h.2⟩
theorem base_qv {B : Nat} : ∀ {n : Nat} {d : Dee.D}, base B n d → qv B n d
  | _, .int _, _ => by unfold qv; trivial
  | _, .str s, h => by unfold base at h; unfold qv; exact h
  | n, .tup xs, hs => by
    obtain ⟨h1, n', rfl, h2⟩ := base_tup hs
    unfold qv
    exact ⟨h1, fun x hx => base_qv (h2 x hx)⟩
  | _, .non, h => by unfold base at h; exact h.elim
  | _, .bl _, h => by unfold base at h; exact h.elim
  | _, .lst _, h => by unfold base at h; exact h.elim
  | _, .dct _ _, h => by unfold base at h; exact h.elim
  | _, .obj _ _, h => by unfold base at h; exact h.elim
  | _, .ref _, h => by unfold base at h; exact h.elim
  | _, .clo _ _, h => by unfold base at h; exact h.elim
theorem mem_cut {α : Type} {xs : List α} {l h : Option Int} {x : α} (hx : x ∈ cutL xs l h) : x ∈ xs := List.mem_of_mem_drop (List.mem_of_mem_take hx)
theorem len_cut {α : Type} (xs : List α) (l h : Option Int) : (cutL xs l h).length ≤ xs.length := by
  unfold cutL
  rw [List.length_take, List.length_drop]
  omega
def oddFn (q : Nat) : Fn := ⟨2, 3, [.ifs (.isi (.var 1) [.int]) [.ret (.call q [.var 0, .lst false [.bin .add (.var 1) (.int 1), .bin .sub (.var 1) (.int 1), .int 10, .neg (.int 10), .int 100, .bl true, .non, .bi .str false [.var 1], .tup [.var 1]]])] [], .ifs (.isi (.var 1) [.str]) [.ret (.call q [.var 0, .lst false [.bin .add (.var 1) (.str "a"), .slc (.var 1) (some (.int 1)) none, .str "", .str "A", .int 0, .non, .tup [.var 1], .lst false [.var 1], .str "abcdefghi"]])] [], .ifs (.isi (.var 1) [.tuple]) [.asg (.nm 2) (.lst false [.bin .add (.var 1) (.slc (.var 1) (some (.neg (.int 1))) none), .slc (.var 1) (some (.int 1)) none, .bi .list false [.var 1], .tup [], .non, .int 3, .str "x", .tup [.var 1], .slc (.var 1) none (some (.neg (.int 1))), .bin .add (.var 1) (.tup [.int 1])]), .ret (.call q [.var 0, .bin .add (.var 2) (.lst false [.rev (.var 1), .bin .add (.slc (.var 1) (some (.int 1)) none) (.slc (.var 1) none (some (.int 1)))])])] [], .ret (.call q [.var 0, .lst false [.non, .int 0, .str "ab", .dnew false false [], .bl true]])]⟩
theorem oddS {P : Prog} {d q i k : Nat} (hd : P.fns[d]? = some drawFn) (hq : P.fns[q]? = some (pickFn d)) (hi : P.fns[i]? = some (oddFn q)) {B : Nat} (hB : 8 ≤ B) (hB2 : B ≤ 100) {M : Mem} {p n : Nat} {t : Dee.D} {Q : Dee.K} {E : Dee.KX} (hp : Pot M p) (ht : base B n t) (hQ : ∀ v M', qv (B + 2) (n + 2) v → Pot M' p → Q v M') :
    wCall P (k + 3) i [.ref p, t] M Q E := by
  rw [wCall_succ, hi]
  refine ⟨rfl, ?_⟩
  unfold oddFn
  have hc : (semAt P (k + 2)).call = wCall P (k + 2) := rfl
  generalize semAt P (k + 2) = F at hc
  simp only [List.map, List.replicate, List.cons_append, List.nil_append, Nat.reduceSub]
  rw [wSs_cons]
  have one : ∀ {x : Dee.D}, qv (B + 2) n x → qv (B + 2) (n + 2) x := fun h => qv_up (Nat.le_refl _) (by omega) h
  cases t with
  | int j =>
    simp (decide := true) only [wS, wE, wEs, wO, wAnd, wOr, wCs, wSs_nil, lk, ob, onI, on1, on2, asB, isiop, tyOf, cmpop, iceL, D.dep, depL, plt, binop, catop, biop, inop, seqM, dctM, isTup, wTg, wTgs, onT, List.set, newL, newT, plnM, Bool.false_and, newD, wipeD, tgSlots, tgsSlots, List.append_nil, List.nil_append, List.cons_append, if_true, if_false, Bool.false_eq_true, reduceIte, Bool.not_true, Bool.not_false]
    rw [wSs_cons]
    simp only [wS, wE, wEs, wO, wAnd, wOr, wCs, wSs_nil, lk, ob, onI, on1, on2, asB, isiop, tyOf, cmpop, iceL, D.dep, depL, plt, binop, catop, biop, inop, seqM, dctM, isTup, wTg, wTgs, onT, List.set, newL, newT, plnM, Bool.false_and, newD, wipeD, tgSlots, tgsSlots, List.append_nil, List.nil_append, List.cons_append, if_true, if_false, Bool.false_eq_true, reduceIte, Bool.not_true, Bool.not_false, hc]
    unfold base at ht
    refine ⟨?_, ?_⟩
    · rcases (show j = 0 ∨ j = 1 ∨ j = 2 ∨ j = 3 by omega) with rfl | rfl | rfl | rfl <;> decide
    · refine pickF (k := k) hd hq hp (by simp) (by simp) fun v M' hv hp' _ => hQ v M' ?_ hp'
      simp only [List.mem_cons, List.not_mem_nil, or_false] at hv
      rcases hv with rfl | rfl | rfl | rfl | rfl | rfl | rfl | rfl | rfl
      · unfold qv; trivial
      · unfold qv; trivial
      · unfold qv; trivial
      · unfold qv; trivial
      · unfold qv; trivial
      · unfold qv; trivial
      · unfold qv; trivial
      · unfold qv
        refine Nat.le_trans (m := 10) ?_ (by omega)
        rcases (show j = 0 ∨ j = 1 ∨ j = 2 ∨ j = 3 by omega) with rfl | rfl | rfl | rfl <;> decide +kernel
      · unfold qv
        refine ⟨by simp, fun x hx => ?_⟩
        have : x = .int j := by simpa using hx
        subst this
        unfold qv; trivial
  | str s =>
    unfold base at ht
    simp (decide := true) only [wS, wE, wEs, wO, wAnd, wOr, wCs, wSs_nil, lk, ob, onI, on1, on2, asB, isiop, tyOf, cmpop, iceL, D.dep, depL, plt, binop, catop, biop, inop, seqM, dctM, isTup, wTg, wTgs, onT, List.set, newL, newT, plnM, Bool.false_and, newD, wipeD, tgSlots, tgsSlots, List.append_nil, List.nil_append, List.cons_append, if_true, if_false, Bool.false_eq_true, reduceIte, Bool.not_true, Bool.not_false]
    rw [wSs_cons]
    simp only [wS, wE, wEs, wO, wAnd, wOr, wCs, wSs_nil, lk, ob, onI, on1, on2, asB, isiop, tyOf, cmpop, iceL, D.dep, depL, plt, binop, catop, biop, inop, seqM, dctM, isTup, wTg, wTgs, onT, List.set, newL, newT, plnM, Bool.false_and, newD, wipeD, tgSlots, tgsSlots, List.append_nil, List.nil_append, List.cons_append, if_true, if_false, Bool.false_eq_true, reduceIte, Bool.not_true, Bool.not_false]
    rw [wSs_cons]
    simp only [wS, wE, wEs, wO, wAnd, wOr, wCs, wSs_nil, lk, ob, onI, on1, on2, asB, isiop, tyOf, cmpop, iceL, D.dep, depL, plt, binop, catop, biop, inop, seqM, dctM, isTup, wTg, wTgs, onT, List.set, newL, newT, plnM, Bool.false_and, newD, wipeD, tgSlots, tgsSlots, List.append_nil, List.nil_append, List.cons_append, if_true, if_false, Bool.false_eq_true, reduceIte, Bool.not_true, Bool.not_false, hc, slcop]
    refine ⟨?_, ?_, ?_⟩
    · show s.length + 1 ≤ line
      unfold line
      omega
    · unfold line
      omega
    · refine pickF (k := k) hd hq hp (by simp) (by simp) fun v M' hv hp' _ => hQ v M' ?_ hp'
      simp only [List.mem_cons, List.not_mem_nil, or_false] at hv
      rcases hv with rfl | rfl | rfl | rfl | rfl | rfl | rfl | rfl | rfl
      · unfold qv
        show (s.cps ++ _).size ≤ B + 2
        rw [Array.size_append]
        show s.length + 1 ≤ B + 2
        omega
      · unfold qv
        show ((cutL s.cps.toList (some 1) none).toArray).size ≤ B + 2
        rw [List.size_toArray]
        have := len_cut s.cps.toList (some 1) none
        have e : s.cps.toList.length = s.length := Array.length_toList
        omega
      · unfold qv; exact Nat.le_trans (m := 10) (by decide +kernel) (by omega)
      · unfold qv; exact Nat.le_trans (m := 10) (by decide +kernel) (by omega)
      · unfold qv; trivial
      · unfold qv; trivial
      · unfold qv
        refine ⟨by simp, fun x hx => ?_⟩
        have : x = .str s := by simpa using hx
        subst this
        unfold qv; omega
      · unfold qv
        refine ⟨by simp, fun x hx => ?_⟩
        have : x = .str s := by simpa using hx
        subst this
        unfold qv; omega
      · unfold qv; exact Nat.le_trans (m := 10) (by decide +kernel) (by omega)
  | tup xs =>
    obtain ⟨hl, n', rfl, hx⟩ := base_tup ht
    have hq8 : ∀ x ∈ xs, qv (B + 2) (n' + 2) x := fun x h => qv_up (by omega) (by omega) (base_qv (hx x h))
    have row : ∀ ys : List Dee.D, ys.length ≤ B + 2 → (∀ y ∈ ys, qv (B + 2) (n' + 2) y) → qv (B + 2) (n' + 1 + 2) (.tup ys) := fun ys h1 h2 => by
      show qv (B + 2) ((n' + 2) + 1) (.tup ys)
      unfold qv
      exact ⟨h1, h2⟩
    simp (decide := true) only [wS, wE, wEs, wO, wAnd, wOr, wCs, wSs_nil, lk, ob, onI, on1, on2, asB, isiop, tyOf, cmpop, iceL, D.dep, depL, plt, binop, catop, biop, inop, seqM, dctM, isTup, wTg, wTgs, onT, List.set, newL, newT, plnM, Bool.false_and, newD, wipeD, tgSlots, tgsSlots, List.append_nil, List.nil_append, List.cons_append, if_true, if_false, Bool.false_eq_true, reduceIte, Bool.not_true, Bool.not_false]
    rw [wSs_cons]
    simp only [wS, wE, wEs, wO, wAnd, wOr, wCs, wSs_nil, lk, ob, onI, on1, on2, asB, isiop, tyOf, cmpop, iceL, D.dep, depL, plt, binop, catop, biop, inop, seqM, dctM, isTup, wTg, wTgs, onT, List.set, newL, newT, plnM, Bool.false_and, newD, wipeD, tgSlots, tgsSlots, List.append_nil, List.nil_append, List.cons_append, if_true, if_false, Bool.false_eq_true, reduceIte, Bool.not_true, Bool.not_false]
    rw [wSs_cons]
    simp only [wS, wE, wEs, wO, wAnd, wOr, wCs, wSs_nil, lk, ob, onI, on1, on2, asB, isiop, tyOf, cmpop, iceL, D.dep, depL, plt, binop, catop, biop, inop, seqM, dctM, isTup, wTg, wTgs, onT, List.set, newL, newT, plnM, Bool.false_and, newD, wipeD, tgSlots, tgsSlots, List.append_nil, List.nil_append, List.cons_append, if_true, if_false, Bool.false_eq_true, reduceIte, Bool.not_true, Bool.not_false]
    rw [wSs_cons]
    simp only [wS, wE, wEs, wO, wAnd, wOr, wCs, wSs_nil, lk, ob, onI, on1, on2, asB, isiop, tyOf, cmpop, iceL, D.dep, depL, plt, binop, catop, biop, inop, seqM, dctM, isTup, wTg, wTgs, onT, List.set, newL, newT, plnM, Bool.false_and, newD, wipeD, tgSlots, tgsSlots, List.append_nil, List.nil_append, List.cons_append, if_true, if_false, Bool.false_eq_true, reduceIte, Bool.not_true, Bool.not_false, slcop]
    have len1 : ∀ l h, (cutL xs l h).length ≤ B := fun l h => Nat.le_trans (len_cut xs l h) hl
    have len2 : (cutL xs (some (-1)) none).length ≤ 1 := by
      unfold cutL sIx
      rw [List.length_take, List.length_drop]
      have : ((-1 : Int) + xs.length).toNat = xs.length - 1 := by omega
      simp only [show ((-1 : Int) < 0) by decide, if_true, this]
      omega
    refine ⟨by have := len1 (some (-1)) none; unfold line; omega, ?_, ?_⟩
    · show xs.length + 1 ≤ line
      unfold line
      omega
    simp only [wS, wE, wEs, wO, wAnd, wOr, wCs, wSs_nil, lk, ob, onI, on1, on2, asB, isiop, tyOf, cmpop, iceL, D.dep, depL, plt, binop, catop, biop, inop, seqM, dctM, isTup, wTg, wTgs, onT, List.set, newL, newT, plnM, Bool.false_and, newD, wipeD, tgSlots, tgsSlots, List.append_nil, List.nil_append, List.cons_append, if_true, if_false, Bool.false_eq_true, reduceIte, Bool.not_true, Bool.not_false]
    rw [wSs_cons]
    simp only [wS, wE, wEs, wO, wAnd, wOr, wCs, wSs_nil, lk, ob, onI, on1, on2, asB, isiop, tyOf, cmpop, iceL, D.dep, depL, plt, binop, catop, biop, inop, seqM, dctM, isTup, wTg, wTgs, onT, List.set, newL, newT, plnM, Bool.false_and, newD, wipeD, tgSlots, tgsSlots, List.append_nil, List.nil_append, List.cons_append, if_true, if_false, Bool.false_eq_true, reduceIte, Bool.not_true, Bool.not_false, hc, revop, slcop]
    refine ⟨by have := len1 (some 1) none; have := len1 none (some 1); unfold line; omega, ⟨trivial, trivial⟩, by simp [line], ?_⟩
    refine pickF (k := k) hd hq hp (by simp) (by simp) fun v M' hv hp' _ => hQ v M' ?_ hp'
    simp only [List.mem_cons, List.not_mem_nil, or_false] at hv
    have mc : ∀ l h, ∀ y ∈ cutL xs l h, qv (B + 2) (n' + 2) y := fun l h y hy => hq8 y (mem_cut hy)
    rcases hv with rfl | rfl | rfl | rfl | rfl | rfl | rfl | rfl | rfl | rfl | rfl | rfl
    · refine row _ (by rw [List.length_append]; omega) fun y hy => ?_
      rcases List.mem_append.mp hy with hy | hy
      · exact hq8 y hy
      · exact mc _ _ y hy
    · exact row _ (by have := len1 (some 1) none; omega) (mc _ _)
    · show qv (B + 2) ((n' + 2) + 1) (.lst xs)
      unfold qv
      exact ⟨by omega, hq8⟩
    · exact row _ (by simp) fun y hy => nomatch hy
    · unfold qv; trivial
    · unfold qv; trivial
    · unfold qv; exact Nat.le_trans (m := 10) (by decide +kernel) (by omega)
    · refine row _ (by simp) fun y hy => ?_
      have : y = .tup xs := by simpa using hy
      subst this
      exact qv_up (by omega) (by omega) (base_qv ht)
    · exact row _ (by have := len1 none (some (-1)); omega) (mc _ _)
    · refine row _ (by rw [List.length_append]; simp; omega) fun y hy => ?_
      rcases List.mem_append.mp hy with hy | hy
      · exact hq8 y hy
      · have : y = .int 1 := by simpa using hy
        subst this
        unfold qv; trivial
    · exact row _ (by rw [List.length_reverse]; omega) fun y hy => hq8 y (by simpa using hy)
    · refine row _ ?_ fun y hy => ?_
      · rw [List.length_append]
        unfold cutL sIx
        simp only [List.length_take, List.length_drop]
        simp
        omega
      · rcases List.mem_append.mp hy with hy | hy <;> exact mc _ _ y hy
  | _ => unfold base at ht; exact ht.elim
def bentFn (d i o : Nat) : Fn := ⟨3, 5, [.ifs (.and [.isi (.var 1) [.list, .tuple], .cmp .gt (.bi .len false [.var 1]) (.int 0), .cmp .gt (.var 2) (.int 0), .cmp .gt (.call d [.var 0, .int 5]) (.int 0)]) [.asg (.nm 3) (.call d [.var 0, .bi .len false [.var 1]]), .asg (.nm 4) (.call i [.var 0, .sub (.var 1) (.var 3), .bin .sub (.var 2) (.int 1)]), .ifs (.isi (.var 1) [.list]) [.ret (.bin .add (.bin .add (.slc (.var 1) none (some (.var 3))) (.lst false [.var 4])) (.slc (.var 1) (some (.bin .add (.var 3) (.int 1))) none))] [], .ret (.bin .add (.bin .add (.slc (.var 1) none (some (.var 3))) (.tup [.var 4])) (.slc (.var 1) (some (.bin .add (.var 3) (.int 1))) none))] [], .ret (.call o [.var 0, .var 1])]⟩
theorem bent {P : Prog} {d q o i k : Nat} (hd : P.fns[d]? = some drawFn) (hq : P.fns[q]? = some (pickFn d)) (ho : P.fns[o]? = some (oddFn q)) (hi : P.fns[i]? = some (bentFn d i o)) {B : Nat} (hB : 8 ≤ B) (hB2 : B ≤ 100) : ∀ (left : Nat) {M : Mem} {p n : Nat} {t : Dee.D} {Q : Dee.K} {E : Dee.KX}, Pot M p → base B n t → (∀ v M', qv (B + 2) (n + 2) v → Pot M' p → Q v M') →
    wCall P (k + left + 4) i [.ref p, t, .int left] M Q E := by
  intro left
  induction left with
  | zero =>
    intro M p n t Q E hp ht hQ
    rw [wCall_succ, hi]
    refine ⟨rfl, ?_⟩
    unfold bentFn
    have hod := @oddS P d q o k hd hq ho B hB hB2
    have hc : (semAt P (k + 0 + 3)).call = wCall P (k + 3) := rfl
    generalize semAt P (k + 0 + 3) = F at hc
    simp only [List.map, List.replicate, List.cons_append, List.nil_append, Nat.reduceSub]
    rw [wSs_cons]
    have tail : wSs F [.ret (.call o [.var 0, .var 1])] [some (.ref p), some t, some (.int ((0 : Nat) : Int)), none, none] M ⟨fun _ M => Q .non M, Q, fun _ _ => False, fun _ _ => False, fun e _ M => E e M⟩ := by
      rw [wSs_cons]
      simp only [wS, wE, wEs, lk, ob, hc]
      exact hod hp ht hQ
    generalize hD : ({ nx := _, rt := _, bk := _, ct := _, ex := _ } : Dee.Ends) = D1
    have tail' : D1.nx [some (.ref p), some t, some (.int ((0 : Nat) : Int)), none, none] M := by
      rw [← hD]
      exact tail
    cases t with
    | tup xs =>
      simp (decide := true) only [wS, wE, wEs, wO, wAnd, wOr, wCs, wSs_nil, lk, ob, onI, on1, on2, asB, isiop, tyOf, cmpop, iceL, D.dep, depL, plt, binop, catop, biop, inop, seqM, dctM, isTup, wTg, wTgs, onT, List.set, newL, newT, plnM, Bool.false_and, newD, wipeD, tgSlots, tgsSlots, List.append_nil, List.nil_append, List.cons_append, if_true, if_false, Bool.false_eq_true, reduceIte, Bool.not_true, Bool.not_false, Int.natCast_zero]
      by_cases h : (0 : Int) < xs.length
      · simpa (decide := true) [h] using tail'
      · simpa [h] using tail'
    | int j => simpa (decide := true) only [wS, wE, wEs, wO, wAnd, wOr, wCs, wSs_nil, lk, ob, onI, on1, on2, asB, isiop, tyOf, cmpop, iceL, D.dep, depL, plt, binop, catop, biop, inop, seqM, dctM, isTup, wTg, wTgs, onT, List.set, newL, newT, plnM, Bool.false_and, newD, wipeD, tgSlots, tgsSlots, List.append_nil, List.nil_append, List.cons_append, if_true, if_false, Bool.false_eq_true, reduceIte, Bool.not_true, Bool.not_false] using tail'
    | str j => simpa (decide := true) only [wS, wE, wEs, wO, wAnd, wOr, wCs, wSs_nil, lk, ob, onI, on1, on2, asB, isiop, tyOf, cmpop, iceL, D.dep, depL, plt, binop, catop, biop, inop, seqM, dctM, isTup, wTg, wTgs, onT, List.set, newL, newT, plnM, Bool.false_and, newD, wipeD, tgSlots, tgsSlots, List.append_nil, List.nil_append, List.cons_append, if_true, if_false, Bool.false_eq_true, reduceIte, Bool.not_true, Bool.not_false] using tail'
    | _ => unfold base at ht; exact ht.elim
  | succ left ih =>
    intro M p n t Q E hp ht hQ
    rw [wCall_succ, hi]
    refine ⟨rfl, ?_⟩
    unfold bentFn
    have hod := fun {M p n t Q E} => @oddS P d q o (k + left + 1) hd hq ho B hB hB2 M p n t Q E
    have hc : (semAt P (k + (left + 1) + 3)).call = wCall P (k + left + 4) := rfl
    generalize semAt P (k + (left + 1) + 3) = F at hc
    simp only [List.map, List.replicate, List.cons_append, List.nil_append, Nat.reduceSub]
    rw [wSs_cons]
    have tail : ∀ M, Pot M p → wSs F [.ret (.call o [.var 0, .var 1])] [some (.ref p), some t, some (.int ((left + 1 : Nat) : Int)), none, none] M ⟨fun _ M => Q .non M, Q, fun _ _ => False, fun _ _ => False, fun e _ M => E e M⟩ := fun M hp => by
      rw [wSs_cons]
      simp only [wS, wE, wEs, lk, ob, hc]
      exact hod hp ht hQ
    generalize hD : ({ nx := _, rt := _, bk := _, ct := _, ex := _ } : Dee.Ends) = D1
    have tail' : ∀ M, Pot M p → D1.nx [some (.ref p), some t, some (.int ((left + 1 : Nat) : Int)), none, none] M := fun M hp => by
      rw [← hD]
      exact tail M hp
    cases t with
    | tup xs =>
      obtain ⟨hl, n', rfl, hx⟩ := base_tup ht
      simp (decide := true) only [wS, wE, wEs, wO, wAnd, wOr, wCs, wSs_nil, lk, ob, onI, on1, on2, asB, isiop, tyOf, cmpop, iceL, D.dep, depL, plt, binop, catop, biop, inop, seqM, dctM, isTup, wTg, wTgs, onT, List.set, newL, newT, plnM, Bool.false_and, newD, wipeD, tgSlots, tgsSlots, List.append_nil, List.nil_append, List.cons_append, if_true, if_false, Bool.false_eq_true, reduceIte, Bool.not_true, Bool.not_false]
      by_cases h : (0 : Int) < xs.length
      · simp only [h, decide_true, if_true, show (0 : Int) < ((left + 1 : Nat) : Int) by omega, hc]
        refine drawF (k := k + left + 3) hd hp (by decide) (by decide) fun r M1 r0 r1 hp1 f1 => ?_
        simp only [wS, wE, wEs, wO, wAnd, wOr, wCs, wSs_nil, lk, ob, onI, on1, on2, asB, isiop, tyOf, cmpop, iceL, D.dep, depL, plt, binop, catop, biop, inop, seqM, dctM, isTup, wTg, wTgs, onT, List.set, newL, newT, plnM, Bool.false_and, newD, wipeD, tgSlots, tgsSlots, List.append_nil, List.nil_append, List.cons_append, if_true, if_false, Bool.false_eq_true, reduceIte, Bool.not_true, Bool.not_false]
        by_cases hr : 0 < r
        · simp only [hr, decide_true, if_true]
          rw [wSs_cons]
          generalize hD2 : ({ nx := _, rt := _, bk := _, ct := _, ex := _ } : Dee.Ends) = D2
          simp only [wS, wE, wEs, wO, wAnd, wOr, wCs, wSs_nil, lk, ob, onI, on1, on2, asB, isiop, tyOf, cmpop, iceL, D.dep, depL, plt, binop, catop, biop, inop, seqM, dctM, isTup, wTg, wTgs, onT, List.set, newL, newT, plnM, Bool.false_and, newD, wipeD, tgSlots, tgsSlots, List.append_nil, List.nil_append, List.cons_append, if_true, if_false, Bool.false_eq_true, reduceIte, Bool.not_true, Bool.not_false, hc]
          refine drawF (k := k + left + 3) hd hp1 (by omega) (by omega) fun z M2 z0 z1 hp2 f2 => ?_
          have hz : z.toNat < xs.length := by omega
          rw [← hD2]
          show wSs _ _ _ _ _
          rw [wSs_cons]
          generalize hD3 : ({ nx := _, rt := _, bk := _, ct := _, ex := _ } : Dee.Ends) = D3
          simp only [wS, wE, wEs, lk, ob, onI, binop, hc, sub_tup z0 (List.getElem?_eq_getElem hz)]
          rw [show (((left + 1 : Nat) : Int) - 1) = (left : Int) by omega]
          refine ih hp2 (hx _ (List.getElem_mem hz)) fun v M3 hv hp3 => ?_
          simp only [wTg, List.set]
          rw [← hD3]
          show wSs _ _ _ _ _
          rw [wSs_cons]
          simp (decide := true) only [wS, wE, wEs, wO, wAnd, wOr, wCs, wSs_nil, lk, ob, onI, on1, on2, asB, isiop, tyOf, cmpop, iceL, D.dep, depL, plt, binop, catop, biop, inop, seqM, dctM, isTup, wTg, wTgs, onT, List.set, newL, newT, plnM, Bool.false_and, newD, wipeD, tgSlots, tgsSlots, List.append_nil, List.nil_append, List.cons_append, if_true, if_false, Bool.false_eq_true, reduceIte, Bool.not_true, Bool.not_false]
          rw [wSs_cons]
          simp only [wS, wE, wEs, wO, wAnd, wOr, wCs, wSs_nil, lk, ob, onI, on1, on2, asB, isiop, tyOf, cmpop, iceL, D.dep, depL, plt, binop, catop, biop, inop, seqM, dctM, isTup, wTg, wTgs, onT, List.set, newL, newT, plnM, Bool.false_and, newD, wipeD, tgSlots, tgsSlots, List.append_nil, List.nil_append, List.cons_append, if_true, if_false, Bool.false_eq_true, reduceIte, Bool.not_true, Bool.not_false, slcop]
          have hz' : z = ((z.toNat : Nat) : Int) := by omega
          have e1 : cutL xs none (some z) = xs.take z.toNat := by
            rw [hz']
            exact cut_take (by omega)
          have l1 : (xs.take z.toNat).length = z.toNat := by rw [List.length_take]; omega
          have l2 : (cutL xs (some (z + 1)) none).length ≤ xs.length - (z.toNat + 1) := by
            have e2 : sIx xs.length 0 (some (z + 1)) = z.toNat + 1 := by
              unfold sIx
              dsimp only
              rw [if_neg (by omega)]
              omega
            unfold cutL
            rw [List.length_take, List.length_drop, e2]
            omega
          rw [e1]
          refine ⟨by rw [l1]; simp [line]; omega, by rw [List.length_append, l1]; simp [line]; omega, ?_⟩
          rw [← hD]
          refine hQ _ _ ?_ hp3
          show qv (B + 2) ((n' + 2) + 1) _
          unfold qv
          refine ⟨by rw [List.length_append, List.length_append, l1]; simp; omega, fun y hy => ?_⟩
          have hq8 : ∀ x ∈ xs, qv (B + 2) (n' + 2) x := fun x h => qv_up (by omega) (by omega) (base_qv (hx x h))
          rcases List.mem_append.mp hy with hy | hy
          · rcases List.mem_append.mp hy with hy | hy
            · exact hq8 y (List.mem_of_mem_take hy)
            · have : y = v := by simpa using hy
              subst this
              exact hv
          · exact hq8 y (mem_cut hy)
        · simp only [hr, decide_false, Bool.false_eq_true, if_false]
          exact tail' M1 hp1
      · simp only [h, decide_false, Bool.false_eq_true, if_false]
        exact tail' M hp
    | int j => simpa (decide := true) only [wS, wE, wEs, wO, wAnd, wOr, wCs, wSs_nil, lk, ob, onI, on1, on2, asB, isiop, tyOf, cmpop, iceL, D.dep, depL, plt, binop, catop, biop, inop, seqM, dctM, isTup, wTg, wTgs, onT, List.set, newL, newT, plnM, Bool.false_and, newD, wipeD, tgSlots, tgsSlots, List.append_nil, List.nil_append, List.cons_append, if_true, if_false, Bool.false_eq_true, reduceIte, Bool.not_true, Bool.not_false] using tail' M hp
    | str j => simpa (decide := true) only [wS, wE, wEs, wO, wAnd, wOr, wCs, wSs_nil, lk, ob, onI, on1, on2, asB, isiop, tyOf, cmpop, iceL, D.dep, depL, plt, binop, catop, biop, inop, seqM, dctM, isTup, wTg, wTgs, onT, List.set, newL, newT, plnM, Bool.false_and, newD, wipeD, tgSlots, tgsSlots, List.append_nil, List.nil_append, List.cons_append, if_true, if_false, Bool.false_eq_true, reduceIte, Bool.not_true, Bool.not_false] using tail' M hp
    | _ => unfold base at ht; exact ht.elim
theorem Sg.base {xs : List Dee.D} {most : Nat} (h : Sg xs most) (hm : most ≤ 8) : base 8 2 (.tup xs) := by
  unfold DL.base
  refine ⟨by have := h.top; omega, fun x hx => ?_⟩
  obtain ⟨s, j, rfl, hs, h1, h2⟩ := h.it x hx
  unfold DL.base
  refine ⟨by simp, fun y hy => ?_⟩
  simp only [List.mem_cons, List.not_mem_nil, or_false] at hy
  rcases hy with rfl | rfl
  · unfold DL.base
    have := hs.2.1
    omega
  · unfold DL.base
    exact ⟨h1, h2⟩
end DL

set_option linter.all false
set_option autoImplicit false
/-! Words of numbers that are terms: parts, arguments, depth (plain; no program). -/
namespace Tm
/-- how many terms are still wanted -/
def st : List Nat → Nat → Option Nat
  | [], o => some o
  | _ :: _, 0 => none
  | a :: w, o + 1 => st w (o + a)
/-- how many numbers till none is wanted -/
def len1 : List Nat → Nat → Nat
  | [], _ => 0
  | _ :: _, 0 => 0
  | a :: w, o + 1 => len1 w (o + a) + 1
theorem len1_zero (w : List Nat) : len1 w 0 = 0 := by cases w <;> rfl
theorem st_app : ∀ (u v : List Nat) (o : Nat), st (u ++ v) o = (st u o).bind (st v)
  | [], v, o => rfl
  | _ :: _, v, 0 => rfl
  | a :: u, v, o + 1 => by
    show st (u ++ v) (o + a) = _
    rw [st_app u v (o + a)]
    rfl
theorem st_nil {o : Nat} (h : st [] o = some 0) : o = 0 := by simpa [st] using h
theorem st_len1 : ∀ (w : List Nat) (o p : Nat), st w o = some 0 → p ≤ o → len1 w p ≤ w.length ∧ st (w.take (len1 w p)) p = some 0 ∧ st (w.drop (len1 w p)) (o - p) = some 0
  | [], o, p, h, hp => by
    have := st_nil h
    subst this
    have : p = 0 := by omega
    subst this
    exact ⟨Nat.le_refl _, rfl, rfl⟩
  | _ :: _, 0, p, h, hp => by cases h
  | a :: w, o + 1, 0, h, hp => by
    refine ⟨Nat.zero_le _, rfl, ?_⟩
    exact h
  | a :: w, o + 1, p + 1, h, hp => by
    obtain ⟨h1, h2, h3⟩ := st_len1 w (o + a) (p + a) h (by omega)
    refine ⟨by simp only [len1, List.length_cons]; omega, ?_, ?_⟩
    · show st (a :: w.take (len1 w (p + a))) (p + 1) = some 0
      exact h2
    · show st (w.drop (len1 w (p + a))) (o + 1 - (p + 1)) = some 0
      rw [show o + 1 - (p + 1) = o + a - (p + a) by omega]
      exact h3
/-- a suffix of a term -/
theorem st_drop : ∀ (w : List Nat) (o i : Nat), st w o = some 0 → i < w.length → ∃ q, 1 ≤ q ∧ st (w.drop i) q = some 0
  | [], _, _, _, hi => by simp at hi
  | _ :: _, 0, _, h, _ => by cases h
  | a :: w, o + 1, 0, h, _ => ⟨o + 1, by omega, h⟩
  | a :: w, o + 1, i + 1, h, hi => st_drop w (o + a) i h (by simpa using hi)
theorem len1_pos {w : List Nat} {o : Nat} (h : w ≠ []) : 1 ≤ len1 w (o + 1) := by
  cases w with
  | nil => exact absurd rfl h
  | cons a w => show 1 ≤ len1 w (o + a) + 1; omega
section
variable {α : Type} (ar : α → Nat)
/-- the first so many terms of a word -/
def given : Nat → List α → List (List α)
  | 0, _ => []
  | a + 1, v => v.take (len1 (v.map ar) 1) :: given a (v.drop (len1 (v.map ar) 1))
end
/-! ### depth -/
def mxs : Nat → List Nat → List Nat → Nat
  | 0, _, _ => 0
  | a + 1, v, l => max (l.headD 0) (mxs a (v.drop (len1 v 1)) (l.drop (len1 v 1)))
/-- the depths of what begins at each place -/
def lv : List Nat → List Nat
  | [] => []
  | a :: v => (mxs a v (lv v) + 1) :: lv v
theorem lv_len : ∀ w : List Nat, (lv w).length = w.length
  | [] => rfl
  | a :: v => by simp [lv, lv_len v]
theorem lv_drop : ∀ (w : List Nat) (m : Nat), (lv w).drop m = lv (w.drop m)
  | [], m => by simp [lv]
  | a :: v, 0 => rfl
  | a :: v, m + 1 => by simpa [lv] using lv_drop v m
/-- names that are opened and closed -/
def cls : List Nat → List Nat
  | [] => []
  | [0] => []
  | 0 :: t :: S => cls ((t - 1) :: S)
  | (x + 1) :: S => (x + 1) :: S
termination_by l => l.length
def trn : List Nat → List Nat
  | [] => []
  | [0] => []
  | 0 :: t :: S => (t - 1) :: S
  | (x + 1) :: S => (x + 1) :: S
def itn : Nat → List Nat → List Nat
  | 0, S => S
  | n + 1, S => itn n (trn S)
theorem itn_same (x : Nat) (S : List Nat) : ∀ n, itn n ((x + 1) :: S) = (x + 1) :: S
  | 0 => rfl
  | n + 1 => itn_same x S n
theorem itn_nil : ∀ n, itn n [] = []
  | 0 => rfl
  | n + 1 => itn_nil n
theorem itn_cls : ∀ (n : Nat) (S : List Nat), S.length ≤ n → itn n S = cls S
  | n, [], _ => by rw [itn_nil]; simp [cls]
  | 0, _ :: _, h => by simp at h
  | n + 1, [0], h => by
    show itn n [] = _
    rw [itn_nil]; simp [cls]
  | n + 1, 0 :: t :: S, h => by
    show itn n ((t - 1) :: S) = _
    rw [itn_cls n _ (by simpa using h)]
    simp [cls]
  | n + 1, (x + 1) :: S, h => by rw [itn_same]; simp [cls]
def ldp : List Nat → Nat → List Nat → Nat × List Nat
  | [], b, S => (b, S)
  | a :: w, b, S => ldp w (max b (S.length + 1)) (cls (a :: S))
theorem ldp_app : ∀ (u v : List Nat) (b : Nat) (S : List Nat), ldp (u ++ v) b S = ldp v (ldp u b S).1 (ldp u b S).2
  | [], _, _, _ => rfl
  | a :: u, v, b, S => ldp_app u v _ _
/-! ### forests -/
inductive Fo where
  | nil | cons (c r : Fo)
def Fo.cnt : Fo → Nat
  | .nil => 0
  | .cons _ r => r.cnt + 1
def Fo.flat : Fo → List Nat
  | .nil => []
  | .cons c r => c.cnt :: (c.flat ++ r.flat)
def Fo.dep : Fo → Nat
  | .nil => 0
  | .cons c r => max (c.dep + 1) r.dep
theorem st_flat : ∀ (f : Fo) (v : List Nat) (o : Nat), st (f.flat ++ v) (f.cnt + o) = st v o
  | .nil, v, o => by simp [Fo.flat, Fo.cnt]
  | .cons c r, v, o => by
    show st (c.cnt :: (c.flat ++ r.flat ++ v)) (r.cnt + 1 + o) = _
    rw [show r.cnt + 1 + o = (r.cnt + o) + 1 by omega]
    show st (c.flat ++ r.flat ++ v) (r.cnt + o + c.cnt) = _
    rw [List.append_assoc, Nat.add_comm (r.cnt + o) c.cnt, st_flat c, st_flat r]
theorem len1_flat : ∀ (f : Fo) (v : List Nat) (o : Nat), len1 (f.flat ++ v) (f.cnt + o) = f.flat.length + len1 v o
  | .nil, v, o => by simp [Fo.flat, Fo.cnt]
  | .cons c r, v, o => by
    show len1 (c.cnt :: (c.flat ++ r.flat ++ v)) (r.cnt + 1 + o) = _
    rw [show r.cnt + 1 + o = (r.cnt + o) + 1 by omega]
    show len1 (c.flat ++ r.flat ++ v) (r.cnt + o + c.cnt) + 1 = _
    rw [List.append_assoc, Nat.add_comm (r.cnt + o) c.cnt, len1_flat c, len1_flat r]
    simp only [Fo.flat, List.length_cons, List.length_append]
    omega
theorem split : ∀ (a b : Nat) (g : Fo), g.cnt = a + b → ∃ c r : Fo, c.cnt = a ∧ r.cnt = b ∧ g.flat = c.flat ++ r.flat
  | 0, b, g, h => ⟨.nil, g, rfl, by omega, rfl⟩
  | a + 1, b, .nil, h => by simp only [Fo.cnt] at h; omega
  | a + 1, b, .cons x y, h => by
    obtain ⟨c, r, h1, h2, h3⟩ := split a b y (by simp only [Fo.cnt] at h; omega)
    exact ⟨.cons x c, r, by simp only [Fo.cnt, h1], h2, by simp only [Fo.flat, h3, List.cons_append, List.append_assoc]⟩
theorem parse : ∀ (w : List Nat) (o : Nat), st w o = some 0 → ∃ f : Fo, f.cnt = o ∧ f.flat = w
  | [], o, h => ⟨.nil, (st_nil h).symm, rfl⟩
  | _ :: _, 0, h => by cases h
  | a :: w, o + 1, h => by
    obtain ⟨g, h1, h2⟩ := parse w (o + a) h
    obtain ⟨c, r, e1, e2, e3⟩ := split a o g (by omega)
    exact ⟨.cons c r, by simp only [Fo.cnt, e2], by simp only [Fo.flat, e1, ← e3, h2]⟩
theorem mxs_flat : ∀ (f : Fo) (v : List Nat), mxs f.cnt (f.flat ++ v) (lv (f.flat ++ v)) = f.dep
  | .nil, v => rfl
  | .cons c r, v => by
    have e : (Fo.cons c r).flat ++ v = c.cnt :: (c.flat ++ (r.flat ++ v)) := by simp [Fo.flat]
    have hm : len1 (c.cnt :: (c.flat ++ (r.flat ++ v))) 1 = c.flat.length + 1 := by
      show len1 (c.flat ++ (r.flat ++ v)) (0 + c.cnt) + 1 = _
      have := len1_flat c (r.flat ++ v) 0
      rw [len1_zero] at this
      rw [Nat.zero_add]
      simpa using this
    rw [e]
    show max ((lv (c.cnt :: (c.flat ++ (r.flat ++ v)))).headD 0) (mxs r.cnt ((c.cnt :: (c.flat ++ (r.flat ++ v))).drop (len1 (c.cnt :: (c.flat ++ (r.flat ++ v))) 1)) ((lv (c.cnt :: (c.flat ++ (r.flat ++ v)))).drop (len1 (c.cnt :: (c.flat ++ (r.flat ++ v))) 1))) = _
    rw [hm, lv_drop, List.drop_succ_cons, List.drop_left, mxs_flat r v]
    show max (mxs c.cnt (c.flat ++ (r.flat ++ v)) (lv (c.flat ++ (r.flat ++ v))) + 1) r.dep = _
    rw [mxs_flat c (r.flat ++ v)]
    rfl
theorem cnt_zero {f : Fo} (h : f.cnt = 0) : f = .nil := by
  cases f with
  | nil => rfl
  | cons c r => simp [Fo.cnt] at h
theorem ldp_flat : ∀ (f : Fo) (b t : Nat) (S : List Nat), f.cnt ≤ t → 0 < t → S.length + 1 ≤ b → ldp f.flat b (t :: S) = (max b (S.length + 1 + f.dep), cls ((t - f.cnt) :: S))
  | .nil, b, t, S, h, ht, hb => by
    have e : cls (t :: S) = t :: S := by
      match t, ht with
      | x + 1, _ => simp [cls]
    show (b, t :: S) = _
    simp only [Fo.cnt, Fo.dep, Nat.sub_zero, e, Nat.add_zero]
    rw [Nat.max_eq_left hb]
  | .cons c r, b, t, S, h, ht, hb => by
    simp only [Fo.cnt] at h
    have rest : ∀ b', S.length + 1 ≤ b' → ldp r.flat b' (cls ((t - 1) :: S)) = (max b' (S.length + 1 + r.dep), cls ((t - (r.cnt + 1)) :: S)) := fun b' hb' => by
      by_cases h1 : t - 1 = 0
      · have hr := cnt_zero (f := r) (by omega)
        subst hr
        simp only [Fo.cnt, Fo.dep, Nat.add_zero]
        rw [show t - (0 + 1) = t - 1 by omega]
        show (b', _) = _
        rw [Nat.max_eq_left hb']
      · have e : cls ((t - 1) :: S) = (t - 1) :: S := by
          obtain ⟨x, hx⟩ : ∃ x, t - 1 = x + 1 := ⟨t - 2, by omega⟩
          rw [hx]; simp [cls]
        rw [e, ldp_flat r b' (t - 1) S (by omega) (by omega) hb', show t - 1 - r.cnt = t - (r.cnt + 1) by omega]
    show ldp (c.flat ++ r.flat) (max b ((t :: S).length + 1)) (cls (c.cnt :: t :: S)) = _
    rw [ldp_app]
    simp only [List.length_cons, Fo.dep, Fo.cnt]
    by_cases h0 : c.cnt = 0
    · have hc := cnt_zero h0
      subst hc
      have e : cls ((Fo.nil).cnt :: t :: S) = cls ((t - 1) :: S) := by simp [Fo.cnt, cls]
      show ldp r.flat (max b (S.length + 1 + 1)) (cls ((Fo.nil).cnt :: t :: S)) = _
      rw [e, rest _ (by omega)]
      simp only [Fo.dep]
      congr 1
      omega
    · have e : cls (c.cnt :: t :: S) = c.cnt :: t :: S := by
        obtain ⟨x, hx⟩ : ∃ x, c.cnt = x + 1 := ⟨c.cnt - 1, by omega⟩
        rw [hx]; simp [cls]
      rw [e, ldp_flat c _ c.cnt (t :: S) (Nat.le_refl _) (by omega) (by simp only [List.length_cons]; omega)]
      dsimp only
      rw [Nat.sub_self, show cls (0 :: t :: S) = cls ((t - 1) :: S) by simp [cls], rest _ (by simp only [List.length_cons]; omega)]
      simp only [List.length_cons]
      congr 1
      omega
/-- both ways to the depth -/
theorem depth_eq {w : List Nat} (h : st w 1 = some 0) : (lv w).headD 0 = (ldp w 0 []).1 := by
  obtain ⟨f, h1, rfl⟩ := parse w 1 h
  match f, h1 with
  | .cons c r, h1 =>
    have hr := cnt_zero (f := r) (by simp only [Fo.cnt] at h1; omega)
    subst hr
    have e : (Fo.cons c .nil).flat = c.cnt :: c.flat := by simp [Fo.flat]
    rw [e]
    have e1 := mxs_flat c []
    rw [List.append_nil] at e1
    show mxs c.cnt c.flat (lv c.flat) + 1 = (ldp c.flat (max 0 (0 + 1)) (cls [c.cnt])).1
    rw [e1]
    by_cases h0 : c.cnt = 0
    · have hc := cnt_zero h0
      subst hc
      rfl
    · have e : cls [c.cnt] = [c.cnt] := by
        obtain ⟨x, hx⟩ : ∃ x, c.cnt = x + 1 := ⟨c.cnt - 1, by omega⟩
        rw [hx]; simp [cls]
      rw [e, ldp_flat c _ c.cnt [] (Nat.le_refl _) (by omega) (by simp)]
      simp only [List.length_nil]
      omega
end Tm

set_option Elab.async false
set_option linter.all false
set_option autoImplicit false
set_option maxRecDepth 100000
set_option maxHeartbeats 1000000
/-! Dee: terms: what they are, where their parts end. -/
namespace DL
open PySem Dee
/-- a while with a measure -/
theorem whlL_ind {test : Dee.Env → Mem → (Bool → Mem → Prop) → Prop} {turn : Dee.Env → Mem → (Dee.Env → Mem → Prop) → Prop} {Q : Dee.Env → Mem → Prop} (I : Nat → Dee.Env → Mem → Prop)
    (h : ∀ n σ M (R : Dee.Env → Mem → Prop), I n σ M → (∀ m σ' M', m < n → I m σ' M' → R σ' M') → test σ M (fun b M1 => if b then turn σ M1 R else Q σ M1)) : ∀ (N n : Nat) (σ : Dee.Env) (M : Mem), n < N → I n σ M → whlL test turn Q N σ M
  | 0, n, σ, M, hn, _ => absurd hn (Nat.not_lt_zero _)
  | N + 1, n, σ, M, hn, hi => h n σ M (fun σ2 M2 => whlL test turn Q N σ2 M2) hi fun m σ' M' hm hi' => whlL_ind I h N m σ' M' (by omega) hi'
/-! ### the arities as a dict -/
noncomputable def arO (kv : List (Dee.D × Dee.D)) (s : Str) : Option Nat := match look kv (.str s) with | some (.int j) => some j.toNat | _ => none
noncomputable def arN (kv : List (Dee.D × Dee.D)) (s : Str) : Nat := (arO kv s).getD 0
structure Known (kv : List (Dee.D × Dee.D)) : Prop where
  nat : ∀ s d, look kv (.str s) = some d → ∃ n : Nat, d = .int n ∧ n ≤ 3
theorem Known.at {kv : List (Dee.D × Dee.D)} (K : Known kv) {s : Str} (h : (arO kv s).isSome = true) : look kv (.str s) = some (.int (arN kv s)) ∧ arN kv s ≤ 3 := by
  cases e : look kv (.str s) with
  | none => unfold arO at h; rw [e] at h; cases h
  | some d =>
    obtain ⟨n, rfl, hn⟩ := K.nat s d e
    have e2 : arN kv s = n := by unfold arN arO; rw [e]; simp
    rw [e2]
    exact ⟨rfl, hn⟩
theorem Known.isSome {kv : List (Dee.D × Dee.D)} (K : Known kv) (s : Str) : (look kv (.str s)).isSome = (arO kv s).isSome := by
  cases e : look kv (.str s) with
  | none => unfold arO; rw [e]; rfl
  | some d =>
    obtain ⟨n, rfl, hn⟩ := K.nat s d e
    unfold arO; rw [e]; rfl
/-- all names are told -/
def Kn (kv : List (Dee.D × Dee.D)) (ts : List Str) : Prop := ∀ s ∈ ts, (arO kv s).isSome = true
abbrev tm (ts : List Str) : Dee.D := .tup (ts.map D.str)
noncomputable abbrev wd (kv : List (Dee.D × Dee.D)) (ts : List Str) : List Nat := ts.map (arN kv)
theorem sub_dct {kv : List (Dee.D × Dee.D)} {s : Str} {v : Dee.D} {M : Mem} {Q : Dee.D → Prop} (h : look kv (.str s) = some v) : subop (.dct false kv) (.str s) M Q = Q v := by
  unfold subop
  simp [dctM, isKey, h, ob]
theorem tm_get {ts : List Str} {i : Nat} (h : i < ts.length) : (ts.map D.str)[i]? = some (.str ts[i]) := by
  rw [List.getElem?_map, List.getElem?_eq_getElem h]
  rfl
theorem sub_tm {ts : List Str} {i : Nat} {M : Mem} {Q : Dee.D → Prop} (h : i < ts.length) : subop (tm ts) (.int (i : Int)) M Q = Q (.str ts[i]) := sub_tup (Int.natCast_nonneg i) (by rw [show ((i : Int)).toNat = i by omega]; exact tm_get h)
/-! ### where a part ends -/
def partFn : Fn := ⟨3, 5, [.asg (.nm 3) (.int 1), .asg (.nm 4) (.var 2), .whl (.cmp .gt (.var 3) (.int 0)) [.aug 3 .add (.bin .sub (.sub (.var 0) (.sub (.var 1) (.var 4))) (.int 1)), .aug 4 .add (.int 1)], .ret (.var 4)]⟩
theorem partEnd {P : Prog} {i k : Nat} (hi : P.fns[i]? = some partFn) {kv : List (Dee.D × Dee.D)} (K : Known kv) {ts : List Str} (hk : Kn kv ts) {a q : Nat} (hq : 1 ≤ q) (hs : Tm.st ((wd kv ts).drop a) q = some 0) {M : Mem} {Q : Dee.K} {E : Dee.KX}
    (hQ : Q (.int ((a + Tm.len1 ((wd kv ts).drop a) 1 : Nat) : Int)) M) : wCall P (k + 1) i [.dct false kv, tm ts, .int (a : Int)] M Q E := by
  rw [wCall_succ, hi]
  refine ⟨rfl, ?_⟩
  unfold partFn
  generalize semAt P k = F
  simp only [List.map, List.replicate, List.cons_append, List.nil_append, Nat.reduceSub]
  rw [wSs_cons]
  simp only [wS, wE, wEs, wO, wAnd, wOr, wCs, wSs_nil, lk, ob, onI, on1, on2, asB, isiop, tyOf, cmpop, iceL, D.dep, depL, plt, binop, catop, biop, inop, seqM, dctM, isTup, wTg, wTgs, onT, List.set, newL, newT, plnM, Bool.false_and, newD, wipeD, tgSlots, tgsSlots, List.append_nil, List.nil_append, List.cons_append, if_true, if_false, Bool.false_eq_true, reduceIte, Bool.not_true, Bool.not_false]
  rw [wSs_cons]
  simp only [wS, wE, wEs, wO, wAnd, wOr, wCs, wSs_nil, lk, ob, onI, on1, on2, asB, isiop, tyOf, cmpop, iceL, D.dep, depL, plt, binop, catop, biop, inop, seqM, dctM, isTup, wTg, wTgs, onT, List.set, newL, newT, plnM, Bool.false_and, newD, wipeD, tgSlots, tgsSlots, List.append_nil, List.nil_append, List.cons_append, if_true, if_false, Bool.false_eq_true, reduceIte, Bool.not_true, Bool.not_false]
  rw [wSs_cons]
  generalize hD : ({ nx := _, rt := _, bk := _, ct := _, ex := _ } : Dee.Ends) = D1
  simp only [wS]
  refine ⟨ts.length - a + 1, whlL_ind (fun n σ M' => M' = M ∧ ∃ (o b : Nat), σ = [some (.dct false kv), some (tm ts), some (.int (a : Int)), some (.int (o : Int)), some (.int (b : Int))] ∧ n = ts.length - b ∧ (∃ p, o ≤ p ∧ Tm.st ((wd kv ts).drop b) p = some 0) ∧ b + Tm.len1 ((wd kv ts).drop b) o = a + Tm.len1 ((wd kv ts).drop a) 1) ?_ _ (ts.length - a) _ _ (Nat.lt_succ_self _) ⟨rfl, 1, a, rfl, rfl, ⟨q, hq, hs⟩, rfl⟩⟩
  rintro n σ M' R ⟨rfl, o, b, rfl, rfl, ⟨p, hp, hst⟩, hg⟩ hR
  simp only [wS, wE, wEs, wO, wAnd, wOr, wCs, wSs_nil, lk, ob, onI, on1, on2, asB, isiop, tyOf, cmpop, iceL, D.dep, depL, plt, binop, catop, biop, inop, seqM, dctM, isTup, wTg, wTgs, onT, List.set, newL, newT, plnM, Bool.false_and, newD, wipeD, tgSlots, tgsSlots, List.append_nil, List.nil_append, List.cons_append, if_true, if_false, Bool.false_eq_true, reduceIte, Bool.not_true, Bool.not_false]
  by_cases h0 : o = 0
  · subst h0
    rw [if_neg (by simp)]
    rw [← hD]
    show wSs _ _ _ _ _
    rw [wSs_cons]
    simp only [wS, wE, wEs, wO, wAnd, wOr, wCs, wSs_nil, lk, ob, onI, on1, on2, asB, isiop, tyOf, cmpop, iceL, D.dep, depL, plt, binop, catop, biop, inop, seqM, dctM, isTup, wTg, wTgs, onT, List.set, newL, newT, plnM, Bool.false_and, newD, wipeD, tgSlots, tgsSlots, List.append_nil, List.nil_append, List.cons_append, if_true, if_false, Bool.false_eq_true, reduceIte, Bool.not_true, Bool.not_false]
    rw [Tm.len1_zero, Nat.add_zero] at hg
    rw [hg]
    exact hQ
  · rw [if_pos (by simp; omega)]
    have hb : b < ts.length := by
      by_cases z : b < ts.length
      · exact z
      · rw [List.drop_eq_nil_of_le (by simpa [wd] using z)] at hst
        have := Tm.st_nil hst
        omega
    obtain ⟨ha, _⟩ := K.at (hk _ (List.getElem_mem hb))
    have hd : (wd kv ts).drop b = arN kv ts[b] :: (wd kv ts).drop (b + 1) := by
      rw [List.drop_eq_getElem_cons (by simpa [wd] using hb)]
      simp [wd]
    rw [wSs_cons]
    simp only [wS, wE, lk, ob, sub_tm hb, sub_dct ha, binop, onI, augop, List.set]
    rw [wSs_cons]
    simp only [wS, wE, lk, ob, binop, onI, augop, List.set, wSs_nil]
    obtain ⟨o', rfl⟩ : ∃ o', o = o' + 1 := ⟨o - 1, by omega⟩
    obtain ⟨p', rfl⟩ : ∃ p', p = p' + 1 := ⟨p - 1, by omega⟩
    rw [hd] at hst hg
    refine hR (ts.length - (b + 1)) _ _ (by omega) ⟨rfl, o' + arN kv ts[b], b + 1, ?_, rfl, ⟨p' + arN kv ts[b], by omega, hst⟩, ?_⟩
    · have e1 : ((o' + 1 : Nat) : Int) + ((arN kv ts[b] : Int) - 1) = ((o' + arN kv ts[b] : Nat) : Int) := by omega
      rw [e1]
      rfl
    · rw [← hg]
      show b + 1 + Tm.len1 ((wd kv ts).drop (b + 1)) (o' + arN kv ts[b]) = b + (Tm.len1 ((wd kv ts).drop (b + 1)) (o' + arN kv ts[b]) + 1)
      omega
end DL

set_option Elab.async false
set_option linter.all false
set_option autoImplicit false
set_option maxRecDepth 100000
set_option maxHeartbeats 1000000
/-! Dee: terms: what they are. -/
namespace DL
open PySem Dee
def wholeFn : Fn := ⟨2, 4, [.asg (.nm 2) (.int 1), .for (.nm 3) .seq [.var 1] [.ifs (.cmp .eq (.var 2) (.int 0)) [.ret (.bl false)] [], .aug 2 .add (.bin .sub (.sub (.var 0) (.var 3)) (.int 1))], .ret (.cmp .eq (.var 2) (.int 0))]⟩
theorem nat_int_zero (o : Nat) : decide ((o : Int) = 0) = decide (o = 0) := by
  congr 1
  exact propext ⟨fun h => by omega, fun h => by omega⟩
theorem whole {P : Prog} {i k : Nat} (hi : P.fns[i]? = some wholeFn) {kv : List (Dee.D × Dee.D)} (K : Known kv) {ts : List Str} (hk : Kn kv ts) {M : Mem} {Q : Dee.K} {E : Dee.KX}
    (hQ : Q (.bl (decide (Tm.st (wd kv ts) 1 = some 0))) M) : wCall P (k + 1) i [.dct false kv, tm ts] M Q E := by
  rw [wCall_succ, hi]
  refine ⟨rfl, ?_⟩
  unfold wholeFn
  generalize semAt P k = F
  simp only [List.map, List.replicate, List.cons_append, List.nil_append, Nat.reduceSub]
  rw [wSs_cons]
  simp only [wS, wE, wEs, wO, wAnd, wOr, wCs, wSs_nil, lk, ob, onI, on1, on2, asB, isiop, tyOf, cmpop, iceL, D.dep, depL, plt, binop, catop, biop, inop, seqM, dctM, isTup, wTg, wTgs, onT, List.set, newL, newT, plnM, Bool.false_and, newD, wipeD, tgSlots, tgsSlots, List.append_nil, List.nil_append, List.cons_append, if_true, if_false, Bool.false_eq_true, reduceIte, Bool.not_true, Bool.not_false]
  rw [wSs_cons]
  generalize hD : ({ nx := _, rt := _, bk := _, ct := _, ex := _ } : Dee.Ends) = D1
  have hrt : D1.rt = Q := by rw [← hD]
  simp only [wS, wE, wEs, lk, ob, itop, on1, still_tup]
  have key : ∀ (us : List Str) (o : Nat) (x3 : Option Dee.D), Kn kv us → Q (.bl (decide (Tm.st (wd kv us) o = some 0))) M → forL (fun x σ M R => wTg (.nm 3) x σ fun σ1 => wSs F [.ifs (.cmp .eq (.var 2) (.int 0)) [.ret (.bl false)] [], .aug 2 .add (.bin .sub (.sub (.var 0) (.var 3)) (.int 1))] σ1 M { D1 with nx := R, ct := R, bk := D1.nx }) D1.nx (us.map D.str) [some (.dct false kv), some (tm ts), some (.int (o : Int)), x3] M := by
    intro us
    induction us with
    | nil =>
      intro o x3 _ hq
      show D1.nx _ M
      rw [← hD]
      show wSs _ _ _ _ _
      rw [wSs_cons]
      simp only [wS, wE, wEs, wO, wAnd, wOr, wCs, wSs_nil, lk, ob, onI, on1, on2, asB, isiop, tyOf, cmpop, iceL, D.dep, depL, plt, binop, catop, biop, inop, seqM, dctM, isTup, wTg, wTgs, onT, List.set, newL, newT, plnM, Bool.false_and, newD, wipeD, tgSlots, tgsSlots, List.append_nil, List.nil_append, List.cons_append, if_true, if_false, Bool.false_eq_true, reduceIte, Bool.not_true, Bool.not_false]
      refine ⟨by decide, ?_⟩
      rw [peq_int, nat_int_zero]
      simpa [Tm.st, wd] using hq
    | cons u us ih =>
      intro o x3 hku hq
      unfold List.map
      unfold forL
      obtain ⟨ha, _⟩ := K.at (hku u (by simp))
      simp only [wTg, List.set]
      rw [wSs_cons]
      simp only [wS, wE, wEs, wO, wAnd, wOr, wCs, wSs_nil, lk, ob, onI, on1, on2, asB, isiop, tyOf, cmpop, iceL, D.dep, depL, plt, binop, catop, biop, inop, seqM, dctM, isTup, wTg, wTgs, onT, List.set, newL, newT, plnM, Bool.false_and, newD, wipeD, tgSlots, tgsSlots, List.append_nil, List.nil_append, List.cons_append, if_true, if_false, Bool.false_eq_true, reduceIte, Bool.not_true, Bool.not_false]
      refine ⟨by decide, ?_⟩
      rw [peq_int, nat_int_zero]
      cases o with
      | zero =>
        simp only [decide_true, if_true]
        rw [wSs_cons]
        simp only [wS, wE, wEs, wO, wAnd, wOr, wCs, wSs_nil, lk, ob, onI, on1, on2, asB, isiop, tyOf, cmpop, iceL, D.dep, depL, plt, binop, catop, biop, inop, seqM, dctM, isTup, wTg, wTgs, onT, List.set, newL, newT, plnM, Bool.false_and, newD, wipeD, tgSlots, tgsSlots, List.append_nil, List.nil_append, List.cons_append, if_true, if_false, Bool.false_eq_true, reduceIte, Bool.not_true, Bool.not_false]
        rw [hrt]
        exact hq
      | succ o =>
        rw [show decide (o + 1 = 0) = false by simp]
        simp only [Bool.false_eq_true, if_false]
        rw [wSs_cons]
        simp only [wS, wE, lk, ob, sub_dct ha, binop, onI, augop, List.set, wSs_nil]
        have e1 : ((o + 1 : Nat) : Int) + ((arN kv u : Int) - 1) = ((o + arN kv u : Nat) : Int) := by omega
        rw [e1]
        exact ih (o + arN kv u) _ (fun s hs => hku s (by simp [hs])) hq
  exact key ts 1 none hk hQ
/-- a name that is told -/
noncomputable def inK (kv : List (Dee.D × Dee.D)) (d : Dee.D) : Bool := match d with | .str s => (arO kv s).isSome | _ => false
def strD (d : Dee.D) : Str := match d with | .str s => s | _ => ""
/-- a term -/
noncomputable def isTm (kv : List (Dee.D × Dee.D)) (d : Dee.D) : Bool := match d with
  | .tup xs => decide (1 ≤ xs.length) && decide (xs.length ≤ 30) && xs.all (inK kv) && decide (Tm.st (wd kv (xs.map strD)) 1 = some 0)
  | _ => false
theorem inK_ok {kv : List (Dee.D × Dee.D)} : ∀ {xs : List Dee.D}, xs.all (inK kv) = true → xs = (xs.map strD).map D.str ∧ Kn kv (xs.map strD)
  | [], _ => ⟨rfl, fun _ h => nomatch h⟩
  | x :: xs, h => by
    rw [List.all_cons, Bool.and_eq_true] at h
    obtain ⟨e1, e2⟩ := inK_ok h.2
    cases x with
    | str s =>
      refine ⟨?_, fun t ht => ?_⟩
      · show _ = D.str s :: (xs.map strD).map D.str
        rw [← e1]
      · rcases List.mem_cons.mp ht with rfl | ht
        · exact h.1
        · exact e2 t ht
    | _ => cases h.1
theorem isTm_ok {kv : List (Dee.D × Dee.D)} {d : Dee.D} (h : isTm kv d = true) : ∃ ts, d = tm ts ∧ 1 ≤ ts.length ∧ ts.length ≤ 30 ∧ Kn kv ts ∧ Tm.st (wd kv ts) 1 = some 0 := by
  cases d with
  | tup xs =>
    have h : (decide (1 ≤ xs.length) && decide (xs.length ≤ 30) && xs.all (inK kv) && decide (Tm.st (wd kv (xs.map strD)) 1 = some 0)) = true := h
    simp only [Bool.and_eq_true, decide_eq_true_eq] at h
    obtain ⟨⟨⟨h1, h2⟩, h3⟩, h4⟩ := h
    obtain ⟨e1, e2⟩ := inK_ok h3
    exact ⟨xs.map strD, by unfold tm; rw [← e1], by simpa using h1, by simpa using h2, e2, h4⟩
  | _ => cases h
theorem strD_map (ts : List Str) : (ts.map D.str).map strD = ts := by
  rw [List.map_map]
  conv => rhs; rw [← List.map_id ts]
  rfl
theorem isTm_tm {kv : List (Dee.D × Dee.D)} {ts : List Str} (h1 : 1 ≤ ts.length) (h2 : ts.length ≤ 30) (hk : Kn kv ts) (hs : Tm.st (wd kv ts) 1 = some 0) : isTm kv (tm ts) = true := by
  show (decide (1 ≤ (ts.map D.str).length) && decide ((ts.map D.str).length ≤ 30) && (ts.map D.str).all (inK kv) && decide (Tm.st (wd kv ((ts.map D.str).map strD)) 1 = some 0)) = true
  rw [strD_map, hs]
  simp only [List.length_map, List.all_map, Bool.and_eq_true, decide_eq_true_eq, List.all_eq_true, and_true]
  exact ⟨⟨h1, h2⟩, fun s hs => hk s hs⟩
def knownFn (w : Nat) : Fn := ⟨2, 3, [.ifs (.or [.not (.isi (.var 1) [.tuple]), .not (.chain .le .le (.int 1) (.bi .len false [.var 1]) (.glb "MOST_SIZE"))]) [.ret (.bl false)] [], .ifs (.not (.bi .all false [.comp false (.and [.isi (.var 2) [.str], .cmp .isin (.var 2) (.var 0)]) (.nm 2) .seq [.var 1] []])) [.ret (.bl false)] [], .ret (.call w [.var 0, .var 1])]⟩
theorem in_dct {kv : List (Dee.D × Dee.D)} {s : Str} {M : Mem} {Q : Bool → Prop} (h : Q (look kv (.str s)).isSome) : inop (.str s) (.dct false kv) M Q := ⟨rfl, h⟩
/-- isinstance(x, str) -/
def isStrD (d : Dee.D) : Bool := match d with | .str _ => true | _ => false
theorem isi_str {d : Dee.D} {M : Mem} {Q : Bool → Prop} (hd : tyd d = true) (h : Q (isStrD d)) : isiop [.str] M d Q := by
  cases d with
  | dct t b => cases t with
    | false => exact h
    | true => cases hd
  | ref _ => cases hd
  | obj _ _ => cases hd
  | clo _ _ => cases hd
  | _ => exact h
theorem isi_tup {d : Dee.D} {M : Mem} {Q : Bool → Prop} (hd : tyd d = true) (h : Q (isTup d)) : isiop [.tuple] M d Q := by
  cases d with
  | dct t b => cases t with
    | false => exact h
    | true => cases hd
  | ref _ => cases hd
  | obj _ _ => cases hd
  | clo _ _ => cases hd
  | _ => exact h
theorem knownT {P : Prog} {i k w : Nat} (hi : P.fns[i]? = some (knownFn w)) (hw : P.fns[w]? = some wholeFn) (g : P.glo "MOST_SIZE" = some (.int 30)) {kv : List (Dee.D × Dee.D)} (K : Known kv) {L N : Nat} {d : Dee.D} (hd : pv L N d) {M : Mem} {Q : Dee.K} {E : Dee.KX}
    (hQ : Q (.bl (isTm kv d)) M) : wCall P (k + 2) i [.dct false kv, d] M Q E := by
  rw [wCall_succ, hi]
  refine ⟨rfl, ?_⟩
  unfold knownFn
  have hg : (semAt P (k + 1)).glo "MOST_SIZE" = some (.int 30) := g
  have hc : (semAt P (k + 1)).call = wCall P (k + 1) := rfl
  generalize semAt P (k + 1) = F at hc hg
  simp only [List.map, List.replicate, List.cons_append, List.nil_append, Nat.reduceSub]
  rw [wSs_cons]
  simp only [wS, wE, wOr, lk, ob]
  refine isi_tup (pv_tyd hd) ?_
  simp only [asB]
  cases d with
  | tup xs =>
    obtain ⟨_, m, rfl, hm⟩ := pv_tup hd
    simp only [isTup, Bool.not_true, Bool.false_eq_true, if_false, wE, wEs, lk, ob, hg]
    simp only [wS, wE, wEs, wO, wAnd, wOr, wCs, wSs_nil, lk, ob, onI, on1, on2, asB, isiop, tyOf, cmpop, iceL, D.dep, depL, plt, binop, catop, biop, inop, seqM, dctM, isTup, wTg, wTgs, onT, List.set, newL, newT, plnM, Bool.false_and, newD, wipeD, tgSlots, tgsSlots, List.append_nil, List.nil_append, List.cons_append, if_true, if_false, Bool.false_eq_true, reduceIte, Bool.not_true, Bool.not_false]
    have out : ∀ b, (decide ((1 : Int) ≤ xs.length) && decide ((xs.length : Int) ≤ 30)) = b → isTm kv (.tup xs) = (b && (xs.all (inK kv) && decide (Tm.st (wd kv (xs.map strD)) 1 = some 0))) := fun b hb => by
      show (decide (1 ≤ xs.length) && decide (xs.length ≤ 30) && xs.all (inK kv) && decide (Tm.st (wd kv (xs.map strD)) 1 = some 0)) = _
      rw [← hb, show decide ((1 : Int) ≤ xs.length) = decide (1 ≤ xs.length) by congr 1; exact propext ⟨fun h => by omega, fun h => by omega⟩, show decide ((xs.length : Int) ≤ 30) = decide (xs.length ≤ 30) by congr 1; exact propext ⟨fun h => by omega, fun h => by omega⟩]
      simp only [Bool.and_assoc]
    have rest : isTm kv (.tup xs) = (xs.all (inK kv) && decide (Tm.st (wd kv (xs.map strD)) 1 = some 0)) → wSs F [.ifs (.not (.bi .all false [.comp false (.and [.isi (.var 2) [.str], .cmp .isin (.var 2) (.var 0)]) (.nm 2) .seq [.var 1] []])) [.ret (.bl false)] [], .ret (.call w [.var 0, .var 1])] [some (.dct false kv), some (.tup xs), none] M ⟨fun _ M => Q .non M, Q, fun _ _ => False, fun _ _ => False, fun e _ M => E e M⟩ := fun he => by
      rw [wSs_cons]
      simp only [wS, wE, wEs, lk, ob, itop, on1, still_tup]
      refine lcL_map (fun x => .bl (inK kv x)) (fun x hx R hR => ?_) ?_
      · simp only [wTg, wipeD, tgSlots, List.set, wCs, if_true, wE, wAnd, lk, ob]
        refine isi_str (pv_tyd (hm x hx)) ?_
        cases x with
        | str s =>
          simp only [isStrD, asB, if_true, cmpop]
          refine in_dct (M := M) ?_
          rw [K.isSome]
          exact hR
        | _ => simpa only [isStrD, asB, Bool.false_eq_true, if_false, inK] using hR
      · simp only [wS, wE, wEs, wO, wAnd, wOr, wCs, wSs_nil, lk, ob, onI, on1, on2, asB, isiop, tyOf, cmpop, iceL, D.dep, depL, plt, binop, catop, biop, inop, seqM, dctM, isTup, wTg, wTgs, onT, List.set, newL, newT, plnM, Bool.false_and, newD, wipeD, tgSlots, tgsSlots, List.append_nil, List.nil_append, List.cons_append, if_true, if_false, Bool.false_eq_true, reduceIte, Bool.not_true, Bool.not_false, lsB, List.nil_append, dBools_map, List.all_map]
        refine ⟨trivial, ?_⟩
        have e0 : xs.all (id ∘ inK kv) = xs.all (inK kv) := rfl
        rw [e0]
        cases ea : xs.all (inK kv) with
        | false =>
          simp only [Bool.not_false, if_true]
          rw [wSs_cons]
          simp only [wS, wE, wEs, wO, wAnd, wOr, wCs, wSs_nil, lk, ob, onI, on1, on2, asB, isiop, tyOf, cmpop, iceL, D.dep, depL, plt, binop, catop, biop, inop, seqM, dctM, isTup, wTg, wTgs, onT, List.set, newL, newT, plnM, Bool.false_and, newD, wipeD, tgSlots, tgsSlots, List.append_nil, List.nil_append, List.cons_append, if_true, if_false, Bool.false_eq_true, reduceIte, Bool.not_true, Bool.not_false]
          rw [he, ea] at hQ
          exact hQ
        | true =>
          simp only [Bool.not_true, Bool.false_eq_true, if_false]
          rw [wSs_cons]
          simp only [wS, wE, wEs, wO, wAnd, wOr, wCs, wSs_nil, lk, ob, onI, on1, on2, asB, isiop, tyOf, cmpop, iceL, D.dep, depL, plt, binop, catop, biop, inop, seqM, dctM, isTup, wTg, wTgs, onT, List.set, newL, newT, plnM, Bool.false_and, newD, wipeD, tgSlots, tgsSlots, List.append_nil, List.nil_append, List.cons_append, if_true, if_false, Bool.false_eq_true, reduceIte, Bool.not_true, Bool.not_false, hc]
          obtain ⟨e1, e2⟩ := inK_ok ea
          have ex : D.tup xs = tm (xs.map strD) := by unfold tm; rw [← e1]
          rw [ex]
          refine whole hw K e2 ?_
          rw [he, ea] at hQ
          exact hQ
    by_cases h1 : (1 : Int) ≤ xs.length
    · simp only [h1, decide_true, if_true]
      by_cases h2 : (xs.length : Int) ≤ 30
      · simp only [h2, decide_true, Bool.not_true, Bool.false_eq_true, if_false]
        exact rest (by rw [out true (by simp [h1, h2])]; rfl)
      · simp only [h2, decide_false, Bool.not_false, if_true]
        rw [wSs_cons]
        simp only [wS, wE, wEs, wO, wAnd, wOr, wCs, wSs_nil, lk, ob, onI, on1, on2, asB, isiop, tyOf, cmpop, iceL, D.dep, depL, plt, binop, catop, biop, inop, seqM, dctM, isTup, wTg, wTgs, onT, List.set, newL, newT, plnM, Bool.false_and, newD, wipeD, tgSlots, tgsSlots, List.append_nil, List.nil_append, List.cons_append, if_true, if_false, Bool.false_eq_true, reduceIte, Bool.not_true, Bool.not_false]
        rw [out false (by simp [h1, h2])] at hQ
        exact hQ
    · simp only [h1, decide_false, Bool.false_eq_true, if_false, Bool.not_false, if_true]
      rw [wSs_cons]
      simp only [wS, wE, wEs, wO, wAnd, wOr, wCs, wSs_nil, lk, ob, onI, on1, on2, asB, isiop, tyOf, cmpop, iceL, D.dep, depL, plt, binop, catop, biop, inop, seqM, dctM, isTup, wTg, wTgs, onT, List.set, newL, newT, plnM, Bool.false_and, newD, wipeD, tgSlots, tgsSlots, List.append_nil, List.nil_append, List.cons_append, if_true, if_false, Bool.false_eq_true, reduceIte, Bool.not_true, Bool.not_false]
      rw [out false (by simp [h1])] at hQ
      exact hQ
  | _ =>
    simp only [isTup, Bool.not_false, if_true]
    rw [wSs_cons]
    simp only [wS, wE, wEs, wO, wAnd, wOr, wCs, wSs_nil, lk, ob, onI, on1, on2, asB, isiop, tyOf, cmpop, iceL, D.dep, depL, plt, binop, catop, biop, inop, seqM, dctM, isTup, wTg, wTgs, onT, List.set, newL, newT, plnM, Bool.false_and, newD, wipeD, tgSlots, tgsSlots, List.append_nil, List.nil_append, List.cons_append, if_true, if_false, Bool.false_eq_true, reduceIte, Bool.not_true, Bool.not_false]
    exact hQ
end DL

set_option Elab.async false
set_option linter.all false
set_option autoImplicit false
set_option maxRecDepth 100000
set_option maxHeartbeats 1000000
/-! Dee: terms: their arguments and parts. -/
namespace DL
open PySem Dee
noncomputable abbrev kvOf (xs : List Dee.D) : List (Dee.D × Dee.D) := putAll [] (pairsOf xs)
theorem known_signs {xs : List Dee.D} (h : isSigns (.tup xs) = true) : Known (kvOf xs) := ⟨fun s d hd => by
  by_cases hx : ∃ x ∈ xs, fst0 x = .str s
  · obtain ⟨x, hx, e⟩ := hx
    obtain ⟨_, _, ha, _⟩ := isSigns_ok h
    obtain ⟨u, j, rfl, _, _, h0, h3⟩ := isSign_ok (List.all_eq_true.mp ha x hx)
    cases e
    rw [look_sign h hx] at hd
    cases hd
    exact ⟨j.toNat, by congr 1; omega, by omega⟩
  · rw [look_nosign fun x hx' e => hx ⟨x, hx', e⟩] at hd
    cases hd⟩
theorem arO_sign {xs : List Dee.D} (h : isSigns (.tup xs) = true) {s : Str} {j : Int} (hx : .tup [.str s, .int j] ∈ xs) : arO (kvOf xs) s = some j.toNat := by
  unfold arO
  rw [look_sign h hx]
theorem arO_mem {xs : List Dee.D} (h : isSigns (.tup xs) = true) {s : Str} (hs : (arO (kvOf xs) s).isSome = true) : ∃ j : Int, .tup [.str s, .int j] ∈ xs ∧ arN (kvOf xs) s = j.toNat ∧ 0 ≤ j ∧ j ≤ 3 := by
  by_cases hx : ∃ x ∈ xs, fst0 x = .str s
  · obtain ⟨x, hx, e⟩ := hx
    obtain ⟨_, _, ha, _⟩ := isSigns_ok h
    obtain ⟨u, j, rfl, _, _, h0, h3⟩ := isSign_ok (List.all_eq_true.mp ha x hx)
    cases e
    exact ⟨j, hx, by unfold arN; rw [arO_sign h hx]; rfl, h0, h3⟩
  · unfold arO at hs
    rw [look_nosign fun x hx' e => hx ⟨x, hx', e⟩] at hs
    cases hs
/-! ### slices -/
theorem cut_mid {α : Type} {xs : List α} {b e : Nat} (h1 : b ≤ xs.length) (h2 : e ≤ xs.length) : cutL xs (some (b : Int)) (some (e : Int)) = (xs.drop b).take (e - b) := by
  unfold cutL sIx
  dsimp only
  rw [if_neg (by omega), if_neg (by omega), Int.toNat_natCast, Int.toNat_natCast, Nat.min_eq_left h1, Nat.min_eq_left h2]
theorem cut_from {α : Type} {xs : List α} {b : Nat} (h1 : b ≤ xs.length) : cutL xs (some (b : Int)) none = xs.drop b := by
  unfold cutL sIx
  dsimp only
  rw [if_neg (by omega), Int.toNat_natCast, Nat.min_eq_left h1, List.take_of_length_le (by rw [List.length_drop]; exact Nat.le_refl _)]
theorem cut_tm {ts : List Str} {b m : Nat} (h : b + m ≤ ts.length) : cutL (ts.map D.str) (some (b : Int)) (some ((b + m : Nat) : Int)) = ((ts.drop b).take m).map D.str := by
  rw [cut_mid (by rw [List.length_map]; omega) (by rw [List.length_map]; omega), List.map_take, List.map_drop, show b + m - b = m by omega]
theorem del_back {M M' : Mem} {a : Nat} (h : M a = none) (h' : ∀ b, b ≠ a → M' b = M b) : Dee.del M' a = M := by
  funext b
  unfold Dee.del
  by_cases e : b = a
  · rw [if_pos e, e, h]
  · rw [if_neg e, h' b e]
/-- the word of a suffix -/
theorem wd_drop (kv : List (Dee.D × Dee.D)) (ts : List Str) (b : Nat) : (wd kv ts).drop b = wd kv (ts.drop b) := by unfold wd; rw [List.map_drop]
theorem drop_pos {kv : List (Dee.D × Dee.D)} {ts : List Str} {b c : Nat} (hb : b < ts.length) (h : Tm.st ((wd kv ts).drop b) c = some 0) : 1 ≤ c := by
  cases c with
  | zero =>
    rw [List.drop_eq_getElem_cons (by simpa [wd] using hb)] at h
    cases h
  | succ c => omega
def PartAt (P : Prog) (i k : Nat) : Prop := ∀ {kv : List (Dee.D × Dee.D)} (_ : Known kv) {ts : List Str} (_ : Kn kv ts) {a q : Nat} (_ : 1 ≤ q) (_ : Tm.st ((wd kv ts).drop a) q = some 0) {M : Mem} {Q : Dee.K} {E : Dee.KX},
    Q (.int ((a + Tm.len1 ((wd kv ts).drop a) 1 : Nat) : Int)) M → wCall P k i [.dct false kv, tm ts, .int (a : Int)] M Q E
theorem append_at {M : Mem} {a : Nat} {xs : List Dee.D} {d : Dee.D} {Q : Dee.K} (h : M a = some (.lst xs)) (hl : xs.length < line) (hQ : Q .non (up M a (.lst (xs ++ [d])))) : mthop .append (.ref a) [d] M Q := app_str M h hl hQ
theorem given_len {α : Type} (ar : α → Nat) : ∀ (a : Nat) (v : List α), (Tm.given ar a v).length = a
  | 0, _ => rfl
  | a + 1, v => by simp only [Tm.given, List.length_cons, given_len ar a]
def givenFn (pe : Nat) : Fn := ⟨2, 5, [.asg (.nm 2) (.lst true []), .asg (.nm 3) (.int 1), .whl (.cmp .lt (.var 3) (.bi .len false [.var 1])) [.asg (.nm 4) (.call pe [.var 0, .var 1, .var 3]), .expr (.mth .append (.var 2) [.slc (.var 1) (some (.var 3)) (some (.var 4))]), .asg (.nm 3) (.var 4)], .frz 2, .ret (.var 2)]⟩
theorem givenTo {P : Prog} {i k pe : Nat} (hi : P.fns[i]? = some (givenFn pe)) (hp : PartAt P pe k) {kv : List (Dee.D × Dee.D)} (K : Known kv) {t : Str} {ts : List Str} (hk : Kn kv (t :: ts)) (hl : ts.length ≤ 1000) (hs : Tm.st (wd kv (t :: ts)) 1 = some 0) {M : Mem} {Q : Dee.K} {E : Dee.KX}
    (hQ : Q (.lst ((Tm.given (arN kv) (arN kv t) ts).map tm)) M) : wCall P (k + 1) i [.dct false kv, tm (t :: ts)] M Q E := by
  rw [wCall_succ, hi]
  refine ⟨rfl, ?_⟩
  unfold givenFn
  have hc : (semAt P k).call = wCall P k := rfl
  generalize semAt P k = F at hc
  simp only [List.map, List.replicate, List.cons_append, List.nil_append, Nat.reduceSub]
  rw [wSs_cons]
  generalize hD : ({ nx := _, rt := _, bk := _, ct := _, ex := _ } : Dee.Ends) = D1
  simp only [wS, wE, wEs, newL, if_true]
  intro a ha
  simp only [wTg, List.set]
  rw [← hD]
  show wSs _ _ _ _ _
  rw [wSs_cons]
  simp only [wS, wE, wTg, List.set]
  rw [wSs_cons]
  generalize hD2 : ({ nx := _, rt := _, bk := _, ct := _, ex := _ } : Dee.Ends) = D2
  simp only [wS]
  generalize hT : t :: ts = us at hk hs
  have hul : us.length ≤ 1001 ∧ 1 ≤ us.length := by rw [← hT]; constructor <;> simp <;> omega
  have hdep : depL (us.map D.str) ≤ 1 := by rw [dep_strs]; omega
  refine ⟨us.length + 1, whlL_ind (fun n σ M' => ∃ (c b : Nat) (acc : List (List Str)) (x4 : Option Dee.D), σ = [some (.dct false kv), some (tm us), some (.ref a), some (.int (b : Int)), x4] ∧ M' a = some (.lst (acc.map tm)) ∧ (∀ z, z ≠ a → M' z = M z) ∧ acc ++ Tm.given (arN kv) c (us.drop b) = Tm.given (arN kv) (arN kv t) ts ∧ Tm.st ((wd kv us).drop b) c = some 0 ∧ n = us.length - b) ?_ _ (us.length - 1) _ _ (by omega) ⟨arN kv t, 1, [], none, rfl, up_at, fun z hz => up_of_ne hz, by rw [← hT]; rfl, by rw [← hT]; rw [← hT] at hs; simpa [Tm.st, wd] using hs, by omega⟩⟩
  rintro n σ M' R ⟨c, b, acc, x4, rfl, hM, hoff, hg, hst, rfl⟩ hR
  simp only [wS, wE, wEs, wO, wAnd, wOr, wCs, wSs_nil, lk, ob, onI, on1, on2, asB, isiop, tyOf, cmpop, iceL, D.dep, depL, plt, binop, catop, biop, inop, seqM, dctM, isTup, wTg, wTgs, onT, List.set, newL, newT, plnM, Bool.false_and, newD, wipeD, tgSlots, tgsSlots, List.append_nil, List.nil_append, List.cons_append, if_true, if_false, Bool.false_eq_true, reduceIte, Bool.not_true, Bool.not_false, List.length_map]
  by_cases hb : b < us.length
  · have hc1 := drop_pos hb hst
    obtain ⟨c, rfl⟩ : ∃ c', c = c' + 1 := ⟨c - 1, by omega⟩
    obtain ⟨l1, l2, l3⟩ := Tm.st_len1 _ _ 1 hst hc1
    have hlp := Tm.len1_pos (w := (wd kv us).drop b) (o := 0) (by
      intro z
      have := congrArg List.length z
      simp [wd] at this
      omega)
    have lw : ((wd kv us).drop b).length = us.length - b := by simp [wd]
    have hacc : acc.length ≤ arN kv t := by
      have := congrArg List.length hg
      rw [List.length_append, given_len, given_len] at this
      omega
    have h3 := (K.at (hk t (by rw [← hT]; simp))).2
    rw [if_pos (by simp; omega)]
    refine ⟨⟨by decide, by decide⟩, ?_⟩
    rw [wSs_cons]
    generalize hD3 : ({ nx := _, rt := _, bk := _, ct := _, ex := _ } : Dee.Ends) = D3
    simp only [wS, wE, wEs, lk, ob, hc]
    refine hp K hk hc1 hst ?_
    simp only [wTg, List.set]
    rw [← hD3]
    show wSs _ _ _ _ _
    generalize hm : Tm.len1 ((wd kv us).drop b) 1 = m at l1 l2 l3 hlp
    rw [wSs_cons]
    simp only [wS, wE, wEs, wO, lk, ob, onI, mtIs, isTup, seq_at hM, Option.isSome_some, true_and, slcop]
    rw [cut_tm (by omega)]
    refine append_at hM (by rw [List.length_map]; unfold line; omega) ?_
    rw [wSs_cons]
    simp only [wS, wE, lk, ob, wTg, List.set, wSs_nil]
    refine hR (us.length - (b + m)) _ _ (by omega) ⟨c, b + m, acc ++ [(us.drop b).take m], _, rfl, by rw [up_at, List.map_append]; rfl, fun z hz => by rw [up_of_ne hz]; exact hoff z hz, ?_, ?_, rfl⟩
    · rw [← hg, List.append_assoc]
      show acc ++ ([(us.drop b).take m] ++ Tm.given (arN kv) c (us.drop (b + m))) = acc ++ ((us.drop b).take (Tm.len1 ((us.drop b).map (arN kv)) 1) :: Tm.given (arN kv) c ((us.drop b).drop (Tm.len1 ((us.drop b).map (arN kv)) 1)))
      have : Tm.len1 ((us.drop b).map (arN kv)) 1 = m := by rw [← hm, wd_drop]
      rw [this, List.drop_drop]
      rfl
    · rw [List.drop_drop] at l3
      simpa using l3
  · rw [if_neg (by simp; omega)]
    refine ⟨⟨by decide, by decide⟩, ?_⟩
    have hz : (wd kv us).drop b = [] := List.drop_eq_nil_of_le (by simp [wd]; omega)
    rw [hz] at hst
    have := Tm.st_nil hst
    subst this
    rw [← hD2]
    show wSs _ _ _ _ _
    rw [wSs_cons]
    simp only [wS, lk, ob, onR, hM, iceOk, true_and, MO.ice, List.set]
    rw [del_back ha hoff, wSs_cons]
    simp only [wS, wE, lk, ob]
    have hg : acc ++ [] = Tm.given (arN kv) (arN kv t) ts := hg
    rw [List.append_nil] at hg
    rw [hg]
    exact hQ
end DL

set_option Elab.async false
set_option linter.all false
set_option autoImplicit false
set_option maxRecDepth 100000
set_option maxHeartbeats 1000000
/-! Dee: terms: parts at places. -/
namespace DL
open PySem Dee
theorem Sg.up {xs : List Dee.D} {m n : Nat} (h : Sg xs m) (hn : m ≤ n) : Sg xs n := ⟨h.two, Nat.le_trans h.top hn, h.it, h.nd, h.zero⟩
def TmAt (P : Prog) (w k : Nat) : Prop := ∀ {kv : List (Dee.D × Dee.D)} (_ : Known kv) {L N : Nat} {d : Dee.D} {M : Mem} {Q : Dee.K} {E : Dee.KX}, pv L N d → Q (.bl (isTm kv d)) M → wCall P k w [.dct false kv, d] M Q E
def ArAt (P : Prog) (w k : Nat) : Prop := ∀ {xs : List Dee.D} (_ : Sg xs 8) {M : Mem} {Q : Dee.K} {E : Dee.KX}, Q (.dct false (kvOf xs)) M → wCall P k w [.tup xs] M Q E
def NeedAt (P : Prog) (w k : Nat) : Prop := ∀ {kv : List (Dee.D × Dee.D)} (_ : Known kv) {L N : Nat} {d : Dee.D} {M : Mem} {Q : Dee.K} {E : Dee.KX}, pv L N d → (isTm kv d = true → Q .non M) → (isTm kv d = false → E ⟨"NoTerm", []⟩ M) → wCall P k w [.dct false kv, d] M Q E
def GivenAt (P : Prog) (w k : Nat) : Prop := ∀ {kv : List (Dee.D × Dee.D)} (_ : Known kv) {t : Str} {ts : List Str} (_ : Kn kv (t :: ts)) (_ : ts.length ≤ 1000) (_ : Tm.st (wd kv (t :: ts)) 1 = some 0) {M : Mem} {Q : Dee.K} {E : Dee.KX}, Q (.lst ((Tm.given (arN kv) (arN kv t) ts).map tm)) M → wCall P k w [.dct false kv, tm (t :: ts)] M Q E
def isTermFn (w a : Nat) : Fn := ⟨2, 2, [.ret (.call w [.call a [.var 0], .var 1])]⟩
theorem isTerm {P : Prog} {i k w a : Nat} (hi : P.fns[i]? = some (isTermFn w a)) (hw : TmAt P w k) (ha : ArAt P a k) {xs : List Dee.D} (S : Sg xs 8) {L N : Nat} {d : Dee.D} (hd : pv L N d) {M : Mem} {Q : Dee.K} {E : Dee.KX} (hQ : Q (.bl (isTm (kvOf xs) d)) M) : wCall P (k + 1) i [.tup xs, d] M Q E := by
  rw [wCall_succ, hi]
  refine ⟨rfl, ?_⟩
  unfold isTermFn
  have hc : (semAt P k).call = wCall P k := rfl
  generalize semAt P k = F at hc
  simp only [List.map, List.replicate, List.cons_append, List.nil_append, Nat.reduceSub]
  rw [wSs_cons]
  simp only [wS, wE, wEs, lk, ob, hc]
  refine ha S ?_
  refine hw (known_signs (S.signs (by decide))) hd ?_
  exact hQ
def needFn (w : Nat) : Fn := ⟨2, 2, [.ifs (.not (.call w [.var 0, .var 1])) [.raise "NoTerm" []] []]⟩
theorem need {P : Prog} {i k w : Nat} (hi : P.fns[i]? = some (needFn w)) (hw : TmAt P w k) (hx : P.xf "NoTerm" = some []) : NeedAt P i (k + 1) := by
  intro kv K L N d M Q E hd h1 h0
  rw [wCall_succ, hi]
  refine ⟨rfl, ?_⟩
  unfold needFn
  have hc : (semAt P k).call = wCall P k := rfl
  have hx' : (semAt P k).xf "NoTerm" = some [] := hx
  generalize semAt P k = F at hc hx'
  simp only [List.map, List.replicate, List.cons_append, List.nil_append, Nat.reduceSub]
  rw [wSs_cons]
  simp only [wS, wE, wEs, lk, ob, hc]
  refine hw K hd ?_
  cases e : isTm kv d with
  | true =>
    simp only [asB, Bool.not_true, Bool.false_eq_true, if_false, wSs_nil]
    exact h1 e
  | false =>
    simp only [asB, Bool.not_false, if_true]
    rw [wSs_cons]
    simp only [wS, hx', ob, wEs, List.length_nil, List.zip_nil_left, true_and]
    exact h0 e
def argFn (a n g : Nat) : Fn := ⟨2, 3, [.asg (.nm 2) (.call a [.var 0]), .expr (.call n [.var 2, .var 1]), .ret (.bi .tuple false [.call g [.var 2, .var 1]])]⟩
theorem arguments {P : Prog} {i k a n g : Nat} (hi : P.fns[i]? = some (argFn a n g)) (ha : ArAt P a k) (hn : NeedAt P n k) (hg : GivenAt P g k) {xs : List Dee.D} (S : Sg xs 8) {L N : Nat} {d : Dee.D} (hd : pv L N d) {M : Mem} {Q : Dee.K} {E : Dee.KX}
    (h1 : ∀ t ts, d = tm (t :: ts) → isTm (kvOf xs) d = true → Q (.tup ((Tm.given (arN (kvOf xs)) (arN (kvOf xs) t) ts).map tm)) M) (h0 : isTm (kvOf xs) d = false → E ⟨"NoTerm", []⟩ M) : wCall P (k + 1) i [.tup xs, d] M Q E := by
  rw [wCall_succ, hi]
  refine ⟨rfl, ?_⟩
  unfold argFn
  have hc : (semAt P k).call = wCall P k := rfl
  generalize semAt P k = F at hc
  simp only [List.map, List.replicate, List.cons_append, List.nil_append, Nat.reduceSub]
  have K := known_signs (S.signs (by decide))
  rw [wSs_cons]
  generalize hD : ({ nx := _, rt := _, bk := _, ct := _, ex := _ } : Dee.Ends) = D1
  simp only [wS, wE, wEs, lk, ob, hc]
  refine ha S ?_
  simp only [wTg, List.set]
  rw [← hD]
  show wSs _ _ _ _ _
  rw [wSs_cons]
  generalize hD : ({ nx := _, rt := _, bk := _, ct := _, ex := _ } : Dee.Ends) = D2
  simp only [wS, wE, wEs, lk, ob, hc]
  refine hn K hd (fun e => ?_) fun e => ?_
  · rw [← hD]
    show wSs _ _ _ _ _
    obtain ⟨ts, rfl, l1, l2, hk, hs⟩ := isTm_ok e
    match ts, l1 with
    | t :: ts, _ =>
      rw [wSs_cons]
      simp only [wS, wE, wEs, lk, ob, hc]
      refine hg K hk (by simp at l2; omega) hs ?_
      exact h1 t ts rfl e
  · rw [← hD]
    exact h0 e
/-- the part at a place -/
noncomputable def partOf (kv : List (Dee.D × Dee.D)) (ts : List Str) (i : Nat) : List Str := (ts.drop i).take (Tm.len1 (wd kv (ts.drop i)) 1)
theorem part_len {kv : List (Dee.D × Dee.D)} {ts : List Str} (hs : Tm.st (wd kv ts) 1 = some 0) {i : Nat} (hi : i < ts.length) : i + Tm.len1 (wd kv (ts.drop i)) 1 ≤ ts.length ∧ (partOf kv ts i).length = Tm.len1 (wd kv (ts.drop i)) 1 ∧ 1 ≤ (partOf kv ts i).length ∧ Tm.st (wd kv (partOf kv ts i)) 1 = some 0 := by
  obtain ⟨q, hq, h⟩ := Tm.st_drop _ _ i hs (by simpa [wd] using hi)
  rw [wd_drop] at h
  obtain ⟨l1, l2, l3⟩ := Tm.st_len1 _ _ 1 h hq
  have lw : (wd kv (ts.drop i)).length = ts.length - i := by simp [wd]
  have hp : 1 ≤ Tm.len1 (wd kv (ts.drop i)) 1 := Tm.len1_pos (w := wd kv (ts.drop i)) (o := 0) (by
    intro z
    rw [z] at lw
    simp at lw
    omega)
  have e : (partOf kv ts i).length = Tm.len1 (wd kv (ts.drop i)) 1 := by
    unfold partOf
    rw [List.length_take, List.length_drop]
    omega
  refine ⟨by omega, e, by omega, ?_⟩
  unfold partOf wd
  rw [List.map_take]
  exact l2
theorem part_kn {kv : List (Dee.D × Dee.D)} {ts : List Str} (hk : Kn kv ts) (i : Nat) : Kn kv (partOf kv ts i) := fun s hs => hk s (List.mem_of_mem_drop (List.mem_of_mem_take hs))
theorem part_isTm {kv : List (Dee.D × Dee.D)} {ts : List Str} (hk : Kn kv ts) (hl : ts.length ≤ 30) (hs : Tm.st (wd kv ts) 1 = some 0) {i : Nat} (hi : i < ts.length) : isTm kv (tm (partOf kv ts i)) = true := by
  obtain ⟨h1, h2, h3, h4⟩ := part_len hs hi
  exact isTm_tm h3 (by omega) (part_kn hk i) h4
/-- term[at:part_end(known, term, at)] -/
theorem slice_part {F : Dee.Sem} {P : Prog} {pe k : Nat} (hc : F.call = wCall P k) (hp : PartAt P pe k) {kv : List (Dee.D × Dee.D)} (K : Known kv) {ts : List Str} (hk : Kn kv ts) (hs : Tm.st (wd kv ts) 1 = some 0) {i : Nat} (hi : i < ts.length) {σ : Dee.Env} {M : Mem} {Q : Dee.K} {E : Dee.KX} {a b c : Nat}
    (e1 : lk σ a = some (.dct false kv)) (e2 : lk σ b = some (tm ts)) (e3 : lk σ c = some (.int (i : Int))) (hQ : Q (tm (partOf kv ts i)) M) : wE F (.slc (.var b) (some (.var c)) (some (.call pe [.var a, .var b, .var c]))) σ M Q E := by
  obtain ⟨q, hq, h⟩ := Tm.st_drop _ _ i hs (by simpa [wd] using hi)
  obtain ⟨h1, h2, h3, h4⟩ := part_len hs hi
  simp only [wE, wO, wEs, e1, e2, e3, ob, onI, hc]
  refine hp K hk hq h ?_
  simp only [slcop]
  rw [wd_drop, cut_tm h1]
  exact hQ
def partAtFn (a n pe : Nat) : Fn := ⟨3, 4, [.asg (.nm 3) (.call a [.var 0]), .expr (.call n [.var 3, .var 1]), .ifs (.or [.not (.isi (.var 2) [.int]), .isi (.var 2) [.bool], .not (.chain .le .lt (.int 0) (.var 2) (.bi .len false [.var 1]))]) [.raise "NotThere" []] [], .ret (.slc (.var 1) (some (.var 2)) (some (.call pe [.var 3, .var 1, .var 2])))]⟩
/-- a place in a row -/
def isAt (n : Nat) (d : Dee.D) : Bool := match d with | .int i => decide (0 ≤ i) && decide (i < (n : Int)) | _ => false
def PartOfAt (P : Prog) (w k : Nat) : Prop := ∀ {xs : List Dee.D} (_ : Sg xs 8) {ts : List Str} (_ : isTm (kvOf xs) (tm ts) = true) {d : Dee.D} (_ : tyd d = true) {M : Mem} {Q : Dee.K} {E : Dee.KX},
    (∀ i : Nat, d = .int i → i < ts.length → Q (tm (partOf (kvOf xs) ts i)) M) → (isAt ts.length d = false → E ⟨"NotThere", []⟩ M) → wCall P k w [.tup xs, tm ts, d] M Q E
theorem tm_pv {kv : List (Dee.D × Dee.D)} {ts : List Str} (h : isTm kv (tm ts) = true) (hs : ∀ s ∈ ts, s.length ≤ 30) : pv 30 1 (tm ts) := by
  obtain ⟨us, e, l1, l2, hk, _⟩ := isTm_ok h
  have e2 : ts.map D.str = us.map D.str := by injection e
  unfold tm pv
  refine ⟨by rw [e2, List.length_map]; exact l2, fun x hx => ?_⟩
  obtain ⟨s, hs', rfl⟩ := List.mem_map.mp hx
  unfold pv
  exact hs s hs'
theorem tm_inj {ts us : List Str} (h : tm ts = tm us) : ts = us := by
  have e : ts.map D.str = us.map D.str := by injection h
  rw [← strD_map ts, ← strD_map us, e]
theorem isTm_tm' {kv : List (Dee.D × Dee.D)} {ts : List Str} (h : isTm kv (tm ts) = true) : 1 ≤ ts.length ∧ ts.length ≤ 30 ∧ Kn kv ts ∧ Tm.st (wd kv ts) 1 = some 0 := by
  obtain ⟨us, e, h1, h2, h3, h4⟩ := isTm_ok h
  have := tm_inj e
  subst this
  exact ⟨h1, h2, h3, h4⟩
/-- names of signs are short -/
theorem kn_short {xs : List Dee.D} (S : Sg xs 8) {ts : List Str} (hk : Kn (kvOf xs) ts) : ∀ s ∈ ts, s.length ≤ 4 := fun s hs => by
  obtain ⟨j, hx, _⟩ := arO_mem (S.signs (by decide)) (hk s hs)
  obtain ⟨u, i, e, hu, _⟩ := S.it _ hx
  cases e
  exact hu.2.1
theorem tm_pvS {xs : List Dee.D} (S : Sg xs 8) {ts : List Str} (h : isTm (kvOf xs) (tm ts) = true) : pv 30 1 (tm ts) := tm_pv h fun s hs => by
  have := kn_short S (isTm_tm' h).2.2.1 s hs
  omega
theorem partOfAt {P : Prog} {i k a n pe : Nat} (hi : P.fns[i]? = some (partAtFn a n pe)) (ha : ArAt P a k) (hn : NeedAt P n k) (hp : PartAt P pe k) (hx : P.xf "NotThere" = some []) : PartOfAt P i (k + 1) := by
  intro xs S ts ht d hd M Q E h1 h0
  rw [wCall_succ, hi]
  refine ⟨rfl, ?_⟩
  unfold partAtFn
  have hc : (semAt P k).call = wCall P k := rfl
  have hx' : (semAt P k).xf "NotThere" = some [] := hx
  generalize semAt P k = F at hc hx'
  simp only [List.map, List.replicate, List.cons_append, List.nil_append, Nat.reduceSub]
  have K := known_signs (S.signs (by decide))
  obtain ⟨l1, l2, hk, hs⟩ := isTm_tm' ht
  rw [wSs_cons]
  generalize hD : ({ nx := _, rt := _, bk := _, ct := _, ex := _ } : Dee.Ends) = D1
  simp only [wS, wE, wEs, lk, ob, hc]
  refine ha S ?_
  simp only [wTg, List.set]
  rw [← hD]
  show wSs _ _ _ _ _
  rw [wSs_cons]
  generalize hD : ({ nx := _, rt := _, bk := _, ct := _, ex := _ } : Dee.Ends) = D2
  simp only [wS, wE, wEs, lk, ob, hc]
  refine hn K (tm_pvS S ht) (fun e => ?_) fun e => by rw [ht] at e; cases e
  rw [← hD]
  show wSs _ _ _ _ _
  have no : ∀ (σ : Dee.Env) (D3 : Dee.Ends), D3.ex = (fun e _ M => E e M) → isAt ts.length d = false → wSs F [.raise "NotThere" []] σ M D3 := fun σ D3 e3 e => by
    rw [wSs_cons]
    simp only [wS, hx', ob, wEs, List.length_nil, List.zip_nil_left, true_and, e3]
    exact h0 e
  have yes : ∀ (j : Nat) (D3 : Dee.Ends), D3.rt = Q → d = .int j → j < ts.length → wSs F [.ret (.slc (.var 1) (some (.var 2)) (some (.call pe [.var 3, .var 1, .var 2])))] [some (.tup xs), some (tm ts), some d, some (.dct false (kvOf xs))] M D3 := fun j D3 e3 e hj => by
    rw [wSs_cons]
    simp only [wS]
    subst e
    refine slice_part hc hp K hk hs hj rfl rfl rfl ?_
    rw [e3]
    exact h1 j rfl hj
  rw [wSs_cons]
  cases d with
  | int z =>
    simp (decide := true) only [wS, wE, wEs, wO, wAnd, wOr, wCs, wSs_nil, lk, ob, onI, on1, on2, asB, isiop, tyOf, cmpop, iceL, D.dep, depL, plt, binop, catop, biop, inop, seqM, dctM, isTup, wTg, wTgs, onT, List.set, newL, newT, plnM, Bool.false_and, newD, wipeD, tgSlots, tgsSlots, List.append_nil, List.nil_append, List.cons_append, if_true, if_false, Bool.false_eq_true, reduceIte, Bool.not_true, Bool.not_false, List.length_map]
    by_cases z0 : 0 ≤ z
    · simp only [z0, decide_true, if_true]
      refine ⟨trivial, ?_⟩
      by_cases z1 : z < (ts.length : Int)
      · simp only [z1, decide_true, Bool.not_true, Bool.false_eq_true, if_false]
        exact yes z.toNat _ rfl (by congr 1; omega) (by omega)
      · simp only [z1, decide_false, Bool.not_false, if_true]
        exact no _ _ rfl (by simp [isAt, z1])
    · simp only [z0, decide_false, Bool.false_eq_true, if_false, Bool.not_false, if_true]
      exact no _ _ rfl (by simp [isAt, z0])
  | dct t b =>
    cases t with
    | false =>
      simp (decide := true) only [wS, wE, wEs, wO, wAnd, wOr, wCs, wSs_nil, lk, ob, onI, on1, on2, asB, isiop, tyOf, cmpop, iceL, D.dep, depL, plt, binop, catop, biop, inop, seqM, dctM, isTup, wTg, wTgs, onT, List.set, newL, newT, plnM, Bool.false_and, newD, wipeD, tgSlots, tgsSlots, List.append_nil, List.nil_append, List.cons_append, if_true, if_false, Bool.false_eq_true, reduceIte, Bool.not_true, Bool.not_false]
      exact no _ _ rfl rfl
    | true => cases hd
  | ref _ => cases hd
  | obj _ _ => cases hd
  | clo _ _ => cases hd
  | _ =>
    simp (decide := true) only [wS, wE, wEs, wO, wAnd, wOr, wCs, wSs_nil, lk, ob, onI, on1, on2, asB, isiop, tyOf, cmpop, iceL, D.dep, depL, plt, binop, catop, biop, inop, seqM, dctM, isTup, wTg, wTgs, onT, List.set, newL, newT, plnM, Bool.false_and, newD, wipeD, tgSlots, tgsSlots, List.append_nil, List.nil_append, List.cons_append, if_true, if_false, Bool.false_eq_true, reduceIte, Bool.not_true, Bool.not_false]
    exact no _ _ rfl rfl
end DL

set_option Elab.async false
set_option linter.all false
set_option autoImplicit false
set_option maxRecDepth 100000
set_option maxHeartbeats 1000000
/-! Dee: terms: another part, the places of a part, depth. -/
namespace DL
open PySem Dee
def putFn (pa n a : Nat) : Fn := ⟨4, 5, [.asg (.nm 4) (.call pa [.var 0, .var 1, .var 2]), .expr (.call n [.call a [.var 0], .var 3]), .ret (.bin .add (.bin .add (.slc (.var 1) none (some (.var 2))) (.var 3)) (.slc (.var 1) (some (.bin .add (.var 2) (.bi .len false [.var 4]))) none))]⟩
theorem putAt {P : Prog} {i k a n pa : Nat} (hi : P.fns[i]? = some (putFn pa n a)) (ha : ArAt P a k) (hn : NeedAt P n k) (hp : PartOfAt P pa k) {xs : List Dee.D} (S : Sg xs 8) {ts : List Str} (ht : isTm (kvOf xs) (tm ts) = true) {d o : Dee.D} (hd : tyd d = true) {L N : Nat} (ho : pv L N o) {M : Mem} {Q : Dee.K} {E : Dee.KX}
    (h1 : ∀ (j : Nat) us, d = .int j → j < ts.length → o = tm us → isTm (kvOf xs) o = true → Q (tm (ts.take j ++ us ++ ts.drop (j + (partOf (kvOf xs) ts j).length))) M)
    (h2 : isAt ts.length d = false → E ⟨"NotThere", []⟩ M) (h3 : isAt ts.length d = true → isTm (kvOf xs) o = false → E ⟨"NoTerm", []⟩ M) : wCall P (k + 1) i [.tup xs, tm ts, d, o] M Q E := by
  rw [wCall_succ, hi]
  refine ⟨rfl, ?_⟩
  unfold putFn
  have hc : (semAt P k).call = wCall P k := rfl
  generalize semAt P k = F at hc
  simp only [List.map, List.replicate, List.cons_append, List.nil_append, Nat.reduceSub]
  have K := known_signs (S.signs (by decide))
  obtain ⟨l1, l2, hk, hs⟩ := isTm_tm' ht
  rw [wSs_cons]
  generalize hD : ({ nx := _, rt := _, bk := _, ct := _, ex := _ } : Dee.Ends) = D1
  simp only [wS, wE, wEs, lk, ob, hc]
  refine hp S ht hd (fun j e hj => ?_) fun e => by rw [← hD]; exact h2 e
  subst e
  have hat : isAt ts.length (.int (j : Int)) = true := by simp [isAt, hj]
  simp only [wTg, List.set]
  rw [← hD]
  show wSs _ _ _ _ _
  rw [wSs_cons]
  generalize hD : ({ nx := _, rt := _, bk := _, ct := _, ex := _ } : Dee.Ends) = D2
  simp only [wS, wE, wEs, lk, ob, hc]
  refine ha S ?_
  refine hn K ho (fun e => ?_) fun e => by rw [← hD]; exact h3 hat e
  rw [← hD]
  show wSs _ _ _ _ _
  obtain ⟨us, rfl, u1, u2, _⟩ := isTm_ok e
  obtain ⟨p1, p2, p3, p4⟩ := part_len hs hj
  have pl : (partOf (kvOf xs) ts j).length + j ≤ ts.length := by omega
  rw [wSs_cons]
  simp only [wS, wE, wEs, wO, lk, ob, onI, on1, slcop, biop, dc_t, sq_t, List.length_map, binop]
  rw [cut_take (by rw [List.length_map]; omega)]
  refine ⟨by simp [line]; omega, ?_⟩
  rw [show ((j : Int) + ((partOf (kvOf xs) ts j).length : Int)) = ((j + (partOf (kvOf xs) ts j).length : Nat) : Int) by omega, cut_from (by rw [List.length_map]; omega)]
  refine ⟨by simp [line]; omega, ?_⟩
  rw [← List.map_take, ← List.map_append, ← List.map_drop, ← List.map_append]
  exact h1 j us rfl hj rfl e
def placesFn (a n pe : Nat) : Fn := ⟨3, 5, [.asg (.nm 3) (.call a [.var 0]), .expr (.call n [.var 3, .var 1]), .expr (.call n [.var 3, .var 2]), .ret (.bi .tuple false [.comp false (.var 4) (.nm 4) .rng [.bi .len false [.var 1]] [.cmp .eq (.slc (.var 1) (some (.var 4)) (some (.call pe [.var 3, .var 1, .var 4]))) (.var 2)]])]⟩
/-- the places where a part stands -/
noncomputable def placesD (kv : List (Dee.D × Dee.D)) (ts ps : List Str) : List Dee.D := (rngF (ts.length : Int)).filterMap fun x => match x with | .int i => if peq (tm (partOf kv ts i.toNat)) (tm ps) then some (.int i) else none | _ => none
theorem rng_mem {n : Nat} {x : Dee.D} (h : x ∈ rngF (n : Int)) : ∃ j : Nat, x = .int (j : Int) ∧ j < n := by
  unfold rngF at h
  obtain ⟨j, hj, rfl⟩ := List.mem_map.mp h
  exact ⟨j, rfl, by simpa using hj⟩
theorem tm_dep (ts : List Str) : (tm ts).dep = 1 := by
  show depL (ts.map D.str) + 1 = 1
  rw [dep_strs]
theorem placesOf {P : Prog} {i k a n pe : Nat} (hi : P.fns[i]? = some (placesFn a n pe)) (ha : ArAt P a k) (hn : NeedAt P n k) (hp : PartAt P pe k) {xs : List Dee.D} (S : Sg xs 8) {ts ps : List Str} (ht : isTm (kvOf xs) (tm ts) = true) (hq : isTm (kvOf xs) (tm ps) = true) {M : Mem} {Q : Dee.K} {E : Dee.KX}
    (hQ : Q (.tup (placesD (kvOf xs) ts ps)) M) : wCall P (k + 1) i [.tup xs, tm ts, tm ps] M Q E := by
  rw [wCall_succ, hi]
  refine ⟨rfl, ?_⟩
  unfold placesFn
  have hc : (semAt P k).call = wCall P k := rfl
  generalize semAt P k = F at hc
  simp only [List.map, List.replicate, List.cons_append, List.nil_append, Nat.reduceSub]
  have K := known_signs (S.signs (by decide))
  obtain ⟨l1, l2, hk, hs⟩ := isTm_tm' ht
  rw [wSs_cons]
  generalize hD : ({ nx := _, rt := _, bk := _, ct := _, ex := _ } : Dee.Ends) = D1
  simp only [wS, wE, wEs, lk, ob, hc]
  refine ha S ?_
  simp only [wTg, List.set]
  rw [← hD]
  show wSs _ _ _ _ _
  rw [wSs_cons]
  generalize hD : ({ nx := _, rt := _, bk := _, ct := _, ex := _ } : Dee.Ends) = D2
  simp only [wS, wE, wEs, lk, ob, hc]
  refine hn K (tm_pvS S ht) (fun _ => ?_) fun e => by rw [ht] at e; cases e
  rw [← hD]
  show wSs _ _ _ _ _
  rw [wSs_cons]
  generalize hD : ({ nx := _, rt := _, bk := _, ct := _, ex := _ } : Dee.Ends) = D3
  simp only [wS, wE, wEs, lk, ob, hc]
  refine hn K (tm_pvS S hq) (fun _ => ?_) fun e => by rw [hq] at e; cases e
  rw [← hD]
  show wSs _ _ _ _ _
  rw [wSs_cons]
  simp only [wS, wE, wEs, lk, ob, on1, biop, dc_t, sq_t, List.length_map, itop, onI]
  refine ⟨⟨by omega, by unfold line; omega⟩, ?_⟩
  refine lcL_fm (fun x => match x with | .int i => if peq (tm (partOf (kvOf xs) ts i.toNat)) (tm ps) then some (.int i) else none | _ => none) (fun x hx R hR => ?_) ?_
  · obtain ⟨j, rfl, hj⟩ := rng_mem hx
    simp only [wTg, wipeD, tgSlots, List.set, wCs]
    have key : wE F (.cmp .eq (.slc (.var 1) (some (.var 4)) (some (.call pe [.var 3, .var 1, .var 4]))) (.var 2)) [some (.tup xs), some (tm ts), some (tm ps), some (.dct false (kvOf xs)), some (.int (j : Int))] M
        (asB fun b M2 => if b then (if true = true then wE F (.var 4) [some (.tup xs), some (tm ts), some (tm ps), some (.dct false (kvOf xs)), some (.int (j : Int))] M2 (fun y M3 => R (some y) M3) fun _ _ => False else R none M2) else (if false = true then wE F (.var 4) [some (.tup xs), some (tm ts), some (tm ps), some (.dct false (kvOf xs)), some (.int (j : Int))] M2 (fun y M3 => R (some y) M3) fun _ _ => False else R none M2)) fun _ _ => False := by
      rw [show wE F (.cmp .eq (.slc (.var 1) (some (.var 4)) (some (.call pe [.var 3, .var 1, .var 4]))) (.var 2)) = fun σ M Q E => wE F (.slc (.var 1) (some (.var 4)) (some (.call pe [.var 3, .var 1, .var 4]))) σ M (fun x M1 => wE F (.var 2) σ M1 (fun y M2 => cmpop .eq x y M2 (fun r => Q (.bl r) M2)) E) E from by funext σ M Q E; simp only [wE]]
      refine slice_part hc hp K hk hs hj rfl rfl rfl ?_
      simp only [wE, lk, ob, cmpop, iceL, tm_dep, asB]
      refine ⟨⟨by decide, by decide⟩, ?_⟩
      have hR : R (if peq (tm (partOf (kvOf xs) ts ((j : Int)).toNat)) (tm ps) then some (.int (j : Int)) else none) M := hR
      rw [Int.toNat_natCast] at hR
      cases e : peq (tm (partOf (kvOf xs) ts j)) (tm ps) with
      | true => rw [e] at hR; simpa using hR
      | false => rw [e] at hR; simpa using hR
    exact key
  · simp only [newL, newT, Bool.false_and, Bool.false_eq_true, if_false, sq_l, ob, List.nil_append]
    exact hQ
end DL

set_option Elab.async false
set_option linter.all false
set_option autoImplicit false
set_option maxRecDepth 100000
set_option maxHeartbeats 1000000
/-! Dee: terms: depth. -/
namespace DL
open PySem Dee
def depthFn (a n pe : Nat) : Fn := ⟨2, 7, [.asg (.nm 2) (.call a [.var 0]), .expr (.call n [.var 2, .var 1]), .asg (.nm 3) (.rep true (.lst false [.int 0]) (.bi .len false [.var 1])), .for (.nm 4) .rng [.bin .sub (.bi .len false [.var 1]) (.int 1), .neg (.int 1), .neg (.int 1)] [.asg (.nm 5) (.bin .add (.var 4) (.int 1)), .for (.nm 6) .rng [.sub (.var 2) (.sub (.var 1) (.var 4))] [.asub (.var 3) (.var 4) (.bi .max2 false [.sub (.var 3) (.var 4), .sub (.var 3) (.var 5)]), .asg (.nm 5) (.call pe [.var 2, .var 1, .var 5])], .augs (.var 3) (.var 4) .add (.int 1)], .ret (.sub (.var 3) (.int 0))]⟩
theorem rep_one (n : Nat) (d : Dee.D) : (List.replicate n [d]).flatten = List.replicate n d := by
  induction n with
  | zero => rfl
  | succ n ih => rw [List.replicate_succ, List.replicate_succ, List.flatten_cons, ih]; rfl
/-- the levels while one place is filled -/
def lvls (at_ acc : Nat) (l : List Nat) : List Dee.D := List.replicate at_ (.int 0) ++ .int (acc : Int) :: l.map fun (n : Nat) => Dee.D.int (n : Int)
theorem lvls_len (at_ acc : Nat) (l : List Nat) : (lvls at_ acc l).length = at_ + 1 + l.length := by simp [lvls]; omega
theorem lvls_at (at_ acc : Nat) (l : List Nat) : (lvls at_ acc l)[at_]? = some (.int (acc : Int)) := by
  unfold lvls
  rw [List.getElem?_append_right (by simp)]
  simp
theorem lvls_in (at_ acc : Nat) (l : List Nat) {s : Nat} (h : s < l.length) : (lvls at_ acc l)[at_ + 1 + s]? = some (.int (l[s] : Int)) := by
  unfold lvls
  rw [List.getElem?_append_right (by simp; omega)]
  simp only [List.length_replicate, show at_ + 1 + s - at_ = s + 1 by omega, List.getElem?_cons_succ, List.getElem?_map, List.getElem?_eq_getElem h, Option.map_some]
theorem lvls_set (at_ acc m : Nat) (l : List Nat) : (lvls at_ acc l).set at_ (.int (m : Int)) = lvls at_ m l := by
  unfold lvls
  rw [List.set_append_right _ _ (by simp)]
  simp
theorem head_drop (l : List Nat) (s : Nat) (h : s < l.length) : (l.drop s).headD 0 = l[s] := by
  rw [List.drop_eq_getElem_cons h]
  rfl
theorem depthT {P : Prog} {i k a n pe : Nat} (hi : P.fns[i]? = some (depthFn a n pe)) (ha : ArAt P a k) (hn : NeedAt P n k) (hp : PartAt P pe k) {xs : List Dee.D} (S : Sg xs 8) {ts : List Str} (ht : isTm (kvOf xs) (tm ts) = true) {M : Mem} {Q : Dee.K} {E : Dee.KX}
    (hQ : ∀ M', (∀ b, M b ≠ none → M' b = M b) → Q (.int (((Tm.lv (wd (kvOf xs) ts)).headD 0 : Nat) : Int)) M') : wCall P (k + 1) i [.tup xs, tm ts] M Q E := by
  rw [wCall_succ, hi]
  refine ⟨rfl, ?_⟩
  unfold depthFn
  have hc : (semAt P k).call = wCall P k := rfl
  generalize semAt P k = F at hc
  simp only [List.map, List.replicate, List.cons_append, List.nil_append, Nat.reduceSub]
  have K := known_signs (S.signs (by decide))
  obtain ⟨l1, l2, hk, hs⟩ := isTm_tm' ht
  generalize hkv : kvOf xs = kv at K ht hk hs hQ
  have ha' : ∀ {M : Mem} {Q : Dee.K} {E : Dee.KX}, Q (.dct false kv) M → wCall P k a [.tup xs] M Q E := fun h => ha S (by rw [hkv]; exact h)
  have hpv := tm_pvS S (by rw [hkv]; exact ht)
  rw [wSs_cons]
  generalize hD : ({ nx := _, rt := _, bk := _, ct := _, ex := _ } : Dee.Ends) = D1
  simp only [wS, wE, wEs, lk, ob, hc]
  refine ha' ?_
  simp only [wTg, List.set]
  rw [← hD]
  show wSs _ _ _ _ _
  rw [wSs_cons]
  generalize hD : ({ nx := _, rt := _, bk := _, ct := _, ex := _ } : Dee.Ends) = D2
  simp only [wS, wE, wEs, lk, ob, hc]
  refine hn K hpv (fun _ => ?_) fun e => by rw [ht] at e; cases e
  rw [← hD]
  show wSs _ _ _ _ _
  rw [wSs_cons]
  generalize hD : ({ nx := _, rt := _, bk := _, ct := _, ex := _ } : Dee.Ends) = D3
  simp only [wS, wE, wEs, lk, ob, on1, biop, dc_t, sq_t, sq_l, List.length_map, onI, isTup, newL, Bool.false_eq_true, if_false, if_true]
  refine ⟨⟨trivial, by omega, by unfold line; omega, by unfold line; simp; omega⟩, ?_⟩
  intro p hpM
  rw [Int.toNat_natCast, rep_one]
  simp only [wTg, List.set]
  rw [← hD]
  show wSs _ _ _ _ _
  rw [wSs_cons]
  generalize hD : ({ nx := _, rt := _, bk := _, ct := _, ex := _ } : Dee.Ends) = D4
  simp only [wS, wE, wEs, lk, ob, on1, biop, dc_t, sq_t, List.length_map, onI, binop, itop]
  refine ⟨⟨trivial, by omega, by omega, by omega, by omega, by unfold line; omega⟩, ?_⟩
  generalize hw : wd kv ts = w at hs hQ
  have hwl : w.length = ts.length := by rw [← hw]; simp [wd]
  refine forL_at (fun n σ M' => (∃ x4 x5 x6, σ = [some (.tup xs), some (tm ts), some (.dct false kv), some (.ref p), x4, x5, x6]) ∧ M' p = some (.lst (List.replicate (ts.length - n) (.int 0) ++ (Tm.lv (w.drop (ts.length - n))).map fun (n : Nat) => Dee.D.int (n : Int))) ∧ (∀ z, z ≠ p → M' z = M z) ∧ n ≤ ts.length)
    (fun n x hx σ M' R hI hR => ?_) ⟨⟨_, _, _, rfl⟩, ?_, fun z hz => up_of_ne hz, by omega⟩ fun σ M4 hI => ?_
  · obtain ⟨⟨x4, x5, x6, rfl⟩, hM, hoff, _⟩ := hI
    have hx' : n < ts.length ∧ x = .int (((ts.length - 1 - n : Nat)) : Int) := by
      unfold rngB at hx
      rw [List.getElem?_map] at hx
      have hn : n < ((ts.length : Int) - 1 - (-1)).toNat := by
        by_cases z : n < ((ts.length : Int) - 1 - (-1)).toNat
        · exact z
        · rw [List.getElem?_eq_none (by simpa using z)] at hx
          cases hx
      rw [List.getElem?_range hn] at hx
      simp only [Option.map_some, Option.some.injEq] at hx
      refine ⟨by omega, ?_⟩
      rw [← hx]
      congr 1
      omega
    obtain ⟨hnl, rfl⟩ := hx'
    generalize hat : ts.length - 1 - n = at_
    have hn1 : ts.length - n = at_ + 1 := by omega
    have hal : at_ < ts.length := by omega
    rw [hn1] at hM
    have hdrop : w.drop at_ = arN kv ts[at_] :: w.drop (at_ + 1) := by
      have e : (wd kv ts).drop at_ = arN kv ts[at_] :: (wd kv ts).drop (at_ + 1) := by
        rw [List.drop_eq_getElem_cons (by simpa [wd] using hal)]
        simp [wd]
      rw [hw] at e
      exact e
    obtain ⟨hlook, h3⟩ := K.at (hk _ (List.getElem_mem hal))
    obtain ⟨q, hq, hst⟩ := Tm.st_drop _ _ at_ hs (by omega)
    rw [hdrop] at hst
    obtain ⟨q, rfl⟩ : ∃ q', q = q' + 1 := ⟨q - 1, by omega⟩
    have hst : Tm.st (w.drop (at_ + 1)) (q + arN kv ts[at_]) = some 0 := hst
    generalize hv : w.drop (at_ + 1) = v at hM hst hdrop
    have hvl : v.length = ts.length - (at_ + 1) := by rw [← hv, List.length_drop, hwl]
    have hM : M' p = some (.lst (lvls at_ 0 (Tm.lv v))) := by
      rw [hM]
      unfold lvls
      rw [List.replicate_succ', List.append_assoc]
      rfl
    simp only [wTg, List.set]
    rw [wSs_cons]
    simp only [wS, wE, lk, ob, binop, onI, wTg, List.set]
    rw [wSs_cons]
    generalize hD5 : ({ nx := _, rt := _, bk := _, ct := _, ex := _ } : Dee.Ends) = D5
    simp only [wS, wE, wEs, lk, ob, sub_tm hal, sub_dct hlook, itop, onI]
    refine ⟨⟨by omega, by unfold line; omega⟩, ?_⟩
    refine forL_at (fun j σ M5 => (∃ x6 s c acc, σ = [some (.tup xs), some (tm ts), some (.dct false kv), some (.ref p), some (.int (at_ : Int)), some (.int ((at_ + 1 + s : Nat) : Int)), x6] ∧ j + c = arN kv ts[at_] ∧ Tm.st (v.drop s) (q + c) = some 0 ∧ M5 p = some (.lst (lvls at_ acc (Tm.lv v))) ∧ max acc (Tm.mxs c (v.drop s) ((Tm.lv v).drop s)) = Tm.mxs (arN kv ts[at_]) v (Tm.lv v)) ∧ (∀ z, z ≠ p → M5 z = M z))
      (fun j x hx σ M5 R5 hI hR5 => ?_) ⟨⟨_, 0, arN kv ts[at_], 0, rfl, by omega, hst, hM, by simp⟩, hoff⟩ fun σ M6 hI => ?_
    · obtain ⟨⟨x6', s, c, acc, rfl, hjc, hst5, hM5, hmax⟩, hoff5⟩ := hI
      have hj : j < arN kv ts[at_] := by
        have := (List.getElem?_eq_some_iff.mp hx).1
        unfold rngF at this
        simpa using this
      obtain ⟨c, rfl⟩ : ∃ c', c = c' + 1 := ⟨c - 1, by omega⟩
      have hsl : s < v.length := by
        by_cases z : s < v.length
        · exact z
        · rw [List.drop_eq_nil_of_le (by omega)] at hst5
          have := Tm.st_nil hst5
          omega
      have hll : s < (Tm.lv v).length := by rw [Tm.lv_len]; exact hsl
      obtain ⟨m1, m2, m3⟩ := Tm.st_len1 _ _ 1 hst5 (by omega)
      simp only [wTg, List.set]
      rw [wSs_cons]
      generalize hD6 : ({ nx := _, rt := _, bk := _, ct := _, ex := _ } : Dee.Ends) = D6
      have g1 : (lvls at_ acc (Tm.lv v))[((at_ : Nat) : Int).toNat]? = some (.int (acc : Int)) := by rw [Int.toNat_natCast]; exact lvls_at _ _ _
      have g2 : (lvls at_ acc (Tm.lv v))[((at_ + 1 + s : Nat) : Int).toNat]? = some (.int ((Tm.lv v)[s] : Int)) := by rw [Int.toNat_natCast]; exact lvls_in _ _ _ hll
      simp only [wS, wE, wEs, lk, ob, sub_at hM5 (Int.natCast_nonneg _) g1, sub_at hM5 (Int.natCast_nonneg _) g2, biop, on2, onI]
      rw [set_at hM5 (Int.natCast_nonneg _) (by rw [Int.toNat_natCast, lvls_len]; omega), Int.toNat_natCast]
      have em : (if ((Tm.lv v)[s] : Int) > (acc : Int) then ((Tm.lv v)[s] : Int) else (acc : Int)) = ((max acc (Tm.lv v)[s] : Nat) : Int) := by
        split <;> omega
      rw [em, lvls_set, ← hD6]
      show wSs _ _ _ _ _
      rw [wSs_cons]
      generalize hD7 : ({ nx := _, rt := _, bk := _, ct := _, ex := _ } : Dee.Ends) = D7
      have hdr : (wd kv ts).drop (at_ + 1 + s) = v.drop s := by rw [hw, ← hv, List.drop_drop]
      simp only [wS, wE, wEs, lk, ob, hc]
      refine hp K hk (q := q + (c + 1)) (by omega) (by rw [hdr]; exact hst5) ?_
      simp only [wTg, List.set]
      rw [← hD7, hdr]
      show wSs _ _ _ _ _
      rw [wSs_nil]
      generalize hm : Tm.len1 (v.drop s) 1 = m at m1 m2 m3
      refine hR5 _ _ ⟨⟨some x, s + m, c, max acc (Tm.lv v)[s], ?_, by omega, ?_, up_at, ?_⟩, fun z hz => by rw [up_of_ne hz]; exact hoff5 z hz⟩
      · rw [show at_ + 1 + s + m = at_ + 1 + (s + m) by omega]
      · rw [List.drop_drop, show q + (c + 1) - 1 = q + c by omega] at m3
        exact m3
      · rw [← hmax]
        show max (max acc (Tm.lv v)[s]) (Tm.mxs c (v.drop (s + m)) ((Tm.lv v).drop (s + m))) = max acc (max (((Tm.lv v).drop s).headD 0) (Tm.mxs c ((v.drop s).drop (Tm.len1 (v.drop s) 1)) (((Tm.lv v).drop s).drop (Tm.len1 (v.drop s) 1))))
        rw [hm, head_drop _ _ hll, List.drop_drop, List.drop_drop, Nat.max_assoc]
    · obtain ⟨⟨x6', s, c, acc, rfl, hjc, hst5, hM6, hmax⟩, hoff6⟩ := hI
      rw [show (rngF ((arN kv ts[at_] : Nat) : Int)).length = arN kv ts[at_] by unfold rngF; simp] at hjc
      have hc0 : c = 0 := by omega
      subst hc0
      have hacc : acc = Tm.mxs (arN kv ts[at_]) v (Tm.lv v) := by rw [← hmax]; simp [Tm.mxs]
      rw [← hD5]
      show wSs _ _ _ _ _
      rw [wSs_cons]
      have hix : Dee.ixN (lvls at_ acc (Tm.lv v)).length (at_ : Int) = some at_ := by
        rw [ix_nat (Int.natCast_nonneg _) (by rw [lvls_len]; omega), Int.toNat_natCast]
      simp only [wS, wE, lk, ob, onR, atL, hM6, onI, hix, lvls_at, augop, binop]
      rw [set_at hM6 (Int.natCast_nonneg _) (by rw [Int.toNat_natCast, lvls_len]; omega), Int.toNat_natCast, wSs_nil]
      rw [show (acc : Int) + 1 = ((acc + 1 : Nat) : Int) by omega, lvls_set]
      refine hR _ _ ⟨⟨_, _, _, rfl⟩, ?_, fun z hz => by rw [up_of_ne hz]; exact hoff6 z hz, by omega⟩
      rw [up_at, show ts.length - (n + 1) = at_ by omega, hdrop]
      unfold lvls
      rw [hacc]
      rfl
  · rw [Nat.sub_zero, up_at, List.drop_eq_nil_of_le (by omega)]
    simp [Tm.lv]
  · obtain ⟨⟨x4, x5, x6, rfl⟩, hM, hoff, _⟩ := hI
    have hlen : (rngB ((ts.length : Int) - 1) (-1)).length = ts.length := by unfold rngB; simp
    rw [hlen, Nat.sub_self] at hM
    have hM : M4 p = some (.lst ((Tm.lv w).map fun (n : Nat) => Dee.D.int (n : Int))) := by simpa using hM
    rw [← hD]
    show wSs _ _ _ _ _
    rw [wSs_cons]
    have hl0 : 0 < (Tm.lv w).length := by rw [Tm.lv_len]; omega
    have g0 : ((Tm.lv w).map fun (n : Nat) => Dee.D.int (n : Int))[((0 : Int)).toNat]? = some (.int (((Tm.lv w).headD 0 : Nat) : Int)) := by
      show ((Tm.lv w).map fun (n : Nat) => Dee.D.int (n : Int))[0]? = _
      have := head_drop (Tm.lv w) 0 hl0
      rw [List.drop_zero] at this
      rw [List.getElem?_map, List.getElem?_eq_getElem hl0, this]
      rfl
    simp only [wS, wE, lk, ob, sub_at hM (Int.le_refl 0) g0]
    exact hQ _ fun b hb => hoff b fun e => hb (by rw [e]; exact hpM)
end DL

set_option Elab.async false
set_option linter.all false
set_option autoImplicit false
set_option maxRecDepth 100000
set_option maxHeartbeats 1000000
/-! Dee: terms in their order. -/
namespace DL
open PySem Dee
/-! ### plain: rows in an order -/
theorem sorted_uni {α : Type} {r : α → α → Prop} : ∀ {xs ys : List α}, (∀ a ∈ xs, ∀ b ∈ xs, r a b → r b a → a = b) → xs.Nodup → ys.Nodup → (∀ z, z ∈ xs ↔ z ∈ ys) → xs.Pairwise r → ys.Pairwise r → xs = ys
  | [], ys, _, _, _, h, _, _ => by
    cases ys with
    | nil => rfl
    | cons b ys => exact absurd ((h b).mpr (by simp)) (by simp)
  | a :: xs, [], _, _, _, h, _, _ => absurd ((h a).mp (by simp)) (by simp)
  | a :: xs, b :: ys, hr, h1, h2, h, p1, p2 => by
    rw [List.nodup_cons] at h1 h2
    rw [List.pairwise_cons] at p1 p2
    have e : a = b := by
      by_cases e : a = b
      · exact e
      · have ha : a ∈ ys := (List.mem_cons.mp ((h a).mp (by simp))).resolve_left e
        have hb : b ∈ xs := (List.mem_cons.mp ((h b).mpr (by simp))).resolve_left fun z => e z.symm
        exact hr a (by simp) b (by simp [hb]) (p1.1 b hb) (p2.1 a ha)
    subst e
    rw [sorted_uni (fun x hx y hy => hr x (by simp [hx]) y (by simp [hy])) h1.2 h2.2 (fun z => ⟨fun hz => (List.mem_cons.mp ((h z).mp (by simp [hz]))).resolve_left fun e => h1.1 (e ▸ hz), fun hz => (List.mem_cons.mp ((h z).mpr (by simp [hz]))).resolve_left fun e => h2.1 (e ▸ hz)⟩) p1.2 p2.2]
theorem unmap {α β : Type} {f : α → β} {L : List α} : ∀ {ys : List β}, (∀ y ∈ ys, ∃ z ∈ L, y = f z) → ∃ zs : List α, ys = zs.map f ∧ ∀ z ∈ zs, z ∈ L
  | [], _ => ⟨[], rfl, fun _ h => nomatch h⟩
  | y :: ys, h => by
    obtain ⟨z, hz, e⟩ := h y (by simp)
    obtain ⟨zs, e1, e2⟩ := unmap (ys := ys) fun y hy => h y (by simp [hy])
    exact ⟨z :: zs, by rw [e, e1]; rfl, fun w hw => by
      rcases List.mem_cons.mp hw with rfl | hw
      · exact hz
      · exact e2 w hw⟩
/-! ### keys -/
def rkI (ns : List Str) (ts : List Str) : List Dee.D := ts.map fun s => .int ((ns.idxOf s : Nat) : Int)
def keyT (ns : List Str) (ts : List Str) : Dee.D := .tup [.int (ts.length : Int), .tup (rkI ns ts)]
theorem idx_inj {ns : List Str} {s t : Str} (hs : s ∈ ns) (h : ns.idxOf s = ns.idxOf t) : s = t := by
  have h1 : ns.idxOf s < ns.length := List.idxOf_lt_length_of_mem hs
  have e1 : ns[ns.idxOf s] = s := List.getElem_idxOf h1
  have h2 : ns.idxOf t < ns.length := by rw [← h]; exact h1
  have e2 : ns[ns.idxOf t] = t := List.getElem_idxOf h2
  rw [← e1, ← e2]
  congr 1
theorem rkI_inj {ns : List Str} : ∀ {ts us : List Str}, (∀ s ∈ ts, s ∈ ns) → rkI ns ts = rkI ns us → ts = us
  | [], us, _, h => by
    cases us with
    | nil => rfl
    | cons u us => cases h
  | t :: ts, [], _, h => by cases h
  | t :: ts, u :: us, hm, h => by
    have h : (D.int ((ns.idxOf t : Nat) : Int)) :: rkI ns ts = (D.int ((ns.idxOf u : Nat) : Int)) :: rkI ns us := h
    injection h with h1 h2
    injection h1 with h1
    rw [idx_inj (hm t (by simp)) (show ns.idxOf t = ns.idxOf u by omega), rkI_inj (fun s hs => hm s (by simp [hs])) h2]
theorem keyT_inj {ns ts us : List Str} (hm : ∀ s ∈ ts, s ∈ ns) (h : keyT ns ts = keyT ns us) : ts = us := by
  unfold keyT at h
  injection h with h
  injection h with _ h
  injection h with h
  injection h with h
  exact rkI_inj hm h
theorem rkI_pure (ns : List Str) : ∀ ts : List Str, pureL (rkI ns ts) = true ∧ pureIL (rkI ns ts) = true ∧ depL (rkI ns ts) = 0
  | [] => ⟨rfl, rfl, rfl⟩
  | t :: ts => by
    obtain ⟨h1, h2, h3⟩ := rkI_pure ns ts
    refine ⟨?_, ?_, ?_⟩
    · show (true && pureL (rkI ns ts)) = true
      rw [h1]; rfl
    · show (true && pureIL (rkI ns ts)) = true
      rw [h2]; rfl
    · show max 0 (depL (rkI ns ts)) = 0
      rw [h3]; rfl
theorem keyT_pure (ns ts : List Str) : pure_ (keyT ns ts) = true ∧ pureI (keyT ns ts) = true ∧ (keyT ns ts).dep = 2 := by
  obtain ⟨h1, h2, h3⟩ := rkI_pure ns ts
  refine ⟨?_, ?_, ?_⟩
  · show (true && (pureL (rkI ns ts) && true)) = true
    rw [h1]; rfl
  · show (true && (pureIL (rkI ns ts) && true)) = true
    rw [h2]; rfl
  · show max 0 (max (depL (rkI ns ts) + 1) 0) + 1 = 2
    rw [h3]; rfl
theorem rkI_cmp (ns : List Str) : ∀ ts us : List Str, (pltL (rkI ns ts) (rkI ns us)).isSome = true
  | [], [] => rfl
  | [], _ :: _ => rfl
  | _ :: _, [] => rfl
  | t :: ts, u :: us => by
    have ih := rkI_cmp ns ts us
    show (match pltL (rkI ns ts) (rkI ns us) with | none => none | some r => if peq (.int ((ns.idxOf t : Nat) : Int)) (.int ((ns.idxOf u : Nat) : Int)) then some r else plt (.int ((ns.idxOf t : Nat) : Int)) (.int ((ns.idxOf u : Nat) : Int))).isSome = true
    cases e : pltL (rkI ns ts) (rkI ns us) with
    | none => rw [e] at ih; cases ih
    | some r =>
      dsimp only
      split
      · rfl
      · rfl
theorem keyT_cmp (ns ts us : List Str) : (plt (keyT ns ts) (keyT ns us)).isSome = true := by
  have h := rkI_cmp ns ts us
  show (match (match (some false : Option Bool) with | none => none | some r => if peq (.tup (rkI ns ts)) (.tup (rkI ns us)) then some r else pltL (rkI ns ts) (rkI ns us)) with | none => none | some r => if peq (.int (ts.length : Int)) (.int (us.length : Int)) then some r else some (decide ((ts.length : Int) < (us.length : Int)))).isSome = true
  obtain ⟨r, hr⟩ := Option.isSome_iff_exists.mp h
  rw [hr]
  dsimp only
  cases peq (.tup (rkI ns ts)) (.tup (rkI ns us)) <;> cases peq (.int (ts.length : Int)) (.int (us.length : Int)) <;> rfl
/-- a row of terms in order -/
structure Srt (ns : List Str) (L zs : List (List Str)) : Prop where
  nd : zs.Nodup
  mem : ∀ z, z ∈ zs ↔ z ∈ L
  pw : zs.Pairwise fun a b => plt (keyT ns b) (keyT ns a) = some false
theorem Srt.uni {ns : List Str} {L L' zs zs' : List (List Str)} (h : Srt ns L zs) (h' : Srt ns L' zs') (hm : ∀ z ∈ L, ∀ s ∈ z, s ∈ ns) (hl : ∀ z, z ∈ L ↔ z ∈ L') : zs = zs' :=
  sorted_uni (r := fun a b => plt (keyT ns b) (keyT ns a) = some false) (fun a ha b hb h1 h2 => keyT_inj (hm a ((h.mem a).mp ha)) (plt_tri _ _ (keyT_pure ns a).1 (keyT_pure ns b).1 h2 h1)) h.nd h'.nd (fun z => by rw [h.mem, h'.mem, hl]) h.pw h'.pw
/-- the ranks as a dict -/
structure Rk (rk : List (Dee.D × Dee.D)) (ns : List Str) : Prop where
  keys : rk.map (·.1) = ns.map D.str
  nd : ns.Nodup
  at_ : ∀ s ∈ ns, look rk (.str s) = some (.int ((ns.idxOf s : Nat) : Int))
/-! ### key_of, ordered -/
def keyFn : Fn := ⟨2, 3, [.ret (.tup [.bi .len false [.var 1], .bi .tuple false [.comp false (.sub (.var 0) (.var 2)) (.nm 2) .seq [.var 1] []]])]⟩
theorem str_mapD (f : Str → Dee.D) (ts : List Str) : (ts.map D.str).map (fun x => f (strD x)) = ts.map f := by
  rw [List.map_map]
  rfl
theorem keyOf {P : Prog} {i k : Nat} (hi : P.fns[i]? = some keyFn) {rk : List (Dee.D × Dee.D)} {ns : List Str} (R : Rk rk ns) {ts : List Str} (hm : ∀ s ∈ ts, s ∈ ns) {M : Mem} {Q : Dee.K} {E : Dee.KX} (hQ : Q (keyT ns ts) M) : wCall P (k + 1) i [.dct false rk, tm ts] M Q E := by
  rw [wCall_succ, hi]
  refine ⟨rfl, ?_⟩
  unfold keyFn
  generalize semAt P k = F
  simp only [List.map, List.replicate, List.cons_append, List.nil_append, Nat.reduceSub]
  rw [wSs_cons]
  simp only [wS, wE, wEs, lk, ob, on1, biop, dc_t, sq_t, List.length_map, itop, still_tup]
  refine lcL_map (fun x => .int ((ns.idxOf (strD x) : Nat) : Int)) (fun x hx R' hR => ?_) ?_
  · obtain ⟨s, hs, rfl⟩ := List.mem_map.mp hx
    simp only [wTg, wipeD, tgSlots, List.set, wCs, if_true, wE, lk, ob, sub_dct (R.at_ s (hm s hs))]
    exact hR
  · simp only [newL, newT, Bool.false_and, Bool.false_eq_true, if_false, sq_l, ob, List.nil_append]
    rw [str_mapD fun s => .int ((ns.idxOf s : Nat) : Int)]
    exact hQ
def orderedFn (kf : Nat) : Fn := ⟨2, 9, [.asg (.nm 2) (.srts false (.comp false (.call kf [.var 0, .var 7]) (.nm 7) .seq [.var 1] [])), .asg (.nm 3) (.bi .dict false [.comp false (.tup [.sub (.var 0) (.var 4), .var 4]) (.nm 4) .seq [.var 0] []]), .ret (.comp false (.bi .tuple false [.comp false (.sub (.var 3) (.var 8)) (.nm 8) .seq [.var 6] []]) (.tu [.nm 5, .nm 6]) .seq [.var 2] [])]⟩
noncomputable def backD (ns : List Str) : List (Dee.D × Dee.D) := putAll [] (ns.map fun s => (.int ((ns.idxOf s : Nat) : Int), .str s))
theorem back_at {ns : List Str} (hn : ns.Nodup) {s : Str} (hs : s ∈ ns) : look (backD ns) (.int ((ns.idxOf s : Nat) : Int)) = some (.str s) := by
  refine look_putAll_mem ?_ (List.mem_map.mpr ⟨s, hs, rfl⟩)
  rw [List.map_map]
  refine List.pairwise_map.mpr ?_
  refine hn.imp_of_mem fun {a b} ha hb hne e => hne (idx_inj ha ?_)
  have : ((ns.idxOf a : Nat) : Int) = ((ns.idxOf b : Nat) : Int) := by injection e
  omega
theorem dPairs_back (ns : List Str) : ∀ us : List Str, dPairs (us.map fun s => .tup [.int ((ns.idxOf s : Nat) : Int), .str s]) = some (us.map fun s => (.int ((ns.idxOf s : Nat) : Int), .str s))
  | [] => rfl
  | u :: us => by
    rw [List.map_cons, List.map_cons]
    show (dPairs _).map _ = _
    rw [dPairs_back ns us]
    rfl
theorem still_dct (kv : List (Dee.D × Dee.D)) : still (.dct false kv) = some (kv.map (·.1)) := rfl
theorem still_lst (xs : List Dee.D) : still (.lst xs) = some xs := rfl
noncomputable def unkeyT (ns : List Str) (d : Dee.D) : Dee.D := match d with | .tup [_, .tup row] => .tup (row.map fun x => (look (backD ns) x).getD .non) | _ => .non
theorem unkey_key {ns : List Str} (hn : ns.Nodup) {ts : List Str} (hm : ∀ s ∈ ts, s ∈ ns) : (rkI ns ts).map (fun x => (look (backD ns) x).getD .non) = ts.map D.str := by
  unfold rkI
  rw [List.map_map]
  refine List.map_congr_left fun s hs => ?_
  show (look (backD ns) (.int ((ns.idxOf s : Nat) : Int))).getD .non = .str s
  rw [back_at hn (hm s hs)]
  rfl
theorem ordered {P : Prog} {i k kf : Nat} (hi : P.fns[i]? = some (orderedFn kf)) (hkf : P.fns[kf]? = some keyFn) {rk : List (Dee.D × Dee.D)} {ns : List Str} (R : Rk rk ns) {L : List (List Str)} (hm : ∀ z ∈ L, ∀ s ∈ z, s ∈ ns) (hl : L.length < 64) {M : Mem} {Q : Dee.K} {E : Dee.KX}
    (hQ : ∀ zs, Srt ns L zs → Q (.lst (zs.map tm)) M) : wCall P (k + 2) i [.dct false rk, .lst (L.map tm)] M Q E := by
  rw [wCall_succ, hi]
  refine ⟨rfl, ?_⟩
  unfold orderedFn
  have hc : (semAt P (k + 1)).call = wCall P (k + 1) := rfl
  generalize semAt P (k + 1) = F at hc
  simp only [List.map, List.replicate, List.cons_append, List.nil_append, Nat.reduceSub]
  rw [wSs_cons]
  generalize hD : ({ nx := _, rt := _, bk := _, ct := _, ex := _ } : Dee.Ends) = D1
  simp only [wS, wE, wEs, lk, ob, on1, itop, still_lst]
  refine lcL_map (fun x => match x with | .tup ys => keyT ns (ys.map strD) | _ => .non) (fun x hx R' hR => ?_) ?_
  · obtain ⟨z, hz, rfl⟩ := List.mem_map.mp hx
    simp only [wTg, wipeD, tgSlots, List.set, wCs, if_true, wE, wEs, lk, ob, hc]
    refine keyOf hkf R (hm z hz) ?_
    have hR : R' (some (keyT ns ((z.map D.str).map strD))) M := hR
    rw [strD_map] at hR
    exact hR
  · have ek : (L.map tm).map (fun x => match x with | .tup ys => keyT ns (ys.map strD) | _ => .non) = L.map (keyT ns) := by
      rw [List.map_map]
      refine List.map_congr_left fun z _ => ?_
      show keyT ns ((z.map D.str).map strD) = _
      rw [strD_map]
    simp only [newL, Bool.false_eq_true, if_false, sq_l, ob, List.nil_append, isTup]
    rw [ek]
    have hmem : ∀ d ∈ L.map (keyT ns), ∃ z ∈ L, d = keyT ns z := fun d hd => by
      obtain ⟨z, hz, rfl⟩ := List.mem_map.mp hd
      exact ⟨z, hz, rfl⟩
    refine ⟨trivial, ⟨by rw [List.length_map]; exact hl, ⟨fun d hd => ?_, fun d hd e he => ?_⟩, .inl fun d hd => ?_, ?_, fun d hd => ?_⟩, fun ys hy hnd hpw => ?_⟩
    · obtain ⟨z, _, rfl⟩ := hmem d hd; exact (keyT_pure ns z).1
    · obtain ⟨z, _, rfl⟩ := hmem d hd
      obtain ⟨z', _, rfl⟩ := hmem e he
      exact keyT_cmp ns z z'
    · obtain ⟨z, _, rfl⟩ := hmem d hd; exact ⟨_, _, rfl⟩
    · refine Nat.le_trans (depL_le (n := 2) fun d hd => ?_) (by decide)
      obtain ⟨z, _, rfl⟩ := hmem d hd
      rw [(keyT_pure ns z).2.2]
      exact Nat.le_refl _
    · obtain ⟨z, _, rfl⟩ := hmem d hd; exact (keyT_pure ns z).2.1
    · obtain ⟨zs, rfl, hz⟩ := unmap (f := keyT ns) (L := L) (ys := ys) fun y hy' => hmem y ((hy y).mp hy')
      have hz2 : zs.Nodup := List.Pairwise.of_map (keyT ns) (fun _ _ hne e => hne (congrArg (keyT ns) e)) hnd
      have S : Srt ns L zs := ⟨hz2, fun z => ⟨hz z, fun h => by
        obtain ⟨w, hw, e⟩ := List.mem_map.mp ((hy (keyT ns z)).mpr (List.mem_map.mpr ⟨z, h, rfl⟩))
        rw [← keyT_inj (hm w (hz w hw)) e]
        exact hw⟩, List.pairwise_map.mp hpw⟩
      simp only [wTg, List.set]
      rw [← hD]
      show wSs _ _ _ _ _
      rw [wSs_cons]
      simp only [wS, wE, wEs, lk, ob, on1, itop, still_dct, R.keys]
      refine lcL_map (fun x => .tup [.int ((ns.idxOf (strD x) : Nat) : Int), x]) (fun x hx R' hR => ?_) ?_
      · obtain ⟨s, hs, rfl⟩ := List.mem_map.mp hx
        simp only [wTg, wipeD, tgSlots, List.set, wCs, if_true, wE, wEs, lk, ob, sub_dct (R.at_ s hs)]
        exact hR
      · have e2 : (ns.map D.str).map (fun x => D.tup [.int ((ns.idxOf (strD x) : Nat) : Int), x]) = ns.map fun s => .tup [.int ((ns.idxOf s : Nat) : Int), .str s] := by
          rw [List.map_map]
          rfl
        simp only [newL, Bool.false_eq_true, if_false, List.nil_append, biop, on1, dc_l, plnM, isTup, sq_l]
        rw [e2]
        simp only [ob]
        rw [dPairs_back]
        simp only [newD, Bool.false_eq_true, if_false]
        refine ⟨fun p hp => ?_, ?_⟩
        · obtain ⟨s, _, rfl⟩ := List.mem_map.mp hp
          rfl
        · simp only [wTg, List.set]
          rw [wSs_cons]
          simp only [wS, wE, wEs, lk, ob, on1, itop, still_lst]
          refine lcL_map (unkeyT ns) (fun x hx R' hR => ?_) ?_
          · obtain ⟨z, hz', rfl⟩ := List.mem_map.mp hx
            unfold keyT
            refine wTg_pair ?_
            simp only [wipeD, tgSlots, tgsSlots, List.append_nil, List.cons_append, List.nil_append, List.set, wCs, if_true, wE, wEs, lk, ob, on1, itop, still_tup]
            refine lcL_map (fun x => (look (backD ns) x).getD .non) (fun x hx R2 hR2 => ?_) ?_
            · obtain ⟨s, hs, rfl⟩ := List.mem_map.mp hx
              have hb := back_at R.nd (hm z (hz z hz') s hs)
              have hR2 : R2 (some ((look (backD ns) (.int ((ns.idxOf s : Nat) : Int))).getD .non)) M := hR2
              rw [hb] at hR2
              simp only [wTg, wipeD, tgSlots, List.set, wCs, if_true, wE, wEs, lk, ob]
              show subop (.dct false (backD ns)) _ _ _
              unfold subop
              simp only [dctM, isKey, Bool.not_false, true_and, hb, ob]
              exact hR2
            · simp only [newL, newT, biop, on1, Bool.false_and, Bool.false_eq_true, if_false, sq_l, ob, List.nil_append]
              exact hR
          · simp only [newL, Bool.false_eq_true, if_false, List.nil_append]
            have e3 : (zs.map (keyT ns)).map (unkeyT ns) = zs.map tm := by
              rw [List.map_map]
              refine List.map_congr_left fun z hz' => ?_
              show D.tup ((rkI ns z).map fun x => (look (backD ns) x).getD .non) = tm z
              rw [unkey_key R.nd (hm z (hz z hz'))]
            rw [e3]
            exact hQ zs S
end DL

set_option Elab.async false
set_option linter.all false
set_option autoImplicit false
set_option maxRecDepth 100000
set_option maxHeartbeats 1000000
/-! Dee: terms: all parts in their order. -/
namespace DL
open PySem Dee
theorem look_none {kvs : List (Dee.D × Dee.D)} {k : Dee.D} (h : ∀ p ∈ kvs, p.1 ≠ k) : look kvs k = none := by
  unfold look
  rw [List.find?_eq_none.mpr fun p hp => by simpa using h p hp]
  rfl
theorem putAll_nodup : ∀ {ps acc : List (Dee.D × Dee.D)}, ((acc ++ ps).map (·.1)).Nodup → putAll acc ps = acc ++ ps
  | [], acc, _ => by simp [putAll]
  | p :: ps, acc, h => by
    have hk : look acc p.1 = none := look_none fun q hq e => by
      rw [List.map_append, List.nodup_append] at h
      exact h.2.2 q.1 (List.mem_map.mpr ⟨q, hq, rfl⟩) p.1 (by simp) e
    have e : put acc p.1 p.2 = acc ++ [p] := by unfold put; rw [hk]; rfl
    rw [putAll_cons, e, putAll_nodup (by simpa using h)]
    simp
def ranksFn : Fn := ⟨1, 3, [.ret (.bi .dict false [.comp false (.tup [.sub (.var 2) (.int 0), .var 1]) (.tu [.nm 1, .nm 2]) .enm [.var 0] []])]⟩
def rkPairs (ns : List Str) : List (Dee.D × Dee.D) := ns.zipIdx.map fun p => (.str p.1, .int (p.2 : Int))
theorem rkPairs_keys (ns : List Str) : (rkPairs ns).map (·.1) = ns.map D.str := by
  unfold rkPairs
  rw [List.map_map]
  have : ns = ns.zipIdx.map (·.1) := by simp
  conv => rhs; rw [this]
  rw [List.map_map]
  rfl
theorem strs_nodup {ns : List Str} (h : ns.Nodup) : (ns.map D.str).Nodup := List.pairwise_map.mpr (h.imp fun hne e => hne (by injection e))
theorem rkPairs_all {ns : List Str} (h : ns.Nodup) : putAll [] (rkPairs ns) = rkPairs ns := by
  have := putAll_nodup (ps := rkPairs ns) (acc := []) (by rw [List.nil_append, rkPairs_keys]; exact strs_nodup h)
  simpa using this
theorem rk_ok {ns : List Str} (h : ns.Nodup) : Rk (putAll [] (rkPairs ns)) ns := ⟨by rw [rkPairs_all h, rkPairs_keys], h, fun s hs => look_putAll_mem (by rw [rkPairs_keys]; exact strs_nodup h) (List.mem_map.mpr ⟨(s, ns.idxOf s), by
  rw [List.mk_mem_zipIdx_iff_getElem?]
  have hl : ns.idxOf s < ns.length := List.idxOf_lt_length_of_mem hs
  rw [List.getElem?_eq_getElem hl, List.getElem_idxOf hl], rfl⟩)⟩
theorem dPairs_rk : ∀ (l : List (Str × Nat)), dPairs (l.map fun p => .tup [.str p.1, .int (p.2 : Int)]) = some (l.map fun p => (.str p.1, .int (p.2 : Int)))
  | [] => rfl
  | p :: l => by
    rw [List.map_cons, List.map_cons]
    show (dPairs _).map _ = _
    rw [dPairs_rk l]
    rfl
theorem enm_signs {xs : List Dee.D} (h : xs.all isSign = true) (g : Dee.D → Dee.D) (hg : ∀ x ∈ xs, ∀ i : Int, g (.tup [.int i, x]) = .tup [.str (nmS x), .int i]) : (enmL xs).map g = (xs.map nmS).zipIdx.map fun p => .tup [.str p.1, .int (p.2 : Int)] := by
  unfold enmL
  rw [List.map_map, List.zipIdx_map, List.map_map]
  refine List.map_congr_left fun p hp => ?_
  obtain ⟨x, i⟩ := p
  have hx : x ∈ xs := by
    have := List.mk_mem_zipIdx_iff_getElem?.mp hp
    exact List.mem_of_getElem? this
  show g (.tup [.int (i : Int), x]) = _
  rw [hg x hx]
  rfl
theorem ranks {P : Prog} {i k : Nat} (hi : P.fns[i]? = some ranksFn) {xs : List Dee.D} (S : Sg xs 8) {M : Mem} {Q : Dee.K} {E : Dee.KX} (hQ : Q (.dct false (putAll [] (rkPairs (xs.map nmS)))) M) : wCall P (k + 1) i [.tup xs] M Q E := by
  rw [wCall_succ, hi]
  refine ⟨rfl, ?_⟩
  unfold ranksFn
  generalize semAt P k = F
  simp only [List.map, List.replicate, List.cons_append, List.nil_append, Nat.reduceSub]
  rw [wSs_cons]
  simp only [wS, wE, wEs, lk, ob, on1, itop, stillS]
  refine lcL_map (fun d => match d with | .tup [a, x] => .tup [fst0 x, a] | _ => .non) (fun x hx R' hR => ?_) ?_
  · unfold enmL at hx
    obtain ⟨⟨y, j⟩, hp, rfl⟩ := List.mem_map.mp hx
    have hy : y ∈ xs := List.mem_of_getElem? (List.mk_mem_zipIdx_iff_getElem?.mp hp)
    obtain ⟨s, z, rfl, _⟩ := S.it y hy
    refine wTg_pair ?_
    simp only [wipeD, tgSlots, tgsSlots, List.append_nil, List.cons_append, List.nil_append, List.set, wCs, if_true, wE, wEs, lk, ob, sub_tup (xs := [.str s, .int z]) (i := 0) (v := .str s) (by decide) rfl]
    exact hR
  · simp only [newL, Bool.false_eq_true, if_false, List.nil_append, biop, on1, dc_l, plnM, isTup, sq_l]
    rw [enm_signs S.all _ fun x hx i => by
      obtain ⟨s, z, rfl, _⟩ := S.it x hx
      rfl]
    simp only [ob]
    rw [dPairs_rk]
    simp only [newD, Bool.false_eq_true, if_false]
    exact ⟨fun p hp => by obtain ⟨q, _, rfl⟩ := List.mem_map.mp hp; rfl, hQ⟩
/-! ### parts within -/
noncomputable def allParts (kv : List (Dee.D × Dee.D)) (ts : List Str) : List (List Str) := (List.range ts.length).map (partOf kv ts)
theorem allParts_tm (kv : List (Dee.D × Dee.D)) (ts : List Str) (g : Dee.D → Dee.D) (hg : ∀ i : Nat, g (.int (i : Int)) = tm (partOf kv ts i)) : (rngF (ts.length : Int)).map g = (allParts kv ts).map tm := by
  unfold rngF allParts
  rw [List.map_map, List.map_map, Int.toNat_natCast]
  refine List.map_congr_left fun i _ => hg i
def withinFn (pe : Nat) : Fn := ⟨2, 5, [.asg (.nm 2) (.lst true []), .for (.nm 3) .seq [.var 1] [.expr (.mth .extend (.var 2) [.comp false (.slc (.var 3) (some (.var 4)) (some (.call pe [.var 0, .var 3, .var 4]))) (.nm 4) .rng [.bi .len false [.var 3]] []])], .frz 2, .ret (.var 2)]⟩
theorem within {P : Prog} {i k pe : Nat} (hi : P.fns[i]? = some (withinFn pe)) (hp : PartAt P pe k) {kv : List (Dee.D × Dee.D)} (K : Known kv) {tss : List (List Str)} (ht : ∀ z ∈ tss, isTm kv (tm z) = true) (hl : (tss.flatMap (allParts kv)).length ≤ 1000) {M : Mem} {Q : Dee.K} {E : Dee.KX}
    (hQ : Q (.lst ((tss.flatMap (allParts kv)).map tm)) M) : wCall P (k + 1) i [.dct false kv, .lst (tss.map tm)] M Q E := by
  rw [wCall_succ, hi]
  refine ⟨rfl, ?_⟩
  unfold withinFn
  have hc : (semAt P k).call = wCall P k := rfl
  generalize semAt P k = F at hc
  simp only [List.map, List.replicate, List.cons_append, List.nil_append, Nat.reduceSub]
  rw [wSs_cons]
  generalize hD : ({ nx := _, rt := _, bk := _, ct := _, ex := _ } : Dee.Ends) = D1
  simp only [wS, wE, wEs, newL, if_true]
  intro a ha
  simp only [wTg, List.set]
  rw [← hD]
  show wSs _ _ _ _ _
  rw [wSs_cons]
  generalize hD : ({ nx := _, rt := _, bk := _, ct := _, ex := _ } : Dee.Ends) = D2
  simp only [wS, wE, wEs, lk, ob, itop, on1, still_lst]
  refine forL_at (fun n σ M' => (∃ x3 x4, σ = [some (.dct false kv), some (.lst (tss.map tm)), some (.ref a), x3, x4]) ∧ M' a = some (.lst (((tss.take n).flatMap (allParts kv)).map tm)) ∧ ∀ z, z ≠ a → M' z = M z)
    (fun n x hx σ M' R hI hR => ?_) ⟨⟨_, _, rfl⟩, up_at, fun z hz => up_of_ne hz⟩ fun σ M' hI => ?_
  · obtain ⟨⟨x3, x4, rfl⟩, hM, hoff⟩ := hI
    rw [List.getElem?_map] at hx
    obtain ⟨z, hz, rfl⟩ := Option.map_eq_some_iff.mp hx
    have hzm := List.mem_of_getElem? hz
    obtain ⟨l1, l2, hk, hs⟩ := isTm_tm' (ht z hzm)
    have etake : tss.take (n + 1) = tss.take n ++ [z] := by rw [List.take_succ, hz]; rfl
    have hle : ((tss.take (n + 1)).flatMap (allParts kv)).length ≤ 1000 := by
      refine Nat.le_trans ?_ hl
      conv => rhs; rw [← List.take_append_drop (n + 1) tss, List.flatMap_append, List.length_append]
      omega
    rw [etake, List.flatMap_append, List.length_append, show [z].flatMap (allParts kv) = allParts kv z by simp] at hle
    simp only [wTg, List.set]
    rw [wSs_cons]
    generalize hD3 : ({ nx := _, rt := _, bk := _, ct := _, ex := _ } : Dee.Ends) = D3
    simp only [wS, wE, wEs, lk, ob, mtIs, isTup, seq_at hM, Option.isSome_some, true_and, on1, biop, dc_t, sq_t, List.length_map, itop, onI]
    refine ⟨⟨by omega, by unfold line; omega⟩, ?_⟩
    refine lcL_map (fun d => match d with | .int i => tm (partOf kv z i.toNat) | _ => .non) (fun x hx R' hR' => ?_) ?_
    · obtain ⟨j, rfl, hj⟩ := rng_mem hx
      simp only [wTg, wipeD, tgSlots, List.set, wCs, if_true]
      have hR' : R' (some (tm (partOf kv z ((j : Int)).toNat))) M' := hR'
      rw [Int.toNat_natCast] at hR'
      have key : wE F (.slc (.var 3) (some (.var 4)) (some (.call pe [.var 0, .var 3, .var 4]))) [some (.dct false kv), some (.lst (tss.map tm)), some (.ref a), some (tm z), some (.int (j : Int))] M' (fun y M3 => R' (some y) M3) fun _ _ => False :=
        slice_part hc hp K hk hs hj rfl rfl rfl hR'
      simp only [wE, ob] at key
      exact key
    · rw [allParts_tm kv z _ fun i => by show tm (partOf kv z ((i : Int)).toNat) = _; rw [Int.toNat_natCast]]
      simp only [newL, Bool.false_eq_true, if_false, List.nil_append, mthop, onR, atL, hM, ob, on1, sq_l]
      refine ⟨fun b e => (nomatch e), by rw [List.length_map, List.length_map]; unfold line; omega, ?_⟩
      rw [← hD3]
      show wSs _ _ _ _ _
      rw [wSs_nil]
      refine hR _ _ ⟨⟨_, _, rfl⟩, ?_, fun b hb => by rw [up_of_ne hb]; exact hoff b hb⟩
      rw [up_at, etake, List.flatMap_append, List.map_append]
      simp
  · obtain ⟨⟨x3, x4, rfl⟩, hM, hoff⟩ := hI
    rw [List.length_map, List.take_length] at hM
    rw [← hD]
    show wSs _ _ _ _ _
    rw [wSs_cons]
    simp only [wS, lk, ob, onR, hM, iceOk, true_and, MO.ice, List.set]
    rw [del_back ha hoff, wSs_cons]
    simp only [wS, wE, lk, ob]
    exact hQ
/-! ### parts -/
def partsFn (a n od rk pw : Nat) : Fn := ⟨2, 3, [.asg (.nm 2) (.call a [.var 0]), .expr (.call n [.var 2, .var 1]), .ret (.bi .tuple false [.call od [.call rk [.var 0], .call pw [.var 2, .lst false [.var 1]]]])]⟩
theorem names_mem {xs : List Dee.D} (S : Sg xs 8) {s : Str} (h : (arO (kvOf xs) s).isSome = true) : s ∈ xs.map nmS := by
  obtain ⟨j, hx, _⟩ := arO_mem (S.signs (by decide)) h
  exact List.mem_map.mpr ⟨_, hx, rfl⟩
theorem partsT {P : Prog} {i k a n od rk pw pe kf : Nat} (hi : P.fns[i]? = some (partsFn a n od rk pw)) (ha : ArAt P a (k + 2)) (hn : NeedAt P n (k + 2)) (hod : P.fns[od]? = some (orderedFn kf)) (hkf : P.fns[kf]? = some keyFn) (hrk : P.fns[rk]? = some ranksFn) (hpw : P.fns[pw]? = some (withinFn pe)) (hp : PartAt P pe (k + 1))
    {xs : List Dee.D} (S : Sg xs 8) {ts : List Str} (ht : isTm (kvOf xs) (tm ts) = true) {M : Mem} {Q : Dee.K} {E : Dee.KX}
    (hQ : ∀ zs, Srt (xs.map nmS) (allParts (kvOf xs) ts) zs → Q (.tup (zs.map tm)) M) : wCall P (k + 3) i [.tup xs, tm ts] M Q E := by
  rw [wCall_succ, hi]
  refine ⟨rfl, ?_⟩
  unfold partsFn
  have hc : (semAt P (k + 2)).call = wCall P (k + 2) := rfl
  generalize semAt P (k + 2) = F at hc
  simp only [List.map, List.replicate, List.cons_append, List.nil_append, Nat.reduceSub]
  have K := known_signs (S.signs (by decide))
  obtain ⟨l1, l2, hk, hs⟩ := isTm_tm' ht
  have hap : (allParts (kvOf xs) ts).length = ts.length := by unfold allParts; simp
  rw [wSs_cons]
  generalize hD : ({ nx := _, rt := _, bk := _, ct := _, ex := _ } : Dee.Ends) = D1
  simp only [wS, wE, wEs, lk, ob, hc]
  refine ha S ?_
  simp only [wTg, List.set]
  rw [← hD]
  show wSs _ _ _ _ _
  rw [wSs_cons]
  generalize hD : ({ nx := _, rt := _, bk := _, ct := _, ex := _ } : Dee.Ends) = D2
  simp only [wS, wE, wEs, lk, ob, hc]
  refine hn K (tm_pvS S ht) (fun _ => ?_) fun e => by rw [ht] at e; cases e
  rw [← hD]
  show wSs _ _ _ _ _
  rw [wSs_cons]
  simp only [wS, wE, wEs, lk, ob, hc, newL, Bool.false_eq_true, if_false]
  refine ranks (k := k + 1) hrk S ?_
  refine within (k := k + 1) (tss := [ts]) hpw hp K (fun z hz => by have : z = ts := by simpa using hz
                                                                    subst this; exact ht) (by simp [hap]; omega) ?_
  rw [show [ts].flatMap (allParts (kvOf xs)) = allParts (kvOf xs) ts by simp]
  refine ordered (k := k) hod hkf (rk_ok S.nd) (fun z hz s hs' => ?_) (by omega) fun zs hzs => ?_
  · obtain ⟨i, hi', rfl⟩ := List.mem_map.mp hz
    exact names_mem S (part_kn hk i s hs')
  · simp only [biop, on1, sq_l, ob, newT, Bool.false_and, Bool.false_eq_true, if_false]
    exact hQ zs hzs
end DL

set_option Elab.async false
set_option linter.all false
set_option autoImplicit false
set_option maxRecDepth 100000
set_option maxHeartbeats 1000000
/-! Dee: terms as the law tells them: parts. -/
namespace DL
open PySem Dee
def lendFn : Fn := ⟨3, 6, [.asg (.tu [.nm 4, .nm 5]) (.tup [.int 1, .var 2]), .for (.nm 3) .rng [.bi .len false [.var 1]] [.ifs (.cmp .gt (.var 4) (.int 0)) [.asg (.nm 4) (.bin .sub (.bin .add (.var 4) (.sub (.var 0) (.sub (.var 1) (.var 5)))) (.int 1)), .asg (.nm 5) (.bin .add (.var 5) (.int 1))] []], .ret (.var 5)]⟩
theorem lend {P : Prog} {i k : Nat} (hi : P.fns[i]? = some lendFn) {kv : List (Dee.D × Dee.D)} (K : Known kv) {ts : List Str} (hk : Kn kv ts) {a q : Nat} (hq : 1 ≤ q) (hl : ts.length ≤ 1000) (hs : Tm.st ((wd kv ts).drop a) q = some 0) {M : Mem} {Q : Dee.K} {E : Dee.KX}
    (hQ : Q (.int ((a + Tm.len1 ((wd kv ts).drop a) 1 : Nat) : Int)) M) : wCall P (k + 1) i [.dct false kv, tm ts, .int (a : Int)] M Q E := by
  rw [wCall_succ, hi]
  refine ⟨rfl, ?_⟩
  unfold lendFn
  generalize semAt P k = F
  simp only [List.map, List.replicate, List.cons_append, List.nil_append, Nat.reduceSub]
  rw [wSs_cons]
  simp only [wS, wE, wEs, lk, ob, wTg, wTgs, onT, List.set]
  rw [wSs_cons]
  generalize hD : ({ nx := _, rt := _, bk := _, ct := _, ex := _ } : Dee.Ends) = D1
  simp only [wS, wE, wEs, lk, ob, on1, biop, dc_t, sq_t, List.length_map, itop, onI]
  refine ⟨⟨by omega, by unfold line; omega⟩, ?_⟩
  refine forL_at (fun n σ M' => M' = M ∧ ∃ (o b : Nat) (x3 : Option Dee.D), σ = [some (.dct false kv), some (tm ts), some (.int (a : Int)), x3, some (.int (o : Int)), some (.int (b : Int))] ∧ (∃ p, o ≤ p ∧ Tm.st ((wd kv ts).drop b) p = some 0) ∧ b + Tm.len1 ((wd kv ts).drop b) o = a + Tm.len1 ((wd kv ts).drop a) 1 ∧ (o = 0 ∨ b = a + n))
    (fun n x hx σ M' R hI hR => ?_) ⟨rfl, 1, a, none, rfl, ⟨q, hq, hs⟩, rfl, .inr rfl⟩ fun σ M' hI => ?_
  · obtain ⟨rfl, o, b, x3, rfl, ⟨p, hp, hst⟩, hg, hor⟩ := hI
    simp only [wTg, List.set]
    rw [wSs_cons]
    simp only [wS, wE, wEs, wO, wAnd, wOr, wCs, wSs_nil, lk, ob, onI, on1, on2, asB, isiop, tyOf, cmpop, iceL, D.dep, depL, plt, binop, catop, biop, inop, seqM, dctM, isTup, wTg, wTgs, onT, List.set, newL, newT, plnM, Bool.false_and, newD, wipeD, tgSlots, tgsSlots, List.append_nil, List.nil_append, List.cons_append, if_true, if_false, Bool.false_eq_true, reduceIte, Bool.not_true, Bool.not_false]
    by_cases h0 : o = 0
    · subst h0
      simp only [Int.natCast_zero, Int.lt_irrefl, decide_false, Bool.false_eq_true, if_false]
      exact hR _ _ ⟨rfl, 0, b, _, rfl, ⟨p, hp, hst⟩, hg, .inl rfl⟩
    · have hb : b < ts.length := by
        by_cases z : b < ts.length
        · exact z
        · rw [List.drop_eq_nil_of_le (by simpa [wd] using z)] at hst
          have := Tm.st_nil hst
          omega
      have hbn : b = a + n := by
        rcases hor with h | h
        · exact absurd h h0
        · exact h
      obtain ⟨ha, _⟩ := K.at (hk _ (List.getElem_mem hb))
      have hd : (wd kv ts).drop b = arN kv ts[b] :: (wd kv ts).drop (b + 1) := by
        rw [List.drop_eq_getElem_cons (by simpa [wd] using hb)]
        simp [wd]
      rw [if_pos (by simp; omega)]
      rw [wSs_cons]
      simp only [wS, wE, lk, ob, sub_tm hb, sub_dct ha, binop, onI, wTg, List.set]
      rw [wSs_cons]
      simp only [wS, wE, lk, ob, binop, onI, wTg, List.set, wSs_nil]
      obtain ⟨o', rfl⟩ : ∃ o', o = o' + 1 := ⟨o - 1, by omega⟩
      obtain ⟨p', rfl⟩ : ∃ p', p = p' + 1 := ⟨p - 1, by omega⟩
      rw [hd] at hst hg
      refine hR _ _ ⟨rfl, o' + arN kv ts[b], b + 1, some x, ?_, ⟨p' + arN kv ts[b], by omega, hst⟩, ?_, .inr (by omega)⟩
      · have e1 : ((o' + 1 : Nat) : Int) + (arN kv ts[b] : Int) - 1 = ((o' + arN kv ts[b] : Nat) : Int) := by omega
        rw [e1]
        rfl
      · rw [← hg]
        show b + 1 + Tm.len1 ((wd kv ts).drop (b + 1)) (o' + arN kv ts[b]) = b + (Tm.len1 ((wd kv ts).drop (b + 1)) (o' + arN kv ts[b]) + 1)
        omega
  · obtain ⟨rfl, o, b, x3, rfl, ⟨p, hp, hst⟩, hg, hor⟩ := hI
    rw [show (rngF (ts.length : Int)).length = ts.length by unfold rngF; simp] at hor
    have h0 : o = 0 := by
      rcases hor with h | h
      · exact h
      · rw [List.drop_eq_nil_of_le (by simp [wd]; omega)] at hst
        have := Tm.st_nil hst
        omega
    subst h0
    rw [Tm.len1_zero, Nat.add_zero] at hg
    rw [← hD]
    show wSs _ _ _ _ _
    rw [wSs_cons]
    simp only [wS, wE, lk, ob]
    rw [hg]
    exact hQ
def lpartFn (le : Nat) : Fn := ⟨3, 3, [.ret (.slc (.var 1) (some (.var 2)) (some (.call le [.var 0, .var 1, .var 2])))]⟩
theorem lpart {P : Prog} {i k le : Nat} (hi : P.fns[i]? = some (lpartFn le)) (hle : P.fns[le]? = some lendFn) {kv : List (Dee.D × Dee.D)} (K : Known kv) {ts : List Str} (ht : isTm kv (tm ts) = true) {j : Nat} (hj : j < ts.length) {M : Mem} {Q : Dee.K} {E : Dee.KX}
    (hQ : Q (tm (partOf kv ts j)) M) : wCall P (k + 2) i [.dct false kv, tm ts, .int (j : Int)] M Q E := by
  rw [wCall_succ, hi]
  refine ⟨rfl, ?_⟩
  unfold lpartFn
  have hc : (semAt P (k + 1)).call = wCall P (k + 1) := rfl
  generalize semAt P (k + 1) = F at hc
  simp only [List.map, List.replicate, List.cons_append, List.nil_append, Nat.reduceSub]
  obtain ⟨l1, l2, hk, hs⟩ := isTm_tm' ht
  obtain ⟨q, hq, h⟩ := Tm.st_drop _ _ j hs (by simpa [wd] using hj)
  obtain ⟨h1, h2, h3, h4⟩ := part_len hs hj
  rw [wSs_cons]
  simp only [wS, wE, wO, wEs, lk, ob, onI, hc]
  refine lend hle K hk hq (by omega) h ?_
  simp only [slcop]
  rw [wd_drop, cut_tm h1]
  exact hQ
theorem sub_last {M : Mem} {p : Nat} {xs : List Dee.D} {v : Dee.D} {Q : Dee.D → Prop} (h : M p = some (.lst (xs ++ [v]))) : subop (.ref p) (.int (-1)) M Q = Q v := by
  have e : Dee.ixN (xs ++ [v]).length (-1) = some xs.length := by
    unfold Dee.ixN
    rw [if_neg (by omega), if_pos (by simp; omega)]
    simp
    omega
  unfold subop
  simp only [dctM, seqM, h, onI, ob, e]
  simp
def lgivenFn (lp : Nat) : Fn := ⟨2, 5, [.asg (.tu [.nm 3, .nm 4]) (.tup [.lst true [], .int 1]), .for (.nm 2) .rng [.sub (.var 0) (.sub (.var 1) (.int 0))] [.expr (.mth .append (.var 3) [.call lp [.var 0, .var 1, .var 4]]), .asg (.nm 4) (.bin .add (.var 4) (.bi .len false [.sub (.var 3) (.neg (.int 1))]))], .frz 3, .ret (.var 3)]⟩
theorem lgiven {P : Prog} {i k lp le : Nat} (hi : P.fns[i]? = some (lgivenFn lp)) (hlp : P.fns[lp]? = some (lpartFn le)) (hle : P.fns[le]? = some lendFn) {kv : List (Dee.D × Dee.D)} (K : Known kv) {t : Str} {ts : List Str} (ht : isTm kv (tm (t :: ts)) = true) {M : Mem} {Q : Dee.K} {E : Dee.KX}
    (hQ : Q (.lst ((Tm.given (arN kv) (arN kv t) ts).map tm)) M) : wCall P (k + 3) i [.dct false kv, tm (t :: ts)] M Q E := by
  rw [wCall_succ, hi]
  refine ⟨rfl, ?_⟩
  unfold lgivenFn
  have hc : (semAt P (k + 2)).call = wCall P (k + 2) := rfl
  generalize semAt P (k + 2) = F at hc
  simp only [List.map, List.replicate, List.cons_append, List.nil_append, Nat.reduceSub]
  obtain ⟨l1, l2, hk, hs⟩ := isTm_tm' ht
  rw [wSs_cons]
  generalize hD : ({ nx := _, rt := _, bk := _, ct := _, ex := _ } : Dee.Ends) = D1
  simp only [wS, wE, wEs, newL, if_true]
  intro a ha
  simp only [wTg, wTgs, onT, List.set]
  rw [← hD]
  show wSs _ _ _ _ _
  rw [wSs_cons]
  generalize hD : ({ nx := _, rt := _, bk := _, ct := _, ex := _ } : Dee.Ends) = D2
  obtain ⟨hlook, h3⟩ := K.at (hk t (by simp))
  have g0 : subop (tm (t :: ts)) (.int 0) = fun M Q => Q (.str t) := by
    funext M Q
    exact sub_tup (by decide) rfl
  simp only [wS, wE, wEs, lk, ob, g0, sub_dct hlook, itop, onI]
  refine ⟨⟨by omega, by unfold line; omega⟩, ?_⟩
  generalize hT : t :: ts = us at hk hs ht l1 l2
  refine forL_at (fun n σ M' => (∃ (c b : Nat) (acc : List (List Str)) (x2 : Option Dee.D), σ = [some (.dct false kv), some (tm us), x2, some (.ref a), some (.int (b : Int))] ∧ M' a = some (.lst (acc.map tm)) ∧ n + c = arN kv t ∧ acc ++ Tm.given (arN kv) c (us.drop b) = Tm.given (arN kv) (arN kv t) ts ∧ Tm.st ((wd kv us).drop b) c = some 0) ∧ ∀ z, z ≠ a → M' z = M z)
    (fun n x hx σ M' R hI hR => ?_) ⟨⟨arN kv t, 1, [], none, rfl, up_at, by omega, by rw [← hT]; rfl, by rw [← hT]; rw [← hT] at hs; simpa [Tm.st, wd] using hs⟩, fun z hz => up_of_ne hz⟩ fun σ M' hI => ?_
  · obtain ⟨⟨c, b, acc, x2, rfl, hM, hnc, hg, hst⟩, hoff⟩ := hI
    have hn : n < arN kv t := by
      have := (List.getElem?_eq_some_iff.mp hx).1
      unfold rngF at this
      simpa using this
    obtain ⟨c, rfl⟩ : ∃ c', c = c' + 1 := ⟨c - 1, by omega⟩
    have hb : b < us.length := by
      by_cases z : b < us.length
      · exact z
      · rw [List.drop_eq_nil_of_le (by simpa [wd] using z)] at hst
        have := Tm.st_nil hst
        omega
    obtain ⟨m1, m2, m3⟩ := Tm.st_len1 _ _ 1 hst (by omega)
    obtain ⟨p1, p2, p3, p4⟩ := part_len hs hb
    have hacc : acc.length ≤ arN kv t := by
      have := congrArg List.length hg
      rw [List.length_append, given_len, given_len] at this
      omega
    simp only [wTg, List.set]
    rw [wSs_cons]
    generalize hD3 : ({ nx := _, rt := _, bk := _, ct := _, ex := _ } : Dee.Ends) = D3
    simp only [wS, wE, wEs, lk, ob, mtIs, isTup, seq_at hM, Option.isSome_some, true_and, hc]
    refine lpart hlp hle K ht hb ?_
    refine append_at hM (by rw [List.length_map]; unfold line; omega) ?_
    rw [← hD3]
    show wSs _ _ _ _ _
    rw [wSs_cons]
    simp only [wS, wE, wEs, lk, ob, onI, sub_last (up_at (M := M') (p := a)), on1, biop, dc_t, sq_t, List.length_map, binop, wTg, List.set, wSs_nil]
    rw [wd_drop] at m1 m2 m3
    refine hR _ _ ⟨⟨c, b + (partOf kv us b).length, acc ++ [partOf kv us b], some x, rfl, by rw [up_at, List.map_append]; rfl, by omega, ?_, ?_⟩, fun z hz => by rw [up_of_ne hz]; exact hoff z hz⟩
    · rw [← hg, List.append_assoc, p2, ← List.drop_drop]
      rfl
    · rw [p2, wd_drop, ← List.drop_drop, ← wd_drop]
      simpa using m3
  · obtain ⟨⟨c, b, acc, x2, rfl, hM, hnc, hg, hst⟩, hoff⟩ := hI
    rw [show (rngF ((arN kv t : Nat) : Int)).length = arN kv t by unfold rngF; simp] at hnc
    have hc0 : c = 0 := by omega
    subst hc0
    rw [← hD]
    show wSs _ _ _ _ _
    rw [wSs_cons]
    simp only [wS, lk, ob, onR, hM, iceOk, true_and, MO.ice, List.set]
    rw [del_back ha hoff, wSs_cons]
    simp only [wS, wE, lk, ob]
    have hg : acc ++ [] = Tm.given (arN kv) (arN kv t) ts := hg
    rw [List.append_nil] at hg
    rw [hg]
    exact hQ
theorem peq_tm (a b : List Str) : peq (tm a) (tm b) = decide (a = b) := by
  have pu : ∀ ts : List Str, pure_ (tm ts) = true := fun ts => by
    show pureL (ts.map D.str) = true
    induction ts with
    | nil => rfl
    | cons t ts ih => show (true && pureL (ts.map D.str)) = true; rw [ih]; rfl
  have h := peq_iff (pu a) (pu b)
  by_cases e : a = b
  · subst e
    rw [h.mpr rfl]; simp
  · rw [peq_no (pu a) (pu b) fun z => e (tm_inj z)]
    simp [e]
theorem dep_tms (L : List (List Str)) : depL (L.map tm) ≤ 1 := depL_le fun x hx => by
  obtain ⟨z, _, rfl⟩ := List.mem_map.mp hx
  rw [tm_dep]
  exact Nat.le_refl _
theorem any_tms (L : List (List Str)) (z : List Str) : ((L.map tm).any fun x => peq x (tm z)) = decide (z ∈ L) := by
  rw [List.any_map]
  induction L with
  | nil => rfl
  | cons y L ih =>
    rw [List.any_cons, ih]
    show (peq (tm y) (tm z) || decide (z ∈ L)) = _
    rw [peq_tm]
    by_cases e : y = z
    · subst e; simp
    · simp [e, Ne.symm e]
def lpartsFn (lp : Nat) : Fn := ⟨2, 6, [.asg (.nm 2) (.lst true []), .for (.nm 3) .seq [.var 1] [.for (.nm 4) .rng [.bi .len false [.var 3]] [.asg (.nm 5) (.call lp [.var 0, .var 3, .var 4]), .ifs (.cmp .notin (.var 5) (.var 2)) [.expr (.mth .append (.var 2) [.var 5])] []]], .frz 2, .ret (.var 2)]⟩
theorem lparts {P : Prog} {i k lp le : Nat} (hi : P.fns[i]? = some (lpartsFn lp)) (hlp : P.fns[lp]? = some (lpartFn le)) (hle : P.fns[le]? = some lendFn) {kv : List (Dee.D × Dee.D)} (K : Known kv) {tss : List (List Str)} (ht : ∀ z ∈ tss, isTm kv (tm z) = true) (hl : (tss.flatMap (allParts kv)).length ≤ 1000) {M : Mem} {Q : Dee.K} {E : Dee.KX}
    (hQ : ∀ L : List (List Str), L.Nodup → (∀ z, z ∈ L ↔ z ∈ tss.flatMap (allParts kv)) → L.length ≤ (tss.flatMap (allParts kv)).length → Q (.lst (L.map tm)) M) : wCall P (k + 3) i [.dct false kv, .lst (tss.map tm)] M Q E := by
  rw [wCall_succ, hi]
  refine ⟨rfl, ?_⟩
  unfold lpartsFn
  have hc : (semAt P (k + 2)).call = wCall P (k + 2) := rfl
  generalize semAt P (k + 2) = F at hc
  simp only [List.map, List.replicate, List.cons_append, List.nil_append, Nat.reduceSub]
  rw [wSs_cons]
  generalize hD : ({ nx := _, rt := _, bk := _, ct := _, ex := _ } : Dee.Ends) = D1
  simp only [wS, wE, wEs, newL, if_true]
  intro a ha
  simp only [wTg, List.set]
  rw [← hD]
  show wSs _ _ _ _ _
  rw [wSs_cons]
  generalize hD : ({ nx := _, rt := _, bk := _, ct := _, ex := _ } : Dee.Ends) = D2
  simp only [wS, wE, wEs, lk, ob, itop, on1, still_lst]
  refine forL_at (fun n σ M' => (∃ x3 x4 x5, σ = [some (.dct false kv), some (.lst (tss.map tm)), some (.ref a), x3, x4, x5]) ∧ (∃ L : List (List Str), M' a = some (.lst (L.map tm)) ∧ L.Nodup ∧ (∀ z, z ∈ L ↔ z ∈ (tss.take n).flatMap (allParts kv)) ∧ L.length ≤ ((tss.take n).flatMap (allParts kv)).length) ∧ ∀ z, z ≠ a → M' z = M z)
    (fun n x hx σ M' R hI hR => ?_) ⟨⟨_, _, _, rfl⟩, ⟨[], up_at, List.nodup_nil, fun z => by simp, by simp⟩, fun z hz => up_of_ne hz⟩ fun σ M' hI => ?_
  · obtain ⟨⟨x3, x4, x5, rfl⟩, ⟨L, hM, hnd, hmem, hLl⟩, hoff⟩ := hI
    rw [List.getElem?_map] at hx
    obtain ⟨z, hz, rfl⟩ := Option.map_eq_some_iff.mp hx
    have hzm := List.mem_of_getElem? hz
    have hzt := ht z hzm
    obtain ⟨l1, l2, hk, hs⟩ := isTm_tm' hzt
    have etake : tss.take (n + 1) = tss.take n ++ [z] := by rw [List.take_succ, hz]; rfl
    have hle' : ((tss.take (n + 1)).flatMap (allParts kv)).length ≤ 1000 := by
      refine Nat.le_trans ?_ hl
      conv => rhs; rw [← List.take_append_drop (n + 1) tss, List.flatMap_append, List.length_append]
      omega
    have ez : [z].flatMap (allParts kv) = allParts kv z := by simp
    have lz : (allParts kv z).length = z.length := by unfold allParts; simp
    rw [etake, List.flatMap_append, ez, List.length_append] at hle'
    simp only [wTg, List.set]
    rw [wSs_cons]
    generalize hD3 : ({ nx := _, rt := _, bk := _, ct := _, ex := _ } : Dee.Ends) = D3
    simp only [wS, wE, wEs, lk, ob, on1, biop, dc_t, sq_t, List.length_map, itop, onI]
    refine ⟨⟨by omega, by unfold line; omega⟩, ?_⟩
    refine forL_at (fun m σ M' => (∃ x4 x5, σ = [some (.dct false kv), some (.lst (tss.map tm)), some (.ref a), some (tm z), x4, x5]) ∧ (∃ L : List (List Str), M' a = some (.lst (L.map tm)) ∧ L.Nodup ∧ (∀ y, y ∈ L ↔ y ∈ (tss.take n).flatMap (allParts kv) ∨ ∃ j, j < m ∧ y = partOf kv z j) ∧ L.length ≤ ((tss.take n).flatMap (allParts kv)).length + m) ∧ ∀ z, z ≠ a → M' z = M z)
      (fun m x hx σ M2 R2 hI hR2 => ?_) ⟨⟨_, _, rfl⟩, ⟨L, hM, hnd, fun y => by rw [hmem]; simp, by omega⟩, hoff⟩ fun σ M2 hI => ?_
    · obtain ⟨⟨x4', x5', rfl⟩, ⟨L, hM, hnd, hmem, hLl⟩, hoff⟩ := hI
      obtain ⟨hm, rfl⟩ : m < z.length ∧ x = .int (m : Int) := by
        unfold rngF at hx
        rw [List.getElem?_map] at hx
        have hm : m < ((z.length : Int)).toNat := by
          by_cases w : m < ((z.length : Int)).toNat
          · exact w
          · rw [List.getElem?_eq_none (by simpa using w)] at hx
            cases hx
        rw [List.getElem?_range hm] at hx
        simp only [Option.map_some, Option.some.injEq] at hx
        exact ⟨by omega, hx.symm⟩
      simp only [wTg, List.set]
      rw [wSs_cons]
      generalize hD4 : ({ nx := _, rt := _, bk := _, ct := _, ex := _ } : Dee.Ends) = D4
      simp only [wS, wE, wEs, lk, ob, hc]
      refine lpart hlp hle K hzt hm ?_
      simp only [wTg, List.set]
      rw [← hD4]
      show wSs _ _ _ _ _
      rw [wSs_cons]
      simp only [wS, wE, lk, ob, cmpop]
      show inop (tm (partOf kv z m)) (.ref a) M2 _
      unfold inop
      simp only [dct_at hM, seq_at hM, ob, any_tms, tm_dep]
      refine ⟨⟨by decide, Nat.le_trans (dep_tms L) (by decide)⟩, ?_⟩
      simp only [asB]
      by_cases hin : partOf kv z m ∈ L
      · simp only [hin, decide_true, Bool.not_true, Bool.false_eq_true, if_false, wSs_nil]
        refine hR2 _ _ ⟨⟨_, _, rfl⟩, ⟨L, hM, hnd, fun y => ?_, by omega⟩, hoff⟩
        rw [hmem]
        constructor
        · rintro (h | ⟨j, h1, h2⟩)
          · exact .inl h
          · exact .inr ⟨j, by omega, h2⟩
        · rintro (h | ⟨j, h1, h2⟩)
          · exact .inl h
          · by_cases e : j = m
            · subst e; rw [h2]; exact (hmem _).mp hin
            · exact .inr ⟨j, by omega, h2⟩
      · simp only [hin, decide_false, Bool.not_false, if_true]
        rw [wSs_cons]
        simp only [wS, wE, wEs, lk, ob, mtIs, isTup, seq_at hM, Option.isSome_some, true_and]
        refine append_at hM (by rw [List.length_map]; unfold line; omega) ?_
        rw [wSs_nil]
        refine hR2 _ _ ⟨⟨_, _, rfl⟩, ⟨L ++ [partOf kv z m], by rw [up_at, List.map_append]; rfl, ?_, fun y => ?_, by rw [List.length_append, List.length_singleton]; omega⟩, fun b hb => by rw [up_of_ne hb]; exact hoff b hb⟩
        · rw [List.nodup_append]
          refine ⟨hnd, by simp, fun y hy w hw => ?_⟩
          have : w = partOf kv z m := by simpa using hw
          subst this
          rintro rfl
          exact hin hy
        · rw [List.mem_append, hmem, List.mem_singleton]
          constructor
          · rintro ((h | ⟨j, h1, h2⟩) | h)
            · exact .inl h
            · exact .inr ⟨j, by omega, h2⟩
            · exact .inr ⟨m, by omega, h⟩
          · rintro (h | ⟨j, h1, h2⟩)
            · exact .inl (.inl h)
            · by_cases e : j = m
              · subst e; exact .inr h2
              · exact .inl (.inr ⟨j, by omega, h2⟩)
    · obtain ⟨⟨x4', x5', rfl⟩, ⟨L, hM, hnd, hmem, hLl⟩, hoff⟩ := hI
      have hlen : (rngF (z.length : Int)).length = z.length := by unfold rngF; simp
      rw [hlen] at hmem hLl
      rw [← hD3]
      show wSs _ _ _ _ _
      rw [wSs_nil]
      refine hR _ _ ⟨⟨_, _, _, rfl⟩, ⟨L, hM, hnd, fun y => ?_, by rw [etake, List.flatMap_append, ez, List.length_append]; omega⟩, hoff⟩
      rw [hmem, etake, List.flatMap_append, ez, List.mem_append]
      unfold allParts
      simp only [List.mem_map, List.mem_range]
      constructor
      · rintro (h | ⟨j, h1, h2⟩)
        · exact .inl h
        · exact .inr ⟨j, h1, h2.symm⟩
      · rintro (h | ⟨j, h1, h2⟩)
        · exact .inl h
        · exact .inr ⟨j, h1, h2.symm⟩
  · obtain ⟨⟨x3, x4, x5, rfl⟩, ⟨L, hM, hnd, hmem, hLl⟩, hoff⟩ := hI
    rw [List.length_map, List.take_length] at hmem hLl
    rw [← hD]
    show wSs _ _ _ _ _
    rw [wSs_cons]
    simp only [wS, lk, ob, onR, hM, iceOk, true_and, MO.ice, List.set]
    rw [del_back ha hoff, wSs_cons]
    simp only [wS, wE, lk, ob]
    exact hQ L hnd hmem hLl
end DL

set_option Elab.async false
set_option linter.all false
set_option autoImplicit false
set_option maxRecDepth 100000
set_option maxHeartbeats 1000000
/-! Dee: terms as the law tells them: order, what they are. -/
namespace DL
open PySem Dee
def lkeyFn : Fn := ⟨2, 5, [.asg (.nm 2) (.comp false (.sub (.var 3) (.int 0)) (.nm 3) .seq [.var 0] []), .ret (.tup [.bi .len false [.var 1], .bi .tuple false [.comp false (.mth .index (.var 2) [.var 4]) (.nm 4) .seq [.var 1] []]])]⟩
theorem findIdx_str {ns : List Str} {s : Str} (h : s ∈ ns) : (ns.map D.str).findIdx? (fun x => peq x (.str s)) = some (ns.idxOf s) := by
  have hl : ns.idxOf s < ns.length := List.idxOf_lt_length_of_mem h
  rw [List.findIdx?_eq_some_iff_getElem]
  refine ⟨by rw [List.length_map]; exact hl, ?_, fun j hj => ?_⟩
  · rw [List.getElem_map, List.getElem_idxOf hl]
    simp [peq]
  · have hjl : j < ns.length := by omega
    rw [List.getElem_map]
    have : ns[j] ≠ s := fun e => by
      have := List.not_of_lt_findIdx (p := (· == s)) (xs := ns) (i := j) hj
      rw [e] at this
      simp at this
    simpa [peq] using this
theorem lkey {P : Prog} {i k : Nat} (hi : P.fns[i]? = some lkeyFn) {xs : List Dee.D} (S : Sg xs 8) {ts : List Str} (hm : ∀ s ∈ ts, s ∈ xs.map nmS) {M : Mem} {Q : Dee.K} {E : Dee.KX} (hQ : Q (keyT (xs.map nmS) ts) M) : wCall P (k + 1) i [.tup xs, tm ts] M Q E := by
  rw [wCall_succ, hi]
  refine ⟨rfl, ?_⟩
  unfold lkeyFn
  generalize semAt P k = F
  simp only [List.map, List.replicate, List.cons_append, List.nil_append, Nat.reduceSub]
  rw [wSs_cons]
  simp only [wS, wE, wEs, lk, ob, on1, itop, still_tup]
  refine lcL_map fst0 (fun x hx R' hR => ?_) ?_
  · obtain ⟨s, z, rfl, _⟩ := S.it x hx
    simp only [wTg, wipeD, tgSlots, List.set, wCs, if_true, wE, lk, ob, sub_tup (xs := [.str s, .int z]) (i := 0) (v := .str s) (by decide) rfl]
    exact hR
  · simp only [newL, Bool.false_eq_true, if_false, List.nil_append, wTg, List.set]
    rw [names_of S.all, wSs_cons]
    simp only [wS, wE, wEs, lk, ob, on1, biop, dc_t, sq_t, List.length_map, itop, still_tup]
    refine lcL_map (fun x => .int (((xs.map nmS).idxOf (strD x) : Nat) : Int)) (fun x hx R' hR => ?_) ?_
    · obtain ⟨s, hs, rfl⟩ := List.mem_map.mp hx
      simp only [wTg, wipeD, tgSlots, List.set, wCs, if_true, wE, wEs, lk, ob, mtIs, isTup, sq_l, Option.isSome_some, true_and, mthop, on1, findIdx_str (hm s hs), dep_strs]
      refine ⟨⟨by show (0 : Nat) ≤ 60; decide, by decide⟩, ?_⟩
      exact hR
    · simp only [newL, newT, Bool.false_and, Bool.false_eq_true, if_false, sq_l, ob, List.nil_append]
      rw [str_mapD fun s => .int (((xs.map nmS).idxOf s : Nat) : Int)]
      exact hQ
theorem strs_cmp : ∀ ts us : List Str, (pltL (ts.map D.str) (us.map D.str)).isSome = true
  | [], [] => rfl
  | [], _ :: _ => rfl
  | _ :: _, [] => rfl
  | t :: ts, u :: us => by
    have ih := strs_cmp ts us
    show (match pltL (ts.map D.str) (us.map D.str) with | none => none | some r => if peq (.str t) (.str u) then some r else plt (.str t) (.str u)).isSome = true
    cases e : pltL (ts.map D.str) (us.map D.str) with
    | none => rw [e] at ih; cases ih
    | some r =>
      dsimp only
      split <;> rfl
def rowT (ns z : List Str) : Dee.D := .tup [keyT ns z, tm z]
theorem tm_pure (ts : List Str) : pure_ (tm ts) = true := by
  show pureL (ts.map D.str) = true
  induction ts with
  | nil => rfl
  | cons t ts ih => show (true && pureL (ts.map D.str)) = true; rw [ih]; rfl
theorem rowT_plt (ns a b : List Str) : ∃ r, plt (tm a) (tm b) = some r ∧ plt (rowT ns a) (rowT ns b) = if peq (keyT ns a) (keyT ns b) then (if peq (tm a) (tm b) then some false else some r) else plt (keyT ns a) (keyT ns b) := by
  obtain ⟨r, hr⟩ := Option.isSome_iff_exists.mp (strs_cmp a b)
  refine ⟨r, hr, ?_⟩
  show (match (match (some false : Option Bool) with | none => none | some r => if peq (tm a) (tm b) then some r else pltL (a.map D.str) (b.map D.str)) with | none => none | some r => if peq (keyT ns a) (keyT ns b) then some r else plt (keyT ns a) (keyT ns b)) = _
  rw [hr]
  dsimp only
  cases peq (tm a) (tm b) <;> cases peq (keyT ns a) (keyT ns b) <;> rfl
theorem rowT_cmp (ns a b : List Str) : (plt (rowT ns a) (rowT ns b)).isSome = true := by
  obtain ⟨r, _, e⟩ := rowT_plt ns a b
  rw [e]
  split
  · split <;> rfl
  · exact keyT_cmp ns a b
theorem fsts_rows (ns : List Str) : ∀ L : List (List Str), fsts (L.map (rowT ns)) = some (L.map (keyT ns))
  | [] => rfl
  | z :: L => by
    rw [List.map_cons, List.map_cons]
    show (fsts (L.map (rowT ns))).map _ = _
    rw [fsts_rows ns L]
    rfl
theorem rows_inj {ns : List Str} {a b : List Str} (h : rowT ns a = rowT ns b) : a = b := by
  unfold rowT at h
  injection h with h
  injection h with _ h
  injection h with h
  exact tm_inj h
def lorderedFn (kf : Nat) : Fn := ⟨2, 5, [.asg (.nm 2) (.bi .sorted false [.comp false (.tup [.call kf [.var 0, .var 4], .var 4]) (.nm 4) .seq [.var 1] []]), .ret (.comp false (.sub (.sub (.var 2) (.var 3)) (.int 1)) (.nm 3) .rng [.bi .len false [.var 2]] [.or [.cmp .eq (.var 3) (.int 0), .cmp .ne (.sub (.sub (.var 2) (.var 3)) (.int 1)) (.sub (.sub (.var 2) (.bin .sub (.var 3) (.int 1))) (.int 1))]])]⟩
theorem nodup_next {α : Type} {zs : List α} (h : zs.Nodup) {i j : Nat} (hi : i < zs.length) (hj : j < zs.length) (e : zs[i] = zs[j]) : i = j := by
  have hp := List.pairwise_iff_getElem.mp h
  rcases Nat.lt_trichotomy i j with z | z | z
  · exact absurd e (hp i j hi hj z)
  · exact z
  · exact absurd e.symm (hp j i hj hi z)
theorem lordered {P : Prog} {i k kf : Nat} (hi : P.fns[i]? = some (lorderedFn kf)) (hkf : P.fns[kf]? = some lkeyFn) {xs : List Dee.D} (S : Sg xs 8) {L : List (List Str)} (hnd : L.Nodup) (hm : ∀ z ∈ L, ∀ s ∈ z, s ∈ xs.map nmS) (hl : L.length < 64) {M : Mem} {Q : Dee.K} {E : Dee.KX}
    (hQ : ∀ zs, Srt (xs.map nmS) L zs → Q (.lst (zs.map tm)) M) : wCall P (k + 2) i [.tup xs, .lst (L.map tm)] M Q E := by
  rw [wCall_succ, hi]
  refine ⟨rfl, ?_⟩
  unfold lorderedFn
  have hc : (semAt P (k + 1)).call = wCall P (k + 1) := rfl
  generalize semAt P (k + 1) = F at hc
  simp only [List.map, List.replicate, List.cons_append, List.nil_append, Nat.reduceSub]
  generalize hns : xs.map nmS = ns at hm hQ
  rw [wSs_cons]
  generalize hD : ({ nx := _, rt := _, bk := _, ct := _, ex := _ } : Dee.Ends) = D1
  simp only [wS, wE, wEs, lk, ob, on1, itop, still_lst]
  refine lcL_map (fun x => match x with | .tup ys => rowT ns (ys.map strD) | _ => .non) (fun x hx R' hR => ?_) ?_
  · obtain ⟨z, hz, rfl⟩ := List.mem_map.mp hx
    simp only [wTg, wipeD, tgSlots, List.set, wCs, if_true, wE, wEs, lk, ob, hc]
    refine lkey hkf S (by rw [hns]; exact hm z hz) ?_
    have hR : R' (some (rowT ns ((z.map D.str).map strD))) M := hR
    rw [strD_map] at hR
    rw [hns]
    exact hR
  · have ek : (L.map tm).map (fun x => match x with | .tup ys => rowT ns (ys.map strD) | _ => .non) = L.map (rowT ns) := by
      rw [List.map_map]
      refine List.map_congr_left fun z _ => ?_
      show rowT ns ((z.map D.str).map strD) = _
      rw [strD_map]
    simp only [newL, Bool.false_eq_true, if_false, biop, on1, sq_l, ob, List.nil_append, isTup]
    rw [ek]
    have hmem : ∀ d ∈ L.map (rowT ns), ∃ z ∈ L, d = rowT ns z := fun d hd => by
      obtain ⟨z, hz, rfl⟩ := List.mem_map.mp hd
      exact ⟨z, hz, rfl⟩
    refine ⟨trivial, ⟨by rw [List.length_map]; exact hl, ⟨fun d hd => ?_, fun d hd e he => ?_⟩, ⟨_, fsts_rows ns L, .inr (.inr fun f hf => ?_)⟩, ?_⟩, fun ys hy hpw => ?_⟩
    · obtain ⟨z, _, rfl⟩ := hmem d hd
      show (pure_ (keyT ns z) && (pure_ (tm z) && true)) = true
      rw [(keyT_pure ns z).1, tm_pure]; rfl
    · obtain ⟨z, _, rfl⟩ := hmem d hd
      obtain ⟨z', _, rfl⟩ := hmem e he
      exact rowT_cmp ns z z'
    · obtain ⟨z, _, rfl⟩ := List.mem_map.mp hf
      exact ⟨_, rfl⟩
    · refine Nat.le_trans (depL_le (n := 3) fun d hd => ?_) (by decide)
      obtain ⟨z, _, rfl⟩ := hmem d hd
      show max (keyT ns z).dep (max (tm z).dep 0) + 1 ≤ 3
      rw [(keyT_pure ns z).2.2, tm_dep]
      decide
    · obtain ⟨zs, rfl, hz⟩ := unmap (f := rowT ns) (L := L) (ys := ys) fun y hy' => hmem y (hy.mem_iff.mp hy')
      have hz2 : zs.Nodup := by
        have h1 : (zs.map (rowT ns)).Nodup := hy.nodup_iff.mpr (List.pairwise_map.mpr (hnd.imp fun hne e => hne (rows_inj e)))
        exact List.Pairwise.of_map (rowT ns) (fun _ _ hne e => hne (congrArg (rowT ns) e)) h1
      have hlen : zs.length = L.length := by simpa using hy.length_eq
      have St : Srt ns L zs := by
        refine ⟨hz2, fun z => ⟨hz z, fun h => ?_⟩, ?_⟩
        · obtain ⟨w, hw, e⟩ := List.mem_map.mp (hy.mem_iff.mpr (List.mem_map.mpr ⟨z, h, rfl⟩))
          rw [← rows_inj e]
          exact hw
        · refine ((List.pairwise_map.mp hpw).and hz2).imp_of_mem fun {a b} ha hb hab => ?_
          obtain ⟨r, _, e⟩ := rowT_plt ns b a
          have hne : peq (keyT ns b) (keyT ns a) = false := peq_no (keyT_pure ns b).1 (keyT_pure ns a).1 fun e => hab.2 (keyT_inj (hm b (hz b hb)) e).symm
          rw [hne, if_neg Bool.false_ne_true] at e
          rw [← e]
          exact hab.1
      simp only [wTg, List.set]
      rw [← hD]
      show wSs _ _ _ _ _
      rw [wSs_cons]
      simp only [wS, wE, wEs, lk, ob, on1, biop, dc_l, sq_l, List.length_map, itop, onI]
      refine ⟨⟨by omega, by unfold line; omega⟩, ?_⟩
      have at1 : ∀ (j : Nat) (hj : j < zs.length) (Q : Dee.D → Prop) (M : Mem), subop (.lst (zs.map (rowT ns))) (.int (j : Int)) M Q = Q (rowT ns zs[j]) := fun j hj Q M => sub_lst (Int.natCast_nonneg j) (by rw [Int.toNat_natCast, List.getElem?_map, List.getElem?_eq_getElem hj]; rfl)
      have at2 : ∀ (z : List Str) (Q : Dee.D → Prop) (M : Mem), subop (rowT ns z) (.int 1) M Q = Q (tm z) := fun z Q M => sub_tup (by decide) rfl
      refine lcL_map (fun d => match d with | .int i => tm (zs.getD i.toNat []) | _ => .non) (fun x hx R' hR => ?_) ?_
      · obtain ⟨j, rfl, hj⟩ := rng_mem hx
        have hR : R' (some (tm (zs.getD ((j : Int)).toNat []))) M := hR
        have eg : zs.getD ((j : Int)).toNat [] = zs[j] := by rw [Int.toNat_natCast, List.getD_eq_getElem?_getD, List.getElem?_eq_getElem hj]; rfl
        rw [eg] at hR
        simp only [wTg, wipeD, tgSlots, List.set, wCs, wOr, wE, lk, ob, cmpop, iceL, D.dep, asB, peq_int]
        refine ⟨by decide, ?_⟩
        by_cases h0 : (j : Int) = 0
        · simp only [h0, decide_true, if_true]
          have hj0 : j = 0 := by omega
          subst hj0
          have e0 : ((0 : Nat) : Int) = 0 := rfl
          have := at1 0 hj (fun v => subop v (.int 1) M fun v => R' (some v) M) M
          rw [at2] at this
          exact Eq.mpr this hR
        · simp only [h0, decide_false, Bool.false_eq_true, if_false]
          obtain ⟨j', rfl⟩ : ∃ j', j = j' + 1 := ⟨j - 1, by omega⟩
          have ej : ((j' + 1 : Nat) : Int) - 1 = (j' : Int) := by omega
          simp only [at1 (j' + 1) hj, at2, binop, onI, ej, at1 j' (by omega), tm_dep, peq_tm]
          refine ⟨⟨by decide, by decide⟩, ?_⟩
          have hne : zs[j' + 1] ≠ zs[j'] := fun e => by
            have := nodup_next hz2 hj (by omega) e
            omega
          simp only [hne, decide_false, Bool.not_false, if_true]
          exact hR
      · have e3 : (rngF (zs.length : Int)).map (fun d => match d with | .int i => tm (zs.getD i.toNat []) | _ => .non) = zs.map tm := by
          unfold rngF
          rw [List.map_map, Int.toNat_natCast]
          apply List.ext_getElem
          · simp
          · intro j h1 h2
            simp only [List.length_map] at h2
            simp [List.getD_eq_getElem?_getD, List.getElem?_eq_getElem h2]
        simp only [newL, Bool.false_eq_true, if_false, List.nil_append]
        rw [e3]
        exact hQ zs St
end DL

set_option Elab.async false
set_option linter.all false
set_option autoImplicit false
set_option maxRecDepth 100000
set_option maxHeartbeats 1000000
/-! Dee: terms as the law tells them: what they are, depth. -/
namespace DL
open PySem Dee
def ltmFn : Fn := ⟨2, 4, [.ifs (.or [.not (.isi (.var 1) [.tuple]), .not (.chain .le .le (.int 1) (.bi .len false [.var 1]) (.int 30))]) [.ret (.bl false)] [], .asg (.nm 2) (.int 1), .for (.nm 3) .seq [.var 1] [.ifs (.or [.cmp .eq (.var 2) (.int 0), .not (.isi (.var 3) [.str]), .cmp .notin (.var 3) (.var 0)]) [.ret (.bl false)] [], .asg (.nm 2) (.bin .sub (.bin .add (.var 2) (.sub (.var 0) (.var 3))) (.int 1))], .ret (.cmp .eq (.var 2) (.int 0))]⟩
theorem ltm {P : Prog} {i k : Nat} (hi : P.fns[i]? = some ltmFn) {kv : List (Dee.D × Dee.D)} (K : Known kv) {L N : Nat} {d : Dee.D} (hd : pv L N d) {M : Mem} {Q : Dee.K} {E : Dee.KX}
    (hQ : Q (.bl (isTm kv d)) M) : wCall P (k + 1) i [.dct false kv, d] M Q E := by
  rw [wCall_succ, hi]
  refine ⟨rfl, ?_⟩
  unfold ltmFn
  generalize semAt P k = F
  simp only [List.map, List.replicate, List.cons_append, List.nil_append, Nat.reduceSub]
  rw [wSs_cons]
  simp only [wS, wE, wOr, lk, ob]
  refine isi_tup (pv_tyd hd) ?_
  simp only [asB]
  cases d with
  | tup xs =>
    obtain ⟨_, m, rfl, hm⟩ := pv_tup hd
    simp only [isTup, Bool.not_true, Bool.false_eq_true, if_false, wE, wEs, lk, ob]
    simp only [wS, wE, wEs, wO, wAnd, wOr, wCs, wSs_nil, lk, ob, onI, on1, on2, asB, isiop, tyOf, cmpop, iceL, D.dep, depL, plt, binop, catop, biop, inop, seqM, dctM, isTup, wTg, wTgs, onT, List.set, newL, newT, plnM, Bool.false_and, newD, wipeD, tgSlots, tgsSlots, List.append_nil, List.nil_append, List.cons_append, if_true, if_false, Bool.false_eq_true, reduceIte, Bool.not_true, Bool.not_false]
    have out : ∀ b, (decide ((1 : Int) ≤ xs.length) && decide ((xs.length : Int) ≤ 30)) = b → isTm kv (.tup xs) = (b && (xs.all (inK kv) && decide (Tm.st (wd kv (xs.map strD)) 1 = some 0))) := fun b hb => by
      show (decide (1 ≤ xs.length) && decide (xs.length ≤ 30) && xs.all (inK kv) && decide (Tm.st (wd kv (xs.map strD)) 1 = some 0)) = _
      rw [← hb, show decide ((1 : Int) ≤ xs.length) = decide (1 ≤ xs.length) by congr 1; exact propext ⟨fun h => by omega, fun h => by omega⟩, show decide ((xs.length : Int) ≤ 30) = decide (xs.length ≤ 30) by congr 1; exact propext ⟨fun h => by omega, fun h => by omega⟩]
      simp only [Bool.and_assoc]
    have rest : isTm kv (.tup xs) = (xs.all (inK kv) && decide (Tm.st (wd kv (xs.map strD)) 1 = some 0)) → wSs F [.asg (.nm 2) (.int 1), .for (.nm 3) .seq [.var 1] [.ifs (.or [.cmp .eq (.var 2) (.int 0), .not (.isi (.var 3) [.str]), .cmp .notin (.var 3) (.var 0)]) [.ret (.bl false)] [], .asg (.nm 2) (.bin .sub (.bin .add (.var 2) (.sub (.var 0) (.var 3))) (.int 1))], .ret (.cmp .eq (.var 2) (.int 0))] [some (.dct false kv), some (.tup xs), none, none] M ⟨fun _ M => Q .non M, Q, fun _ _ => False, fun _ _ => False, fun e _ M => E e M⟩ := fun he => by
      rw [he] at hQ
      rw [wSs_cons]
      simp only [wS, wE, wTg, List.set]
      rw [wSs_cons]
      generalize hD : ({ nx := _, rt := _, bk := _, ct := _, ex := _ } : Dee.Ends) = D1
      have hrt : D1.rt = Q := by rw [← hD]
      simp only [wS, wE, wEs, lk, ob, itop, on1, still_tup]
      have key : ∀ (us : List Dee.D) (o : Nat) (x3 : Option Dee.D), (∀ x ∈ us, tyd x = true) → Q (.bl (us.all (inK kv) && decide (Tm.st (wd kv (us.map strD)) o = some 0))) M → forL (fun x σ M R => wTg (.nm 3) x σ fun σ1 => wSs F [.ifs (.or [.cmp .eq (.var 2) (.int 0), .not (.isi (.var 3) [.str]), .cmp .notin (.var 3) (.var 0)]) [.ret (.bl false)] [], .asg (.nm 2) (.bin .sub (.bin .add (.var 2) (.sub (.var 0) (.var 3))) (.int 1))] σ1 M { D1 with nx := R, ct := R, bk := D1.nx }) D1.nx us [some (.dct false kv), some (.tup xs), some (.int (o : Int)), x3] M := by
        intro us
        induction us with
        | nil =>
          intro o x3 _ hq
          show D1.nx _ M
          rw [← hD]
          show wSs _ _ _ _ _
          rw [wSs_cons]
          simp only [wS, wE, wEs, wO, wAnd, wOr, wCs, wSs_nil, lk, ob, onI, on1, on2, asB, isiop, tyOf, cmpop, iceL, D.dep, depL, plt, binop, catop, biop, inop, seqM, dctM, isTup, wTg, wTgs, onT, List.set, newL, newT, plnM, Bool.false_and, newD, wipeD, tgSlots, tgsSlots, List.append_nil, List.nil_append, List.cons_append, if_true, if_false, Bool.false_eq_true, reduceIte, Bool.not_true, Bool.not_false]
          refine ⟨by decide, ?_⟩
          rw [peq_int, nat_int_zero]
          simpa [Tm.st, wd] using hq
        | cons u us ih =>
          intro o x3 hty hq
          unfold forL
          simp only [wTg, List.set]
          rw [wSs_cons]
          simp only [wS, wE, wOr, lk, ob, cmpop, iceL, D.dep, asB, peq_int, nat_int_zero]
          refine ⟨by decide, ?_⟩
          cases o with
          | zero =>
            simp only [decide_true, if_true]
            rw [wSs_cons]
            simp only [wS, wE, hrt]
            have e0 : Tm.st (wd kv ((u :: us).map strD)) 0 = none := rfl
            rw [e0] at hq
            simpa using hq
          | succ o =>
            rw [show decide (o + 1 = 0) = false by simp]
            simp only [Bool.false_eq_true, if_false]
            refine isi_str (hty u (by simp)) ?_
            have bad : inK kv u = false → wSs F [.ret (.bl false)] [some (.dct false kv), some (.tup xs), some (.int ((o + 1 : Nat) : Int)), some u] M { nx := fun σ1 M1 => wSs F [.asg (.nm 2) (.bin .sub (.bin .add (.var 2) (.sub (.var 0) (.var 3))) (.int 1))] σ1 M1 { D1 with nx := forL (fun x σ M R => wTg (.nm 3) x σ fun σ1 => wSs F [.ifs (.or [.cmp .eq (.var 2) (.int 0), .not (.isi (.var 3) [.str]), .cmp .notin (.var 3) (.var 0)]) [.ret (.bl false)] [], .asg (.nm 2) (.bin .sub (.bin .add (.var 2) (.sub (.var 0) (.var 3))) (.int 1))] σ1 M { D1 with nx := R, ct := R, bk := D1.nx }) D1.nx us, ct := forL (fun x σ M R => wTg (.nm 3) x σ fun σ1 => wSs F [.ifs (.or [.cmp .eq (.var 2) (.int 0), .not (.isi (.var 3) [.str]), .cmp .notin (.var 3) (.var 0)]) [.ret (.bl false)] [], .asg (.nm 2) (.bin .sub (.bin .add (.var 2) (.sub (.var 0) (.var 3))) (.int 1))] σ1 M { D1 with nx := R, ct := R, bk := D1.nx }) D1.nx us, bk := D1.nx }, rt := D1.rt, bk := D1.nx, ct := forL (fun x σ M R => wTg (.nm 3) x σ fun σ1 => wSs F [.ifs (.or [.cmp .eq (.var 2) (.int 0), .not (.isi (.var 3) [.str]), .cmp .notin (.var 3) (.var 0)]) [.ret (.bl false)] [], .asg (.nm 2) (.bin .sub (.bin .add (.var 2) (.sub (.var 0) (.var 3))) (.int 1))] σ1 M { D1 with nx := R, ct := R, bk := D1.nx }) D1.nx us, ex := D1.ex } := fun hb => by
              rw [wSs_cons]
              simp only [wS, wE, hrt]
              rw [List.all_cons, hb] at hq
              simpa using hq
            cases u with
            | str s =>
              simp only [isStrD, asB, Bool.not_true, Bool.false_eq_true, if_false]
              refine in_dct (M := M) ?_
              rw [K.isSome]
              cases ein : (arO kv s).isSome with
              | false =>
                simp only [Bool.not_false, if_true]
                exact bad ein
              | true =>
                simp only [Bool.not_true, Bool.false_eq_true, if_false, wSs_nil]
                obtain ⟨ha, _⟩ := K.at ein
                rw [wSs_cons]
                simp only [wS, wE, lk, ob, sub_dct ha, binop, onI, wTg, List.set, wSs_nil]
                have e1 : ((o + 1 : Nat) : Int) + (arN kv s : Int) - 1 = ((o + arN kv s : Nat) : Int) := by omega
                rw [e1]
                refine ih (o + arN kv s) _ (fun x hx => hty x (by simp [hx])) ?_
                have e2 : Tm.st (wd kv ((D.str s :: us).map strD)) (o + 1) = Tm.st (wd kv (us.map strD)) (o + arN kv s) := rfl
                have e3 : (D.str s :: us).all (inK kv) = us.all (inK kv) := by rw [List.all_cons]; show ((arO kv s).isSome && _) = _; rw [ein]; rfl
                rw [e2, e3] at hq
                exact hq
            | _ =>
              simp only [isStrD, asB, Bool.not_false, if_true]
              exact bad rfl
      exact key xs 1 none (fun x hx => pv_tyd (hm x hx)) hQ
    by_cases h1 : (1 : Int) ≤ xs.length
    · simp only [h1, decide_true, if_true]
      by_cases h2 : (xs.length : Int) ≤ 30
      · simp only [h2, decide_true, Bool.not_true, Bool.false_eq_true, if_false]
        exact rest (by rw [out true (by simp [h1, h2])]; rfl)
      · simp only [h2, decide_false, Bool.not_false, if_true]
        rw [wSs_cons]
        simp only [wS, wE, wEs, wO, wAnd, wOr, wCs, wSs_nil, lk, ob, onI, on1, on2, asB, isiop, tyOf, cmpop, iceL, D.dep, depL, plt, binop, catop, biop, inop, seqM, dctM, isTup, wTg, wTgs, onT, List.set, newL, newT, plnM, Bool.false_and, newD, wipeD, tgSlots, tgsSlots, List.append_nil, List.nil_append, List.cons_append, if_true, if_false, Bool.false_eq_true, reduceIte, Bool.not_true, Bool.not_false]
        rw [out false (by simp [h1, h2])] at hQ
        exact hQ
    · simp only [h1, decide_false, Bool.false_eq_true, if_false, Bool.not_false, if_true]
      rw [wSs_cons]
      simp only [wS, wE, wEs, wO, wAnd, wOr, wCs, wSs_nil, lk, ob, onI, on1, on2, asB, isiop, tyOf, cmpop, iceL, D.dep, depL, plt, binop, catop, biop, inop, seqM, dctM, isTup, wTg, wTgs, onT, List.set, newL, newT, plnM, Bool.false_and, newD, wipeD, tgSlots, tgsSlots, List.append_nil, List.nil_append, List.cons_append, if_true, if_false, Bool.false_eq_true, reduceIte, Bool.not_true, Bool.not_false]
      rw [out false (by simp [h1])] at hQ
      exact hQ
  | _ =>
    simp only [isTup, Bool.not_false, if_true]
    rw [wSs_cons]
    simp only [wS, wE, wEs, wO, wAnd, wOr, wCs, wSs_nil, lk, ob, onI, on1, on2, asB, isiop, tyOf, cmpop, iceL, D.dep, depL, plt, binop, catop, biop, inop, seqM, dctM, isTup, wTg, wTgs, onT, List.set, newL, newT, plnM, Bool.false_and, newD, wipeD, tgSlots, tgsSlots, List.append_nil, List.nil_append, List.cons_append, if_true, if_false, Bool.false_eq_true, reduceIte, Bool.not_true, Bool.not_false]
    exact hQ
end DL

set_option Elab.async false
set_option linter.all false
set_option autoImplicit false
set_option maxRecDepth 100000
set_option maxHeartbeats 1000000
/-! Dee: terms as the law tells them: depth; terms that are drawn. -/
namespace DL
open PySem Dee
/-! ### the stack -/
def skD (S : List Nat) : List Dee.D := S.reverse.map fun (n : Nat) => Dee.D.int (n : Int)
theorem skD_cons (t : Nat) (S : List Nat) : skD (t :: S) = skD S ++ [.int (t : Int)] := by simp [skD]
theorem skD_len (S : List Nat) : (skD S).length = S.length := by simp [skD]
theorem skD_dep (S : List Nat) : (D.lst (skD S)).dep = 1 := by
  show depL (skD S) + 1 = 1
  rw [dep_ints _ fun x hx => by obtain ⟨n, _, rfl⟩ := List.mem_map.mp hx; exact ⟨_, rfl⟩]
theorem set_last {M : Mem} {p : Nat} {xs : List Dee.D} {w v : Dee.D} {Q : Mem → Prop} (h : M p = some (.lst (xs ++ [w]))) : setop (.ref p) (.int (-1)) v M Q = Q (up M p (.lst (xs ++ [v]))) := by
  have e : Dee.ixN (xs ++ [w]).length (-1) = some xs.length := by
    unfold Dee.ixN
    rw [if_neg (by omega), if_pos (by simp; omega)]
    simp
    omega
  unfold setop
  simp only [onR, h, onI, e, ob]
  congr 3
  rw [List.set_append_right _ _ (Nat.le_refl _)]
  simp
theorem itn_succ : ∀ (n : Nat) (S : List Nat), Tm.itn (n + 1) S = Tm.trn (Tm.itn n S)
  | 0, _ => rfl
  | n + 1, S => itn_succ n (Tm.trn S)
def PosT (S : List Nat) : Prop := ∀ t ∈ S.tail, 1 ≤ t
theorem PosT.trn {S : List Nat} (h : PosT S) : PosT (Tm.trn S) := by
  match S, h with
  | [], h => exact h
  | [0], h => intro t ht; cases ht
  | 0 :: t :: S, h => exact fun u hu => h u (by simp only [List.tail_cons] at hu ⊢; exact List.mem_cons_of_mem _ hu)
  | (x + 1) :: S, h => exact h
theorem PosT.itn {S : List Nat} (h : PosT S) : ∀ n, PosT (Tm.itn n S)
  | 0 => h
  | n + 1 => by rw [itn_succ]; exact (PosT.itn h n).trn
theorem cls_pos : ∀ (n : Nat) (S : List Nat), S.length ≤ n → PosT S → (∀ t ∈ Tm.cls S, 1 ≤ t) ∧ (Tm.cls S).length ≤ S.length
  | n, [], _, h => by simp [Tm.cls]
  | 0, _ :: _, hn, _ => by simp at hn
  | n + 1, [0], _, h => by simp [Tm.cls]
  | n + 1, 0 :: t :: S, hn, h => by
    obtain ⟨h1, h2⟩ := cls_pos n ((t - 1) :: S) (by simpa using hn) fun u hu => h u (by simp only [List.tail_cons] at hu ⊢; exact List.mem_cons_of_mem _ hu)
    rw [show Tm.cls (0 :: t :: S) = Tm.cls ((t - 1) :: S) by simp [Tm.cls]]
    exact ⟨h1, by simp only [List.length_cons] at h2 ⊢; omega⟩
  | n + 1, (x + 1) :: S, hn, h => by
    rw [show Tm.cls ((x + 1) :: S) = (x + 1) :: S by simp [Tm.cls]]
    refine ⟨fun t ht => ?_, Nat.le_refl _⟩
    rcases List.mem_cons.mp ht with rfl | ht
    · omega
    · exact h t ht
def clsTurn : List Dee.St := [.ifs (.and [.cmp .ne (.var 4) (.lst false []), .cmp .eq (.sub (.var 4) (.neg (.int 1))) (.int 0)]) [.expr (.mth .pop (.var 4) []), .ifs (.cmp .ne (.var 4) (.lst false [])) [.asub (.var 4) (.neg (.int 1)) (.bin .sub (.sub (.var 4) (.neg (.int 1))) (.int 1))] []] []]
theorem ice_at {M : Mem} {a : Nat} {xs : List Dee.D} (h : M a = some (.lst xs)) : iceL M (.ref a) = .lst xs := by
  unfold iceL
  simp [h]
theorem peq_lst_nil (xs : List Dee.D) : peq (.lst xs) (.lst []) = xs.isEmpty := by
  show peqL xs [] = _
  exact peqL_nil xs
theorem cls_turn {F : Dee.Sem} {x0 x1 x2 x3 x5 : Option Dee.D} {a : Nat} {S : List Nat} {M : Mem} {Dn : Dee.Ends} (hM : M a = some (.lst (skD S))) (hp : PosT S) (h : ∀ M', M' a = some (.lst (skD (Tm.trn S))) → (∀ z, z ≠ a → M' z = M z) → Dn.nx [x0, x1, x2, x3, some (.ref a), x5] M') :
    wSs F clsTurn [x0, x1, x2, x3, some (.ref a), x5] M Dn := by
  unfold clsTurn
  rw [wSs_cons]
  have ne : ∀ {M : Mem} {S : List Nat} {Q : Bool → Prop}, M a = some (.lst (skD S)) → Q (!S.isEmpty) → cmpop .ne (.ref a) (.lst []) M Q := fun {M S Q} hM hq => by
    show ((iceL M (.ref a)).dep ≤ 60 ∧ (iceL M (.lst [])).dep ≤ 60) ∧ Q (!peq (iceL M (.ref a)) (iceL M (.lst [])))
    rw [ice_at hM, show iceL M (.lst []) = .lst [] from rfl, skD_dep, peq_lst_nil]
    refine ⟨⟨by decide, by decide⟩, ?_⟩
    have : (skD S).isEmpty = S.isEmpty := by cases S <;> simp [skD]
    rw [this]
    exact hq
  simp only [wS, wE, wEs, wAnd, lk, ob, newL, Bool.false_eq_true, if_false]
  refine ne hM ?_
  cases S with
  | nil =>
    simp only [asB, List.isEmpty_nil, Bool.not_true, Bool.false_eq_true, if_false, wSs_nil]
    exact h M hM fun _ _ => rfl
  | cons t S =>
    rw [skD_cons] at hM
    simp only [asB, List.isEmpty_cons, Bool.not_false, if_true, wE, lk, ob, onI]
    rw [sub_last hM]
    simp only [cmpop, iceL, D.dep, peq_int, nat_int_zero]
    refine ⟨by decide, ?_⟩
    cases t with
    | succ t =>
      simp only [Nat.succ_ne_zero, decide_false, Bool.false_eq_true, if_false, wSs_nil]
      exact h M (by rw [hM]; show _ = some (MO.lst (skD ((t + 1) :: S))); rw [skD_cons]) fun _ _ => rfl
    | zero =>
      simp only [decide_true, if_true]
      rw [wSs_cons]
      simp only [wS, wE, wEs, lk, ob, mtIs, isTup, seq_at hM, Option.isSome_some, true_and, mthop, onR, atL, hM, List.getLast?_append, List.getLast?_singleton, Option.or_some, List.dropLast_concat, Option.getD_some, Option.some_or]
      rw [wSs_cons]
      simp only [wS, wE, wEs, lk, ob, newL, Bool.false_eq_true, if_false]
      refine ne (S := S) up_at ?_
      cases S with
      | nil =>
        simp only [asB, List.isEmpty_nil, Bool.not_true, Bool.false_eq_true, if_false, wSs_nil]
        exact h _ up_at fun z hz => up_of_ne hz
      | cons u S =>
        have hu : 1 ≤ u := hp u (by simp)
        have hM2 : (up M a (.lst (skD (u :: S)))) a = some (.lst (skD S ++ [.int (u : Int)])) := by rw [up_at, skD_cons]
        simp only [asB, List.isEmpty_cons, Bool.not_false, if_true]
        rw [wSs_cons]
        simp only [wS, wE, lk, ob, onI]
        rw [sub_last hM2]
        simp only [binop, onI]
        rw [set_last hM2]
        show wSs _ _ _ _ _
        rw [wSs_nil]
        show wSs _ _ _ _ _
        rw [wSs_nil]
        refine h _ ?_ fun z hz => by rw [up_of_ne hz, up_of_ne hz]
        rw [up_at, show (u : Int) - 1 = ((u - 1 : Nat) : Int) by omega]
        show _ = some (MO.lst (skD ((u - 1) :: S)))
        rw [skD_cons]
def ldepthFn : Fn := ⟨2, 6, [.asg (.tu [.nm 3, .nm 4]) (.tup [.int 0, .lst true []]), .for (.nm 2) .seq [.var 1] [.asg (.nm 3) (.bi .max2 false [.var 3, .bin .add (.bi .len false [.var 4]) (.int 1)]), .expr (.mth .append (.var 4) [.sub (.var 0) (.var 2)]), .for (.nm 5) .rng [.bi .len false [.var 4]] clsTurn], .ret (.var 3)]⟩
theorem ldepth {P : Prog} {i k : Nat} (hi : P.fns[i]? = some ldepthFn) {kv : List (Dee.D × Dee.D)} (K : Known kv) {ts : List Str} (hk : Kn kv ts) (hl : ts.length ≤ 1000) {M : Mem} {Q : Dee.K} {E : Dee.KX}
    (hQ : ∀ M', (∀ b, M b ≠ none → M' b = M b) → Q (.int (((Tm.ldp (wd kv ts) 0 []).1 : Nat) : Int)) M') : wCall P (k + 1) i [.dct false kv, tm ts] M Q E := by
  rw [wCall_succ, hi]
  refine ⟨rfl, ?_⟩
  unfold ldepthFn
  generalize semAt P k = F
  simp only [List.map, List.replicate, List.cons_append, List.nil_append, Nat.reduceSub]
  rw [wSs_cons]
  generalize hD : ({ nx := _, rt := _, bk := _, ct := _, ex := _ } : Dee.Ends) = D1
  simp only [wS, wE, wEs, newL, if_true]
  intro a ha
  simp only [wTg, wTgs, onT, List.set]
  rw [← hD]
  show wSs _ _ _ _ _
  rw [wSs_cons]
  generalize hD : ({ nx := _, rt := _, bk := _, ct := _, ex := _ } : Dee.Ends) = D2
  simp only [wS, wE, wEs, lk, ob, itop, on1, still_tup]
  have e0 : ∀ x : Nat, some (D.int 0) = some (D.int ((0 : Nat) : Int)) := fun _ => rfl
  refine forL_at (fun n σ M' => (∃ (b : Nat) (x2 x5 : Option Dee.D), σ = [some (.dct false kv), some (tm ts), x2, some (.int (b : Int)), some (.ref a), x5] ∧ ∃ S, M' a = some (.lst (skD S)) ∧ (∀ t ∈ S, 1 ≤ t) ∧ S.length ≤ n ∧ Tm.ldp ((wd kv ts).drop n) b S = Tm.ldp (wd kv ts) 0 []) ∧ ∀ z, z ≠ a → M' z = M z)
    (fun n x hx σ M' R hI hR => ?_) ⟨⟨0, none, none, rfl, [], up_at, (fun _ h => nomatch h), Nat.le_refl _, rfl⟩, fun z hz => up_of_ne hz⟩ fun σ M' hI => ?_
  · obtain ⟨⟨b, x2, x5, rfl, S, hM, hpos, hSl, hg⟩, hoff⟩ := hI
    have hn : n < ts.length := by
      have := (List.getElem?_eq_some_iff.mp hx).1
      simpa using this
    rw [tm_get hn] at hx
    cases hx
    obtain ⟨hlook, h3⟩ := K.at (hk _ (List.getElem_mem hn))
    have hdrop : (wd kv ts).drop n = arN kv ts[n] :: (wd kv ts).drop (n + 1) := by
      rw [List.drop_eq_getElem_cons (by simpa [wd] using hn)]
      simp [wd]
    simp only [wTg, List.set]
    rw [wSs_cons]
    simp only [wS, wE, wEs, lk, ob, on1, on2, biop, dct_at hM, seq_at hM, skD_len, binop, onI, wTg, List.set]
    have em : (if ((S.length : Nat) : Int) + 1 > (b : Int) then ((S.length : Nat) : Int) + 1 else (b : Int)) = ((max b (S.length + 1) : Nat) : Int) := by
      split <;> omega
    rw [em, wSs_cons]
    generalize hD3 : ({ nx := _, rt := _, bk := _, ct := _, ex := _ } : Dee.Ends) = D3
    simp only [wS, wE, wEs, lk, ob, mtIs, isTup, seq_at hM, Option.isSome_some, true_and, sub_dct hlook]
    refine append_at hM (by rw [skD_len]; unfold line; omega) ?_
    rw [← hD3]
    show wSs _ _ _ _ _
    rw [← skD_cons]
    have hM2 : (up M' a (.lst (skD (arN kv ts[n] :: S)))) a = some (.lst (skD (arN kv ts[n] :: S))) := up_at
    rw [wSs_cons]
    generalize hD4 : ({ nx := _, rt := _, bk := _, ct := _, ex := _ } : Dee.Ends) = D4
    simp only [wS, wE, wEs, lk, ob, on1, biop, dct_at hM2, seq_at hM2, skD_len, itop, onI]
    have hp : PosT (arN kv ts[n] :: S) := fun t ht => hpos t ht
    refine ⟨⟨by omega, by simp only [List.length_cons]; unfold line; omega⟩, ?_⟩
    refine forL_at (fun m σ M' => (∃ x5, σ = [some (.dct false kv), some (tm ts), some (.str ts[n]), some (.int ((max b (S.length + 1) : Nat) : Int)), some (.ref a), x5]) ∧ M' a = some (.lst (skD (Tm.itn m (arN kv ts[n] :: S)))) ∧ ∀ z, z ≠ a → M' z = M z)
      (fun m x hx σ M2 R2 hI hR2 => ?_) ⟨⟨_, rfl⟩, hM2, fun z hz => by rw [up_of_ne hz]; exact hoff z hz⟩ fun σ M2 hI => ?_
    · obtain ⟨⟨x5', rfl⟩, hM', hoff'⟩ := hI
      simp only [wTg, List.set]
      refine cls_turn hM' (hp.itn m) fun M3 h1 h2 => ?_
      exact hR2 _ _ ⟨⟨_, rfl⟩, by rw [itn_succ]; exact h1, fun z hz => by rw [h2 z hz]; exact hoff' z hz⟩
    · obtain ⟨⟨x5', rfl⟩, hM', hoff'⟩ := hI
      rw [show (rngF (((arN kv ts[n] :: S).length : Nat) : Int)).length = (arN kv ts[n] :: S).length by unfold rngF; simp, Tm.itn_cls _ _ (Nat.le_refl _)] at hM'
      obtain ⟨c1, c2⟩ := cls_pos _ _ (Nat.le_refl _) hp
      rw [← hD4]
      show wSs _ _ _ _ _
      rw [wSs_nil]
      refine hR _ _ ⟨⟨max b (S.length + 1), _, _, rfl, Tm.cls (arN kv ts[n] :: S), hM', c1, by simp only [List.length_cons] at c2; omega, ?_⟩, hoff'⟩
      rw [← hg, hdrop]
      rfl
  · obtain ⟨⟨b, x2, x5, rfl, S, hM, hpos, hSl, hg⟩, hoff⟩ := hI
    rw [List.length_map, List.drop_eq_nil_of_le (by simp [wd])] at hg
    have hb : b = (Tm.ldp (wd kv ts) 0 []).1 := by rw [← hg]; rfl
    rw [← hD]
    show wSs _ _ _ _ _
    rw [wSs_cons]
    simp only [wS, wE, lk, ob]
    rw [hb]
    exact hQ _ fun z hz => hoff z fun e => hz (by rw [e]; exact ha)
end DL

set_option Elab.async false
set_option linter.all false
set_option autoImplicit false
set_option maxRecDepth 100000
set_option maxHeartbeats 1000000
/-! Dee: terms that are drawn. -/
namespace DL
open PySem Dee
def ltermFn (q : Nat) : Fn := ⟨3, 8, [.asg (.tu [.nm 4, .nm 5]) (.tup [.lst true [], .int 1]), .for (.nm 3) .rng [.var 2] [.ifs (.cmp .gt (.var 5) (.int 0)) [.asg (.nm 6) (.comp false (.var 7) (.nm 7) .seq [.var 1] [.cmp .le (.bin .add (.bin .add (.bi .len false [.var 4]) (.var 5)) (.sub (.var 7) (.int 1))) (.var 2)]), .asg (.nm 7) (.call q [.var 0, .var 6]), .expr (.mth .append (.var 4) [.sub (.var 7) (.int 0)]), .asg (.nm 5) (.bin .sub (.bin .add (.var 5) (.sub (.var 7) (.int 1))) (.int 1))] []], .ret (.bi .tuple false [.var 4])]⟩
/-- what still fits -/
def fits (c most : Int) (x : Dee.D) : Bool := match x with | .tup [_, .int j] => decide (c + j ≤ most) | _ => false
theorem lterm {P : Prog} {d q i k : Nat} (hd : P.fns[d]? = some drawFn) (hq : P.fns[q]? = some (pickFn d)) (hi : P.fns[i]? = some (ltermFn q)) {xs : List Dee.D} (S : Sg xs 8) {M : Mem} {p : Nat} {most : Int} {Q : Dee.K} {E : Dee.KX} (hp : Pot M p) (h1 : 1 ≤ most) (h30 : most ≤ 30)
    (hQ : ∀ ts M', isTm (kvOf xs) (tm ts) = true → (ts.length : Int) ≤ most → Pot M' p → (∀ b, b ≠ p → M b ≠ none → M' b = M b) → Q (tm ts) M') : wCall P (k + 3) i [.ref p, .tup xs, .int most] M Q E := by
  rw [wCall_succ, hi]
  refine ⟨rfl, ?_⟩
  unfold ltermFn
  have hc : (semAt P (k + 2)).call = wCall P (k + 2) := rfl
  generalize semAt P (k + 2) = F at hc
  simp only [List.map, List.replicate, List.cons_append, List.nil_append, Nat.reduceSub]
  have hsg := S.signs (by decide)
  have K := known_signs hsg
  obtain ⟨x0, hx0, hz0⟩ := S.zero
  rw [wSs_cons]
  generalize hD : ({ nx := _, rt := _, bk := _, ct := _, ex := _ } : Dee.Ends) = D1
  simp only [wS, wE, wEs, newL, if_true]
  intro a ha
  have hap : a ≠ p := by
    rintro rfl
    obtain ⟨cs, x, y, z, hM, _⟩ := hp
    rw [ha] at hM
    cases hM
  simp only [wTg, wTgs, onT, List.set]
  rw [← hD]
  show wSs _ _ _ _ _
  rw [wSs_cons]
  generalize hD : ({ nx := _, rt := _, bk := _, ct := _, ex := _ } : Dee.Ends) = D2
  simp only [wS, wE, wEs, lk, ob, itop, onI]
  refine ⟨⟨by omega, by unfold line; omega⟩, ?_⟩
  refine forL_at (fun n σ M' => (∃ (o : Nat) (x3 x6 x7 : Option Dee.D), σ = [some (.ref p), some (.tup xs), some (.int most), x3, some (.ref a), some (.int (o : Int)), x6, x7] ∧ ∃ ts, M' a = some (.lst (ts.map D.str)) ∧ Kn (kvOf xs) ts ∧ Tm.st (wd (kvOf xs) ts) 1 = some o ∧ (ts.length : Int) + o ≤ most ∧ (o = 0 ∨ ts.length = n)) ∧ Pot M' p ∧ ∀ b, b ≠ p → b ≠ a → M' b = M b)
    (fun n x hx σ M' R hI hR => ?_) ⟨⟨1, none, none, none, rfl, [], up_at, (fun _ h => nomatch h), rfl, by simp; omega, .inr rfl⟩, pot_up hp hap, fun b _ hb => up_of_ne hb⟩ fun σ M' hI => ?_
  · obtain ⟨⟨o, x3, x6, x7, rfl, ts, hM, hk, hst, hle, hor⟩, hp', hoff⟩ := hI
    simp only [wTg, List.set]
    rw [wSs_cons]
    generalize hD3 : ({ nx := _, rt := _, bk := _, ct := _, ex := _ } : Dee.Ends) = D3
    simp only [wS, wE, lk, ob, cmpop, onI, asB]
    by_cases h0 : o = 0
    · subst h0
      simp only [Int.natCast_zero, Int.lt_irrefl, decide_false, Bool.false_eq_true, if_false, wSs_nil]
      rw [← hD3]
      show wSs _ _ _ _ _
      rw [wSs_nil]
      exact hR _ _ ⟨⟨0, _, _, _, rfl, ts, hM, hk, hst, hle, .inl rfl⟩, hp', hoff⟩
    · have hn : ts.length = n := by
        rcases hor with h | h
        · exact absurd h h0
        · exact h
      rw [if_pos (by simp; omega)]
      rw [wSs_cons]
      simp only [wS, wE, wEs, lk, ob, on1, itop, still_tup]
      refine lcL_fm (fun x => if fits ((ts.length : Int) + o) most x then some x else none) (fun x hx R' hR' => ?_) ?_
      · obtain ⟨s, j, rfl, _⟩ := S.it x hx
        simp only [wTg, wipeD, tgSlots, List.set, wCs, wE, wEs, lk, ob, on1, biop, dct_at hM, seq_at hM, List.length_map, binop, onI, sub_tup (xs := [.str s, .int j]) (i := 1) (v := .int j) (by decide) rfl, cmpop, asB]
        have hR' : R' (if decide ((ts.length : Int) + o + j ≤ most) = true then some (.tup [.str s, .int j]) else none) M' := hR'
        by_cases hf : (ts.length : Int) + o + j ≤ most
        · simp only [hf, decide_true, if_true] at hR' ⊢
          exact hR'
        · simp only [hf, decide_false, Bool.false_eq_true, if_false] at hR' ⊢
          exact hR'
      · simp only [newL, Bool.false_eq_true, if_false, List.nil_append, wTg, List.set]
        rw [wSs_cons]
        generalize hD4 : ({ nx := _, rt := _, bk := _, ct := _, ex := _ } : Dee.Ends) = D4
        simp only [wS, wE, wEs, lk, ob, hc]
        generalize hab : (xs.filterMap fun x => if fits ((ts.length : Int) + o) most x then some x else none) = able
        have hable : ∀ x ∈ able, x ∈ xs ∧ fits ((ts.length : Int) + o) most x = true := fun x hx => by
          rw [← hab] at hx
          obtain ⟨y, hy, e⟩ := List.mem_filterMap.mp hx
          split at e
          · rename_i hf
            cases e
            exact ⟨hy, hf⟩
          · cases e
        have hal : able.length ≤ xs.length := by rw [← hab]; exact List.length_filterMap_le _ _
        have hne : 1 ≤ able.length := by
          have : x0 ∈ able := by
            rw [← hab]
            refine List.mem_filterMap.mpr ⟨x0, hx0, ?_⟩
            obtain ⟨s, j, rfl, _⟩ := S.it x0 hx0
            have ej : j = 0 := by
              have : D.int j = D.int 0 := hz0
              injection this
            subst ej
            rw [if_pos]
            show decide ((ts.length : Int) + o + 0 ≤ most) = true
            simpa using hle
          exact List.length_pos_of_mem this
        have htop := S.top
        refine pickF (k := k) hd hq hp' hne (by omega) fun v M2 hv hp2 f2 => ?_
        obtain ⟨hvx, hvf⟩ := hable v hv
        obtain ⟨s, j, rfl, _, j0, j3⟩ := S.it v hvx
        have hvf : (ts.length : Int) + o + j ≤ most := of_decide_eq_true hvf
        have hM2 : M2 a = some (.lst (ts.map D.str)) := (f2 a hap).trans hM
        have har : arO (kvOf xs) s = some j.toNat := arO_sign hsg hvx
        have haN : arN (kvOf xs) s = j.toNat := by unfold arN; rw [har]; rfl
        simp only [wTg, List.set]
        rw [← hD4]
        show wSs _ _ _ _ _
        rw [wSs_cons]
        simp only [wS, wE, wEs, lk, ob, mtIs, isTup, seq_at hM2, Option.isSome_some, true_and, sub_tup (xs := [.str s, .int j]) (i := 0) (v := .str s) (by decide) rfl]
        refine append_at hM2 (by rw [List.length_map]; unfold line; omega) ?_
        rw [wSs_cons]
        simp only [wS, wE, lk, ob, sub_tup (xs := [.str s, .int j]) (i := 1) (v := .int j) (by decide) rfl, binop, onI, wTg, List.set, wSs_nil]
        rw [← hD3]
        show wSs _ _ _ _ _
        rw [wSs_nil]
        have eo : (o : Int) + j - 1 = ((o - 1 + j.toNat : Nat) : Int) := by omega
        rw [eo]
        refine hR _ _ ⟨⟨o - 1 + j.toNat, _, _, _, rfl, ts ++ [s], ?_, fun u hu => ?_, ?_, ?_, .inr (by simp [hn])⟩, pot_up hp2 hap, fun b hb1 hb2 => by rw [up_of_ne hb2, f2 b hb1]; exact hoff b hb1 hb2⟩
        · rw [up_at, List.map_append]; rfl
        · rcases List.mem_append.mp hu with hu | hu
          · exact hk u hu
          · have : u = s := by simpa using hu
            subst this
            rw [har]; rfl
        · have e : wd (kvOf xs) (ts ++ [s]) = wd (kvOf xs) ts ++ [j.toNat] := by unfold wd; rw [List.map_append]; simp [haN]
          rw [e, Tm.st_app, hst]
          obtain ⟨o', rfl⟩ : ∃ o', o = o' + 1 := ⟨o - 1, by omega⟩
          rfl
        · rw [List.length_append, List.length_singleton]
          omega
  · obtain ⟨⟨o, x3, x6, x7, rfl, ts, hM, hk, hst, hle, hor⟩, hp', hoff⟩ := hI
    rw [show (rngF most).length = most.toNat by unfold rngF; simp] at hor
    have h0 : o = 0 := by
      rcases hor with h | h
      · exact h
      · omega
    subst h0
    have hpos : 1 ≤ ts.length := by
      cases ts with
      | nil => cases hst
      | cons t ts => simp
    rw [← hD]
    show wSs _ _ _ _ _
    rw [wSs_cons]
    simp only [wS, wE, wEs, lk, ob, on1, biop, seq_at hM, newT, Bool.false_and, Bool.false_eq_true, if_false]
    refine hQ ts _ (isTm_tm hpos (by omega) hk hst) (by omega) hp' fun b hb hb2 => hoff b hb fun e => hb2 (by rw [e]; exact ha)
end DL

set_option Elab.async false
set_option linter.all false
set_option autoImplicit false
set_option maxRecDepth 100000
set_option maxHeartbeats 1000000
/-! Tests that hold; small facts for the laws on terms. -/
namespace DL
open PySem Dee
/-- a test that holds -/
theorem if_ok {F : Dee.Sem} {e : Dee.Ex} {σ : Dee.Env} {M : Mem} {Dn : Dee.Ends} (h : ∀ Q : Dee.K, Q (.bl true) M → wE F e σ M Q (Dn.x σ)) (hn : Dn.nx σ M) : wS F (.ifs (.not e) [.ret (.bl false)] []) σ M Dn := by
  simp only [wS, wE]
  refine h _ ?_
  simp only [asB, Bool.not_true, Bool.false_eq_true, if_false, wSs_nil]
  exact hn
/-- one that may write -/
theorem if_okM {F : Dee.Sem} {e : Dee.Ex} {σ : Dee.Env} {M : Mem} {Dn : Dee.Ends} (I : Mem → Prop) (h : ∀ Q : Dee.K, (∀ M', I M' → Q (.bl true) M') → wE F e σ M Q (Dn.x σ)) (hn : ∀ M', I M' → Dn.nx σ M') : wS F (.ifs (.not e) [.ret (.bl false)] []) σ M Dn := by
  simp only [wS, wE]
  refine h _ fun M' hI => ?_
  simp only [asB, Bool.not_true, Bool.false_eq_true, if_false, wSs_nil]
  exact hn M' hI
theorem if_or {F : Dee.Sem} {e e2 : Dee.Ex} {σ : Dee.Env} {M : Mem} {Dn : Dee.Ends} (h : ∀ Q : Dee.K, Q (.bl true) M → wE F e σ M Q (Dn.x σ)) (h2 : ∀ Q : Dee.K, Q (.bl false) M → wE F e2 σ M Q (Dn.x σ)) (hn : Dn.nx σ M) : wS F (.ifs (.or [.not e, e2]) [.ret (.bl false)] []) σ M Dn := by
  simp only [wS, wE, wOr]
  refine h _ ?_
  simp only [asB, Bool.not_true, Bool.false_eq_true, if_false]
  refine h2 _ ?_
  simp only [asB, Bool.false_eq_true, if_false, wSs_nil]
  exact hn
/-- if a then b holds -/
theorem if_and {F : Dee.Sem} {e e2 : Dee.Ex} {σ : Dee.Env} {M : Mem} {Dn : Dee.Ends} {b : Bool} (h : ∀ Q : Dee.K, Q (.bl b) M → wE F e σ M Q (Dn.x σ)) (h2 : b = true → ∀ Q : Dee.K, Q (.bl true) M → wE F e2 σ M Q (Dn.x σ)) (hn : Dn.nx σ M) : wS F (.ifs (.and [e, .not e2]) [.ret (.bl false)] []) σ M Dn := by
  simp only [wS, wE, wAnd]
  refine h _ ?_
  cases b with
  | false =>
    simp only [asB, Bool.false_eq_true, if_false, wSs_nil]
    exact hn
  | true =>
    simp only [asB, if_true]
    refine h2 rfl _ ?_
    simp only [asB, Bool.not_true, Bool.false_eq_true, if_false, wSs_nil]
    exact hn
/-! ### signs -/
theorem sg_pairs {xs : List Dee.D} {m : Nat} (S : Sg xs m) : dPairs xs = some (pairsOf xs) := by
  have h := dPairs_signs S.all
  have e : (xs.map fun x => .tup [fst0 x, snd0 x]) = xs := by
    conv => rhs; rw [← List.map_id xs]
    refine List.map_congr_left fun x hx => ?_
    obtain ⟨s, j, rfl, _⟩ := S.it x hx
    rfl
  rw [e] at h
  exact h
theorem sg_keys {xs : List Dee.D} {m : Nat} (S : Sg xs m) : ∀ p ∈ pairsOf xs, isKey false p.1 = true := fun p hp => by
  obtain ⟨x, hx, rfl⟩ := List.mem_map.mp hp
  obtain ⟨s, j, rfl, _⟩ := S.it x hx
  rfl
theorem sg_ice {xs : List Dee.D} {m : Nat} (S : Sg xs m) : xs.all flatK = false := by
  match xs, S with
  | x :: ys, S =>
    obtain ⟨s, j, rfl, _⟩ := S.it x (by simp)
    rfl
  | [], S => have := S.two; simp at this
theorem pot_del {M : Mem} {p a : Nat} (h : Pot M p) (hap : a ≠ p) : Pot (Dee.del M a) p := by
  obtain ⟨cs, x, y, z, e, r⟩ := h
  refine ⟨cs, x, y, z, ?_, r⟩
  unfold Dee.del
  rw [if_neg (Ne.symm hap)]
  exact e
theorem pot_keep {M M' : Mem} {p : Nat} (h : Pot M p) (hk : ∀ b, M b ≠ none → M' b = M b) : Pot M' p := by
  obtain ⟨cs, x, y, z, e, r⟩ := h
  exact ⟨cs, x, y, z, by rw [hk p (by rw [e]; simp)]; exact e, r⟩
/-! ### terms -/
theorem tm_base {xs : List Dee.D} (S : Sg xs 8) {ts : List Str} (h : isTm (kvOf xs) (tm ts) = true) : base 30 1 (tm ts) := by
  obtain ⟨l1, l2, hk, hs⟩ := isTm_tm' h
  unfold base
  refine ⟨by rw [List.length_map]; exact l2, fun x hx => ?_⟩
  obtain ⟨s, hs', rfl⟩ := List.mem_map.mp hx
  have := kn_short S hk s hs'
  unfold base
  omega
theorem tm_sv (n : Nat) {ts : List Str} (h : ts.length ≤ 1000) : sv (n + 1) (tm ts) := by
  unfold sv
  refine ⟨by rw [List.length_map]; exact h, fun x hx => ?_⟩
  obtain ⟨s, hs', rfl⟩ := List.mem_map.mp hx
  unfold sv
  trivial
theorem tms_sv (n : Nat) {zs : List (List Str)} (h : zs.length ≤ 1000) (hz : ∀ z ∈ zs, z.length ≤ 1000) : sv (n + 2) (.tup (zs.map tm)) := by
  unfold sv
  refine ⟨by rw [List.length_map]; exact h, fun x hx => ?_⟩
  obtain ⟨z, hz', rfl⟩ := List.mem_map.mp hx
  exact tm_sv n (hz z hz')
theorem given_short {α : Type} (ar : α → Nat) : ∀ (a : Nat) (v : List α), ∀ z ∈ Tm.given ar a v, z.length ≤ v.length
  | 0, _, z, h => by simp [Tm.given] at h
  | a + 1, v, z, h => by
    simp only [Tm.given, List.mem_cons] at h
    rcases h with rfl | h
    · rw [List.length_take]; omega
    · have := given_short ar a _ z h
      rw [List.length_drop] at this
      omega
theorem pigeonL {α : Type} [DecidableEq α] : ∀ {xs ys : List α}, xs.Nodup → (∀ x ∈ xs, x ∈ ys) → xs.length ≤ ys.length
  | [], ys, _, _ => by simp
  | x :: xs, ys, hn, hs => by
    rw [List.nodup_cons] at hn
    have hx : x ∈ ys := hs x (by simp)
    have := pigeonL (xs := xs) (ys := ys.erase x) hn.2 fun y hy => (List.mem_erase_of_ne (fun e => hn.1 (by rw [← e]; exact hy))).mpr (hs y (by simp [hy]))
    rw [List.length_erase_of_mem hx] at this
    have := List.length_pos_of_mem hx
    simp only [List.length_cons]
    omega
theorem parts_len (kv : List (Dee.D × Dee.D)) (ts : List Str) : (allParts kv ts).length = ts.length := by unfold allParts; simp
theorem parts_short {kv : List (Dee.D × Dee.D)} {ts z : List Str} (h : z ∈ allParts kv ts) : z.length ≤ ts.length := by
  obtain ⟨i, _, rfl⟩ := List.mem_map.mp h
  unfold partOf
  rw [List.length_take, List.length_drop]
  omega
theorem srt_len {ns : List Str} {L zs : List (List Str)} (h : Srt ns L zs) : zs.length ≤ L.length := pigeonL h.nd fun x hx => (h.mem x).mp hx
theorem strs_take (ts : List Str) (j : Nat) : (ts.map D.str).take j = (ts.take j).map D.str := (List.map_take ..).symm
theorem isAt_nat {n j : Nat} (h : j < n) : isAt n (.int (j : Int)) = true := by
  show (decide (0 ≤ (j : Int)) && decide ((j : Int) < (n : Int))) = true
  rw [decide_eq_true (by omega), decide_eq_true (by omega)]
  rfl
/-- the law's own places -/
theorem odd_at {n : Nat} {v : Dee.D} (h : v ∈ [.int (n : Int), .int (-1), .non, .bl true, .str "0", .int ((n : Int) + 3)]) : isAt n v = false ∧ tyd v = true := by
  simp only [List.mem_cons, List.not_mem_nil, or_false] at h
  rcases h with rfl | rfl | rfl | rfl | rfl | rfl
  · exact ⟨by unfold isAt; simp, rfl⟩
  · exact ⟨rfl, rfl⟩
  · exact ⟨rfl, rfl⟩
  · exact ⟨rfl, rfl⟩
  · exact ⟨rfl, rfl⟩
  · refine ⟨?_, rfl⟩
    unfold isAt
    have : ¬ ((n : Int) + 3 < (n : Int)) := by omega
    simp [this]
theorem places_in {kv : List (Dee.D × Dee.D)} {ts ps : List Str} {j : Nat} (hj : j < ts.length) (h : partOf kv ts j = ps) : Dee.D.int (j : Int) ∈ placesD kv ts ps := by
  unfold placesD
  refine List.mem_filterMap.mpr ⟨.int (j : Int), List.mem_map.mpr ⟨j, by simpa using hj, rfl⟩, ?_⟩
  show (if peq (tm (partOf kv ts ((j : Int)).toNat)) (tm ps) then some (Dee.D.int (j : Int)) else none) = _
  rw [Int.toNat_natCast, h, peq_tm]
  simp
theorem places_it {kv : List (Dee.D × Dee.D)} {ts ps : List Str} {x : Dee.D} (h : x ∈ placesD kv ts ps) : ∃ j : Nat, x = .int (j : Int) ∧ j < ts.length := by
  unfold placesD at h
  obtain ⟨y, hy, e⟩ := List.mem_filterMap.mp h
  obtain ⟨j, rfl, hj⟩ := rng_mem hy
  refine ⟨j, ?_, hj⟩
  simp only at e
  split at e
  · injection e with e; exact e.symm
  · cases e
theorem places_len (kv : List (Dee.D × Dee.D)) (ts ps : List Str) : (placesD kv ts ps).length ≤ ts.length := by
  unfold placesD
  refine Nat.le_trans (List.length_filterMap_le _ _) ?_
  unfold rngF
  simp
theorem ints_dep {xs : List Dee.D} (h : ∀ x ∈ xs, ∃ j : Nat, x = .int (j : Int)) : depL xs = 0 := by
  have : depL xs ≤ 0 := depL_le fun x hx => by
    obtain ⟨j, rfl⟩ := h x hx
    exact Nat.le_refl _
  omega
end DL

set_option Elab.async false
set_option linter.all false
set_option autoImplicit false
set_option maxRecDepth 100000
set_option maxHeartbeats 0
/-! The defs of the law in the small language (printed by gen.py). -/
namespace K02
open PySem PySem.Spec PyProof.Rows L2 Dee
def top (i : Nat) : Stmt := PySem.Challenge.pw_bestterms_k02_terms_told.main.body.getD i (.Pass ⟨0, 0, 0, 0⟩)
def f0 : Fn := ⟨3, 3, [.ret (.and [.isi (.var 0) [.int], .not (.isi (.var 0) [.bool]), .chain .le .le (.var 1) (.var 0) (.var 2)])]⟩
abbrev s0 : Stmt := top 6
def e0 : Ent := ⟨"is_number", ⟨("is_number", none), "is_number", "is_number", defArgs s0, defBody s0, defScope s0, [], []⟩, ["value", "least", "most"], ["value", "least", "most"], false, false⟩
def f1 : Fn := ⟨1, 2, [.ifs (.or [.not (.isi (.var 0) [.str]), .not (.chain .le .le (.int 1) (.bi .len false [.var 0]) (.glb "MOST_NAME"))]) [.ret (.bl false)] [], .ret (.bi .all false [.comp false (.cmp .isin (.var 1) (.glb "LETTERS")) (.nm 1) .seq [.var 0] []])]⟩
abbrev s1 : Stmt := top 12
def e1 : Ent := ⟨"is_name", ⟨("is_name", none), "is_name", "is_name", defArgs s1, defBody s1, defScope s1, [], []⟩, ["value", "letter"], ["value"], false, false⟩
def f2 : Fn := ⟨1, 1, [.ifs (.or [.not (.isi (.var 0) [.tuple]), .cmp .ne (.bi .len false [.var 0]) (.int 2)]) [.ret (.bl false)] [], .ret (.and [.call 1 [.sub (.var 0) (.int 0)], .call 0 [.sub (.var 0) (.int 1), .int 0, .glb "MOST_ARITY"]])]⟩
abbrev s2 : Stmt := top 13
def e2 : Ent := ⟨"is_sign", ⟨("is_sign", none), "is_sign", "is_sign", defArgs s2, defBody s2, defScope s2, [], []⟩, ["value"], ["value"], false, false⟩
def f3 : Fn := ⟨1, 3, [.ifs (.or [.not (.isi (.var 0) [.tuple]), .not (.chain .le .le (.int 1) (.bi .len false [.var 0]) (.glb "MOST_SIGNS"))]) [.ret (.bl false)] [], .ifs (.not (.bi .all false [.comp false (.call 2 [.var 2]) (.nm 2) .seq [.var 0] []])) [.ret (.bl false)] [], .asg (.nm 1) (.comp false (.sub (.var 2) (.int 0)) (.nm 2) .seq [.var 0] []), .ret (.and [.cmp .eq (.lens (.var 1)) (.bi .len false [.var 1]), .cmp .isin (.int 0) (.comp false (.sub (.var 2) (.int 1)) (.nm 2) .seq [.var 0] [])])]⟩
abbrev s3 : Stmt := top 14
def e3 : Ent := ⟨"is_signs", ⟨("is_signs", none), "is_signs", "is_signs", defArgs s3, defBody s3, defScope s3, [], []⟩, ["value", "names", "one"], ["value"], false, false⟩
def f4 : Fn := ⟨1, 3, [.ifs (.not (.call 3 [.var 0])) [.raise "NoSigns" []] [], .ret (.bi .dict false [.comp false (.tup [.var 1, .var 2]) (.tu [.nm 1, .nm 2]) .seq [.var 0] []])]⟩
abbrev s4 : Stmt := top 15
def e4 : Ent := ⟨"arities_of", ⟨("arities_of", none), "arities_of", "arities_of", defArgs s4, defBody s4, defScope s4, [], []⟩, ["signs", "name", "many"], ["signs"], false, false⟩
def f5 : Fn := ⟨1, 3, [.ret (.bi .dict false [.comp false (.tup [.sub (.var 2) (.int 0), .var 1]) (.tu [.nm 1, .nm 2]) .enm [.var 0] []])]⟩
abbrev s5 : Stmt := top 16
def e5 : Ent := ⟨"ranks_of", ⟨("ranks_of", none), "ranks_of", "ranks_of", defArgs s5, defBody s5, defScope s5, [], []⟩, ["signs", "number", "one"], ["signs"], false, false⟩
def f6 : Fn := ⟨3, 5, [.asg (.nm 3) (.int 1), .asg (.nm 4) (.var 2), .whl (.cmp .gt (.var 3) (.int 0)) [.aug 3 .add (.bin .sub (.sub (.var 0) (.sub (.var 1) (.var 4))) (.int 1)), .aug 4 .add (.int 1)], .ret (.var 4)]⟩
abbrev s6 : Stmt := top 19
def e6 : Ent := ⟨"part_end", ⟨("part_end", none), "part_end", "part_end", defArgs s6, defBody s6, defScope s6, [], []⟩, ["known", "term", "start", "open_ends", "at"], ["known", "term", "start"], false, false⟩
def f7 : Fn := ⟨2, 4, [.asg (.nm 2) (.int 1), .for (.nm 3) .seq [.var 1] [.ifs (.cmp .eq (.var 2) (.int 0)) [.ret (.bl false)] [], .aug 2 .add (.bin .sub (.sub (.var 0) (.var 3)) (.int 1))], .ret (.cmp .eq (.var 2) (.int 0))]⟩
abbrev s7 : Stmt := top 20
def e7 : Ent := ⟨"is_whole", ⟨("is_whole", none), "is_whole", "is_whole", defArgs s7, defBody s7, defScope s7, [], []⟩, ["known", "value", "open_ends", "name"], ["known", "value"], false, false⟩
def f8 : Fn := ⟨2, 3, [.ifs (.or [.not (.isi (.var 1) [.tuple]), .not (.chain .le .le (.int 1) (.bi .len false [.var 1]) (.glb "MOST_SIZE"))]) [.ret (.bl false)] [], .ifs (.not (.bi .all false [.comp false (.and [.isi (.var 2) [.str], .cmp .isin (.var 2) (.var 0)]) (.nm 2) .seq [.var 1] []])) [.ret (.bl false)] [], .ret (.call 7 [.var 0, .var 1])]⟩
abbrev s8 : Stmt := top 21
def e8 : Ent := ⟨"is_known_term", ⟨("is_known_term", none), "is_known_term", "is_known_term", defArgs s8, defBody s8, defScope s8, [], []⟩, ["known", "value", "name"], ["known", "value"], false, false⟩
def f9 : Fn := ⟨2, 2, [.ret (.call 8 [.call 4 [.var 0], .var 1])]⟩
abbrev s9 : Stmt := top 22
def e9 : Ent := ⟨"is_term", ⟨("is_term", none), "is_term", "is_term", defArgs s9, defBody s9, defScope s9, [], []⟩, ["signs", "value"], ["signs", "value"], false, false⟩
def f10 : Fn := ⟨2, 2, [.ifs (.not (.call 8 [.var 0, .var 1])) [.raise "NoTerm" []] []]⟩
abbrev s10 : Stmt := top 23
def e10 : Ent := ⟨"need_term", ⟨("need_term", none), "need_term", "need_term", defArgs s10, defBody s10, defScope s10, [], []⟩, ["known", "value"], ["known", "value"], false, false⟩
def f11 : Fn := ⟨2, 5, [.asg (.nm 2) (.lst true []), .asg (.nm 3) (.int 1), .whl (.cmp .lt (.var 3) (.bi .len false [.var 1])) [.asg (.nm 4) (.call 6 [.var 0, .var 1, .var 3]), .expr (.mth .append (.var 2) [.slc (.var 1) (some (.var 3)) (some (.var 4))]), .asg (.nm 3) (.var 4)], .frz 2, .ret (.var 2)]⟩
abbrev s11 : Stmt := top 24
def e11 : Ent := ⟨"given_to", ⟨("given_to", none), "given_to", "given_to", defArgs s11, defBody s11, defScope s11, [], []⟩, ["known", "term", "found", "at", "end"], ["known", "term"], false, false⟩
def f12 : Fn := ⟨2, 3, [.ret (.tup [.bi .len false [.var 1], .bi .tuple false [.comp false (.sub (.var 0) (.var 2)) (.nm 2) .seq [.var 1] []]])]⟩
abbrev s12 : Stmt := top 25
def e12 : Ent := ⟨"key_of", ⟨("key_of", none), "key_of", "key_of", defArgs s12, defBody s12, defScope s12, [], []⟩, ["ranks", "term", "name"], ["ranks", "term"], false, false⟩
def f13 : Fn := ⟨2, 9, [.asg (.nm 2) (.srts false (.comp false (.call 12 [.var 0, .var 7]) (.nm 7) .seq [.var 1] [])), .asg (.nm 3) (.bi .dict false [.comp false (.tup [.sub (.var 0) (.var 4), .var 4]) (.nm 4) .seq [.var 0] []]), .ret (.comp false (.bi .tuple false [.comp false (.sub (.var 3) (.var 8)) (.nm 8) .seq [.var 6] []]) (.tu [.nm 5, .nm 6]) .seq [.var 2] [])]⟩
abbrev s13 : Stmt := top 26
def e13 : Ent := ⟨"ordered", ⟨("ordered", none), "ordered", "ordered", defArgs s13, defBody s13, defScope s13, [], []⟩, ["ranks", "terms", "keys", "names", "name", "size", "row", "term", "number"], ["ranks", "terms"], false, false⟩
def f14 : Fn := ⟨2, 5, [.asg (.nm 2) (.lst true []), .for (.nm 3) .seq [.var 1] [.expr (.mth .extend (.var 2) [.comp false (.slc (.var 3) (some (.var 4)) (some (.call 6 [.var 0, .var 3, .var 4]))) (.nm 4) .rng [.bi .len false [.var 3]] []])], .frz 2, .ret (.var 2)]⟩
abbrev s14 : Stmt := top 27
def e14 : Ent := ⟨"parts_within", ⟨("parts_within", none), "parts_within", "parts_within", defArgs s14, defBody s14, defScope s14, [], []⟩, ["known", "terms", "found", "term", "at"], ["known", "terms"], false, false⟩
def f15 : Fn := ⟨2, 3, [.asg (.nm 2) (.call 4 [.var 0]), .expr (.call 10 [.var 2, .var 1]), .ret (.bi .tuple false [.call 11 [.var 2, .var 1]])]⟩
abbrev s15 : Stmt := top 28
def e15 : Ent := ⟨"arguments", ⟨("arguments", none), "arguments", "arguments", defArgs s15, defBody s15, defScope s15, [], []⟩, ["signs", "term", "known"], ["signs", "term"], false, false⟩
def f16 : Fn := ⟨2, 7, [.asg (.nm 2) (.call 4 [.var 0]), .expr (.call 10 [.var 2, .var 1]), .asg (.nm 3) (.rep true (.lst false [.int 0]) (.bi .len false [.var 1])), .for (.nm 4) .rng [.bin .sub (.bi .len false [.var 1]) (.int 1), .neg (.int 1), .neg (.int 1)] [.asg (.nm 5) (.bin .add (.var 4) (.int 1)), .for (.nm 6) .rng [.sub (.var 2) (.sub (.var 1) (.var 4))] [.asub (.var 3) (.var 4) (.bi .max2 false [.sub (.var 3) (.var 4), .sub (.var 3) (.var 5)]), .asg (.nm 5) (.call 6 [.var 2, .var 1, .var 5])], .augs (.var 3) (.var 4) .add (.int 1)], .ret (.sub (.var 3) (.int 0))]⟩
abbrev s16 : Stmt := top 29
def e16 : Ent := ⟨"depth", ⟨("depth", none), "depth", "depth", defArgs s16, defBody s16, defScope s16, [], []⟩, ["signs", "term", "known", "levels", "at", "start", "turn"], ["signs", "term"], false, false⟩
def f17 : Fn := ⟨3, 4, [.asg (.nm 3) (.call 4 [.var 0]), .expr (.call 10 [.var 3, .var 1]), .ifs (.or [.not (.isi (.var 2) [.int]), .isi (.var 2) [.bool], .not (.chain .le .lt (.int 0) (.var 2) (.bi .len false [.var 1]))]) [.raise "NotThere" []] [], .ret (.slc (.var 1) (some (.var 2)) (some (.call 6 [.var 3, .var 1, .var 2])))]⟩
abbrev s17 : Stmt := top 30
def e17 : Ent := ⟨"part_at", ⟨("part_at", none), "part_at", "part_at", defArgs s17, defBody s17, defScope s17, [], []⟩, ["signs", "term", "place", "known"], ["signs", "term", "place"], false, false⟩
def f18 : Fn := ⟨4, 5, [.asg (.nm 4) (.call 17 [.var 0, .var 1, .var 2]), .expr (.call 10 [.call 4 [.var 0], .var 3]), .ret (.bin .add (.bin .add (.slc (.var 1) none (some (.var 2))) (.var 3)) (.slc (.var 1) (some (.bin .add (.var 2) (.bi .len false [.var 4]))) none))]⟩
abbrev s18 : Stmt := top 31
def e18 : Ent := ⟨"put_at", ⟨("put_at", none), "put_at", "put_at", defArgs s18, defBody s18, defScope s18, [], []⟩, ["signs", "term", "place", "other", "part"], ["signs", "term", "place", "other"], false, false⟩
def f19 : Fn := ⟨2, 3, [.asg (.nm 2) (.call 4 [.var 0]), .expr (.call 10 [.var 2, .var 1]), .ret (.bi .tuple false [.call 13 [.call 5 [.var 0], .call 14 [.var 2, .lst false [.var 1]]]])]⟩
abbrev s19 : Stmt := top 32
def e19 : Ent := ⟨"parts", ⟨("parts", none), "parts", "parts", defArgs s19, defBody s19, defScope s19, [], []⟩, ["signs", "term", "known"], ["signs", "term"], false, false⟩
def f20 : Fn := ⟨3, 5, [.asg (.nm 3) (.call 4 [.var 0]), .expr (.call 10 [.var 3, .var 1]), .expr (.call 10 [.var 3, .var 2]), .ret (.bi .tuple false [.comp false (.var 4) (.nm 4) .rng [.bi .len false [.var 1]] [.cmp .eq (.slc (.var 1) (some (.var 4)) (some (.call 6 [.var 3, .var 1, .var 4]))) (.var 2)]])]⟩
abbrev s20 : Stmt := top 33
def e20 : Ent := ⟨"places_of", ⟨("places_of", none), "places_of", "places_of", defArgs s20, defBody s20, defScope s20, [], []⟩, ["signs", "term", "part", "known", "at"], ["signs", "term", "part"], false, false⟩
def f21 : Fn := ⟨1, 2, [.ret (.lst true [.comp false (.bi .abs false [.var 1]) (.nm 1) .seq [.slc (.var 0) none (some (.int 63))] [], .int 0, .int 20011, .int 0])]⟩
abbrev s21 : Stmt := top 35
def e21 : Ent := ⟨"_law_pot", ⟨("_law_pot", none), "_law_pot", "_law_pot", defArgs s21, defBody s21, defScope s21, [], []⟩, ["script", "cell"], ["script"], false, false⟩
def f22 : Fn := ⟨2, 4, [.ifs (.cmp .lt (.var 1) (.int 2)) [.ret (.int 0)] [], .ifs (.cmp .gt (.sub (.var 0) (.int 3)) (.int 0)) [.asg (.nm 3) (.bin .mod (.bi .int false [.sub (.var 0) (.int 3)]) (.var 1)), .asub (.var 0) (.int 3) (.bin .fdiv (.sub (.var 0) (.int 3)) (.var 1)), .ret (.var 3)] [], .asg (.nm 2) (.int 0), .ifs (.cmp .lt (.sub (.var 0) (.int 1)) (.bi .len false [.sub (.var 0) (.int 0)])) [.asg (.nm 2) (.sub (.sub (.var 0) (.int 0)) (.sub (.var 0) (.int 1))), .asub (.var 0) (.int 1) (.bin .add (.sub (.var 0) (.int 1)) (.int 1)), .ifs (.cmp .ge (.var 2) (.bin .pow (.int 10) (.int 18))) [.asub (.var 0) (.int 3) (.bin .fdiv (.var 2) (.var 1)), .ret (.bin .mod (.bi .int false [.var 2]) (.var 1))] []] [], .asub (.var 0) (.int 2) (.bin .mod (.bi .int false [.bin .add (.bin .add (.bin .mul (.sub (.var 0) (.int 2)) (.int 48271)) (.var 2)) (.int 12345)]) (.int 2147483647)), .ret (.bin .mod (.bi .int false [.bin .add (.bin .fdiv (.bin .mul (.sub (.var 0) (.int 2)) (.sub (.var 0) (.int 2))) (.int 64)) (.bin .fdiv (.sub (.var 0) (.int 2)) (.int 7))]) (.var 1))]⟩
abbrev s22 : Stmt := top 36
def e22 : Ent := ⟨"_law_draw", ⟨("_law_draw", none), "_law_draw", "_law_draw", defArgs s22, defBody s22, defScope s22, [], []⟩, ["pot", "many", "cell", "found"], ["pot", "many"], false, false⟩
def f23 : Fn := ⟨2, 2, [.ret (.sub (.var 1) (.call 22 [.var 0, .bi .len false [.var 1]]))]⟩
abbrev s23 : Stmt := top 37
def e23 : Ent := ⟨"_law_pick", ⟨("_law_pick", none), "_law_pick", "_law_pick", defArgs s23, defBody s23, defScope s23, [], []⟩, ["pot", "row"], ["pot", "row"], false, false⟩
def f24 : Fn := ⟨2, 3, [.ifs (.or [.isi (.var 1) [.tuple], .isi (.var 1) [.list]]) [.ifs (.or [.cmp .ne (.isi (.var 1) [.tuple]) (.isi (.var 0) [.tuple]), .cmp .ne (.isi (.var 1) [.list]) (.isi (.var 0) [.list])]) [.ret (.bl false)] [], .ifs (.cmp .ne (.bi .len false [.var 0]) (.bi .len false [.var 1])) [.ret (.bl false)] [], .ret (.cmp .eq (.comp false (.var 2) (.nm 2) .rng [.bi .len false [.var 1]] [.not (.call 24 [.sub (.var 0) (.var 2), .sub (.var 1) (.var 2)])]) (.lst false []))] [], .ifs (.isN false (.var 1)) [.ret (.isN false (.var 0))] [], .ifs (.isi (.var 1) [.str]) [.ret (.and [.isi (.var 0) [.str], .cmp .eq (.var 0) (.var 1)])] [], .ret (.and [.isi (.var 0) [.int], .cmp .eq (.isi (.var 0) [.bool]) (.isi (.var 1) [.bool]), .cmp .eq (.var 0) (.var 1)])]⟩
abbrev s24 : Stmt := top 38
def e24 : Ent := ⟨"_law_same", ⟨("_law_same", none), "_law_same", "_law_same", defArgs s24, defBody s24, defScope s24, [], []⟩, ["found", "due", "k"], ["found", "due"], false, false⟩
def f25 : Fn := ⟨2, 3, [.ifs (.isi (.var 1) [.int]) [.ret (.call 23 [.var 0, .lst false [.bin .add (.var 1) (.int 1), .bin .sub (.var 1) (.int 1), .int 10, .neg (.int 10), .int 100, .bl true, .non, .bi .str false [.var 1], .tup [.var 1]]])] [], .ifs (.isi (.var 1) [.str]) [.ret (.call 23 [.var 0, .lst false [.bin .add (.var 1) (.str "a"), .slc (.var 1) (some (.int 1)) none, .str "", .str "A", .int 0, .non, .tup [.var 1], .lst false [.var 1], .str "abcdefghi"]])] [], .ifs (.isi (.var 1) [.tuple]) [.asg (.nm 2) (.lst false [.bin .add (.var 1) (.slc (.var 1) (some (.neg (.int 1))) none), .slc (.var 1) (some (.int 1)) none, .bi .list false [.var 1], .tup [], .non, .int 3, .str "x", .tup [.var 1], .slc (.var 1) none (some (.neg (.int 1))), .bin .add (.var 1) (.tup [.int 1])]), .ret (.call 23 [.var 0, .bin .add (.var 2) (.lst false [.rev (.var 1), .bin .add (.slc (.var 1) (some (.int 1)) none) (.slc (.var 1) none (some (.int 1)))])])] [], .ret (.call 23 [.var 0, .lst false [.non, .int 0, .str "ab", .dnew false false [], .bl true]])]⟩
abbrev s25 : Stmt := top 39
def e25 : Ent := ⟨"_law_odd", ⟨("_law_odd", none), "_law_odd", "_law_odd", defArgs s25, defBody s25, defScope s25, [], []⟩, ["pot", "thing", "some"], ["pot", "thing"], false, false⟩
def f26 : Fn := ⟨3, 5, [.ifs (.and [.isi (.var 1) [.list, .tuple], .cmp .gt (.bi .len false [.var 1]) (.int 0), .cmp .gt (.var 2) (.int 0), .cmp .gt (.call 22 [.var 0, .int 5]) (.int 0)]) [.asg (.nm 3) (.call 22 [.var 0, .bi .len false [.var 1]]), .asg (.nm 4) (.call 26 [.var 0, .sub (.var 1) (.var 3), .bin .sub (.var 2) (.int 1)]), .ifs (.isi (.var 1) [.list]) [.ret (.bin .add (.bin .add (.slc (.var 1) none (some (.var 3))) (.lst false [.var 4])) (.slc (.var 1) (some (.bin .add (.var 3) (.int 1))) none))] [], .ret (.bin .add (.bin .add (.slc (.var 1) none (some (.var 3))) (.tup [.var 4])) (.slc (.var 1) (some (.bin .add (.var 3) (.int 1))) none))] [], .ret (.call 25 [.var 0, .var 1])]⟩
abbrev s26 : Stmt := top 40
def e26 : Ent := ⟨"_law_bent", ⟨("_law_bent", none), "_law_bent", "_law_bent", defArgs s26, defBody s26, defScope s26, [], []⟩, ["pot", "thing", "left", "at", "part"], ["pot", "thing", "left"], false, false⟩
def f27 : Fn := ⟨1, 2, [.ret (.mth .join (.str "") [.comp false (.call 23 [.var 0, .str "abcdefghijklmnopqrstuvwxyz"]) (.nm 1) .rng [.bin .add (.int 1) (.call 22 [.var 0, .int 3])] []])]⟩
abbrev s27 : Stmt := top 41
def e27 : Ent := ⟨"_law_name", ⟨("_law_name", none), "_law_name", "_law_name", defArgs s27, defBody s27, defScope s27, [], []⟩, ["pot", "k"], ["pot"], false, false⟩
def f28 : Fn := ⟨2, 10, [.asg (.tu [.nm 4, .nm 5]) (.tup [.lst true [], .lst true []]), .for (.nm 2) .rng [.bin .add (.int 2) (.call 22 [.var 0, .bin .sub (.var 1) (.int 1)])] [.asg (.nm 6) (.call 27 [.var 0]), .asg (.nm 7) (.bin .add (.lst false [.var 6]) (.comp false (.bin .add (.var 6) (.var 8)) (.nm 8) .seq [.str "abcdefgh"] [])), .expr (.mth .append (.var 4) [.sub (.comp false (.var 9) (.nm 9) .seq [.var 7] [.cmp .notin (.var 9) (.var 4)]) (.int 0)])], .for (.nm 2) .rng [.bi .len false [.var 4]] [.expr (.mth .append (.var 5) [.tup [.sub (.var 4) (.var 2), .call 23 [.var 0, .lst false [.int 0, .int 0, .int 1, .int 1, .int 2, .int 2, .int 3]]]])], .asg (.nm 3) (.call 22 [.var 0, .bi .len false [.var 4]]), .asub (.var 5) (.var 3) (.tup [.sub (.var 4) (.var 3), .int 0]), .ret (.bi .tuple true [.var 5])]⟩
abbrev s28 : Stmt := top 42
def e28 : Ent := ⟨"_law_signs", ⟨("_law_signs", none), "_law_signs", "_law_signs", defArgs s28, defBody s28, defScope s28, [], []⟩, ["pot", "most", "k", "at", "names", "found", "name", "some", "letter", "own"], ["pot", "most"], false, false⟩
def f29 : Fn := ⟨3, 8, [.asg (.tu [.nm 4, .nm 5]) (.tup [.lst true [], .int 1]), .for (.nm 3) .rng [.var 2] [.ifs (.cmp .gt (.var 5) (.int 0)) [.asg (.nm 6) (.comp false (.var 7) (.nm 7) .seq [.var 1] [.cmp .le (.bin .add (.bin .add (.bi .len false [.var 4]) (.var 5)) (.sub (.var 7) (.int 1))) (.var 2)]), .asg (.nm 7) (.call 23 [.var 0, .var 6]), .expr (.mth .append (.var 4) [.sub (.var 7) (.int 0)]), .asg (.nm 5) (.bin .sub (.bin .add (.var 5) (.sub (.var 7) (.int 1))) (.int 1))] []], .ret (.bi .tuple false [.var 4])]⟩
abbrev s29 : Stmt := top 43
def e29 : Ent := ⟨"_law_term", ⟨("_law_term", none), "_law_term", "_law_term", defArgs s29, defBody s29, defScope s29, [], []⟩, ["pot", "signs", "most", "turn", "found", "ends", "able", "own"], ["pot", "signs", "most"], false, false⟩
def f30 : Fn := ⟨3, 6, [.asg (.tu [.nm 4, .nm 5]) (.tup [.int 1, .var 2]), .for (.nm 3) .rng [.bi .len false [.var 1]] [.ifs (.cmp .gt (.var 4) (.int 0)) [.asg (.nm 4) (.bin .sub (.bin .add (.var 4) (.sub (.var 0) (.sub (.var 1) (.var 5)))) (.int 1)), .asg (.nm 5) (.bin .add (.var 5) (.int 1))] []], .ret (.var 5)]⟩
abbrev s30 : Stmt := top 44
def e30 : Ent := ⟨"_law_end", ⟨("_law_end", none), "_law_end", "_law_end", defArgs s30, defBody s30, defScope s30, [], []⟩, ["known", "term", "start", "turn", "ends", "at"], ["known", "term", "start"], false, false⟩
def f31 : Fn := ⟨3, 3, [.ret (.slc (.var 1) (some (.var 2)) (some (.call 30 [.var 0, .var 1, .var 2])))]⟩
abbrev s31 : Stmt := top 45
def e31 : Ent := ⟨"_law_part", ⟨("_law_part", none), "_law_part", "_law_part", defArgs s31, defBody s31, defScope s31, [], []⟩, ["known", "term", "start"], ["known", "term", "start"], false, false⟩
def f32 : Fn := ⟨2, 5, [.asg (.tu [.nm 3, .nm 4]) (.tup [.lst true [], .int 1]), .for (.nm 2) .rng [.sub (.var 0) (.sub (.var 1) (.int 0))] [.expr (.mth .append (.var 3) [.call 31 [.var 0, .var 1, .var 4]]), .asg (.nm 4) (.bin .add (.var 4) (.bi .len false [.sub (.var 3) (.neg (.int 1))]))], .frz 3, .ret (.var 3)]⟩
abbrev s32 : Stmt := top 46
def e32 : Ent := ⟨"_law_given", ⟨("_law_given", none), "_law_given", "_law_given", defArgs s32, defBody s32, defScope s32, [], []⟩, ["known", "term", "turn", "found", "at"], ["known", "term"], false, false⟩
def f33 : Fn := ⟨2, 6, [.asg (.nm 2) (.lst true []), .for (.nm 3) .seq [.var 1] [.for (.nm 4) .rng [.bi .len false [.var 3]] [.asg (.nm 5) (.call 31 [.var 0, .var 3, .var 4]), .ifs (.cmp .notin (.var 5) (.var 2)) [.expr (.mth .append (.var 2) [.var 5])] []]], .frz 2, .ret (.var 2)]⟩
abbrev s33 : Stmt := top 47
def e33 : Ent := ⟨"_law_parts", ⟨("_law_parts", none), "_law_parts", "_law_parts", defArgs s33, defBody s33, defScope s33, [], []⟩, ["known", "terms", "found", "term", "at", "part"], ["known", "terms"], false, false⟩
def f34 : Fn := ⟨2, 5, [.asg (.nm 2) (.comp false (.sub (.var 3) (.int 0)) (.nm 3) .seq [.var 0] []), .ret (.tup [.bi .len false [.var 1], .bi .tuple false [.comp false (.mth .index (.var 2) [.var 4]) (.nm 4) .seq [.var 1] []]])]⟩
abbrev s34 : Stmt := top 48
def e34 : Ent := ⟨"_law_key", ⟨("_law_key", none), "_law_key", "_law_key", defArgs s34, defBody s34, defScope s34, [], []⟩, ["signs", "term", "names", "own", "name"], ["signs", "term"], false, false⟩
def f35 : Fn := ⟨2, 5, [.asg (.nm 2) (.bi .sorted false [.comp false (.tup [.call 34 [.var 0, .var 4], .var 4]) (.nm 4) .seq [.var 1] []]), .ret (.comp false (.sub (.sub (.var 2) (.var 3)) (.int 1)) (.nm 3) .rng [.bi .len false [.var 2]] [.or [.cmp .eq (.var 3) (.int 0), .cmp .ne (.sub (.sub (.var 2) (.var 3)) (.int 1)) (.sub (.sub (.var 2) (.bin .sub (.var 3) (.int 1))) (.int 1))]])]⟩
abbrev s35 : Stmt := top 49
def e35 : Ent := ⟨"_law_ordered", ⟨("_law_ordered", none), "_law_ordered", "_law_ordered", defArgs s35, defBody s35, defScope s35, [], []⟩, ["signs", "terms", "rows", "k", "term"], ["signs", "terms"], false, false⟩
def f36 : Fn := ⟨2, 4, [.ifs (.or [.not (.isi (.var 1) [.tuple]), .not (.chain .le .le (.int 1) (.bi .len false [.var 1]) (.int 30))]) [.ret (.bl false)] [], .asg (.nm 2) (.int 1), .for (.nm 3) .seq [.var 1] [.ifs (.or [.cmp .eq (.var 2) (.int 0), .not (.isi (.var 3) [.str]), .cmp .notin (.var 3) (.var 0)]) [.ret (.bl false)] [], .asg (.nm 2) (.bin .sub (.bin .add (.var 2) (.sub (.var 0) (.var 3))) (.int 1))], .ret (.cmp .eq (.var 2) (.int 0))]⟩
abbrev s36 : Stmt := top 50
def e36 : Ent := ⟨"_law_is_term", ⟨("_law_is_term", none), "_law_is_term", "_law_is_term", defArgs s36, defBody s36, defScope s36, [], []⟩, ["known", "value", "ends", "name"], ["known", "value"], false, false⟩
def f37 : Fn := ⟨2, 2, [.try [.expr (.clo 0)] [("NoTerm", none, [.ret (.cmp .eq (.var 1) (.str "NoTerm"))]), ("NotThere", none, [.ret (.cmp .eq (.var 1) (.str "NotThere"))])], .ret (.bl false)]⟩
abbrev s37 : Stmt := top 51
def e37 : Ent := ⟨"_law_raises", ⟨("_law_raises", none), "_law_raises", "_law_raises", defArgs s37, defBody s37, defScope s37, [], []⟩, ["work", "name"], ["work", "name"], true, false⟩
def f38 : Fn := ⟨2, 6, [.asg (.tu [.nm 3, .nm 4]) (.tup [.int 0, .lst true []]), .for (.nm 2) .seq [.var 1] [.asg (.nm 3) (.bi .max2 false [.var 3, .bin .add (.bi .len false [.var 4]) (.int 1)]), .expr (.mth .append (.var 4) [.sub (.var 0) (.var 2)]), .for (.nm 5) .rng [.bi .len false [.var 4]] [.ifs (.and [.cmp .ne (.var 4) (.lst false []), .cmp .eq (.sub (.var 4) (.neg (.int 1))) (.int 0)]) [.expr (.mth .pop (.var 4) []), .ifs (.cmp .ne (.var 4) (.lst false [])) [.asub (.var 4) (.neg (.int 1)) (.bin .sub (.sub (.var 4) (.neg (.int 1))) (.int 1))] []] []]], .ret (.var 3)]⟩
abbrev s38 : Stmt := top 52
def e38 : Ent := ⟨"_law_depth", ⟨("_law_depth", none), "_law_depth", "_law_depth", defArgs s38, defBody s38, defScope s38, [], []⟩, ["known", "term", "name", "best", "open_ends", "turn"], ["known", "term"], false, false⟩
def f39 : Fn := ⟨1, 14, [.asg (.nm 1) (.call 21 [.var 0]), .for (.nm 2) .rng [.int 4] [.asg (.nm 3) (.call 28 [.var 1, .int 6]), .asg (.nm 4) (.bi .dict false [.var 3]), .frz 3, .asg (.nm 5) (.call 29 [.var 1, .var 3, .bin .add (.int 1) (.call 22 [.var 1, .int 30])]), .asg (.nm 6) (.call 29 [.var 1, .var 3, .bin .add (.int 1) (.call 22 [.var 1, .int 8])]), .ifs (.not (.call 24 [.tup [.call 9 [.var 3, .var 5], .call 9 [.var 3, .var 6]], .tup [.bl true, .bl true]])) [.ret (.bl false)] [], .asg (.nm 7) (.call 26 [.var 1, .call 23 [.var 1, .lst false [.var 5, .var 6]], .int 1]), .asg (.nm 8) (.call 36 [.var 4, .var 7]), .ifs (.not (.call 24 [.call 9 [.var 3, .var 7], .var 8])) [.ret (.bl false)] [], .ifs (.and [.not (.var 8), .not (.lcall 37 0 ["NoTerm"])]) [.ret (.bl false)] [], .ifs (.and [.not (.var 8), .not (.lcall 37 1 ["NoTerm"])]) [.ret (.bl false)] [], .ifs (.not (.call 24 [.call 15 [.var 3, .var 5], .bi .tuple false [.call 32 [.var 4, .var 5]]])) [.ret (.bl false)] [], .ifs (.not (.call 24 [.call 16 [.var 3, .var 5], .call 38 [.var 4, .var 5]])) [.ret (.bl false)] [], .ifs (.not (.call 24 [.call 19 [.var 3, .var 5], .bi .tuple false [.call 35 [.var 3, .call 33 [.var 4, .lst false [.var 5]]]]])) [.ret (.bl false)] [], .asg (.nm 9) (.call 22 [.var 1, .bi .len false [.var 5]]), .asg (.nm 10) (.call 31 [.var 4, .var 5, .var 9]), .ifs (.not (.call 24 [.call 17 [.var 3, .var 5, .var 9], .var 10])) [.ret (.bl false)] [], .asg (.nm 11) (.comp false (.var 13) (.nm 13) .rng [.bi .len false [.var 5]] [.cmp .eq (.call 31 [.var 4, .var 5, .var 13]) (.var 10)]), .ifs (.or [.not (.call 24 [.call 20 [.var 3, .var 5, .var 10], .bi .tuple false [.var 11]]), .cmp .notin (.var 9) (.var 11)]) [.ret (.bl false)] [], .ifs (.not (.call 24 [.call 18 [.var 3, .var 5, .var 9, .var 6], .bin .add (.bin .add (.slc (.var 5) none (some (.var 9))) (.var 6)) (.slc (.var 5) (some (.bin .add (.var 9) (.bi .len false [.var 10]))) none)])) [.ret (.bl false)] [], .asg (.nm 12) (.call 23 [.var 1, .lst false [.bi .len false [.var 5], .neg (.int 1), .non, .bl true, .str "0", .bin .add (.bi .len false [.var 5]) (.int 3)]]), .ifs (.not (.lcall 37 2 ["NotThere"])) [.ret (.bl false)] [], .ifs (.not (.lcall 37 3 ["NotThere"])) [.ret (.bl false)] []], .ret (.bl true)]⟩
abbrev s39 : Stmt := top 53
def e39 : Ent := ⟨"law", ⟨("law", none), "law", "law", defArgs s39, defBody s39, defScope s39, [], []⟩, ["script", "pot", "turn", "signs", "known", "term", "other", "value", "due", "at", "part", "places", "odd", "k"], ["script"], false, true⟩
def es : List Ent := [e0, e1, e2, e3, e4, e5, e6, e7, e8, e9, e10, e11, e12, e13, e14, e15, e16, e17, e18, e19, e20, e21, e22, e23, e24, e25, e26, e27, e28, e29, e30, e31, e32, e33, e34, e35, e36, e37, e38, e39]
def cls : List String := ["TermError", "NoSigns", "NoTerm", "NotThere"]
def exs : List (String × List String) := [("TermError", []), ("NoSigns", []), ("NoTerm", []), ("NotThere", [])]
def ancs : List (String × List String) := [("TermError", ["TermError"]), ("NoSigns", ["NoSigns", "TermError"]), ("NoTerm", ["NoTerm", "TermError"]), ("NotThere", ["NotThere", "TermError"])]
def xsub (a b : String) : Bool := match ancs.lookup a with | some l => l.contains b | none => false
def lams : List Ex := [.call 15 [.var 3, .var 7], .call 18 [.var 3, .var 5, .int 0, .var 7], .call 17 [.var 3, .var 5, .var 12], .call 18 [.var 3, .var 5, .var 12, .var 6]]
def cons : List (String × D) := [("MOST_SIGNS", .int (8)), ("MOST_ARITY", .int (3)), ("MOST_NAME", .int (8)), ("LETTERS", .str "abcdefghijklmnopqrstuvwxyz"), ("MOST_SIZE", .int (30))]
def P : Prog := ⟨[f0, f1, f2, f3, f4, f5, f6, f7, f8, f9, f10, f11, f12, f13, f14, f15, f16, f17, f18, f19, f20, f21, f22, f23, f24, f25, f26, f27, f28, f29, f30, f31, f32, f33, f34, f35, f36, f37, f38, f39], lams, fun x => cons.lookup x, fun _ => none, fun C => exs.lookup C, xsub⟩
theorem c0 : chkSs (ckOf es cls lams e0) f0.body e0.d.body = true := by decide +kernel
theorem sc0 : FnScope e0.N e0.ps e0.d.scope := ⟨rfl, rfl, rfl, by decide +kernel, rfl, by decide +kernel, by decide +kernel⟩
theorem t0 : TextOk P es cls 0 e0 := ⟨⟨f0, rfl, rfl, rfl, c0⟩, sc0⟩
theorem c1 : chkSs (ckOf es cls lams e1) f1.body e1.d.body = true := by decide +kernel
theorem sc1 : FnScope e1.N e1.ps e1.d.scope := ⟨rfl, rfl, rfl, by decide +kernel, rfl, by decide +kernel, by decide +kernel⟩
theorem t1 : TextOk P es cls 1 e1 := ⟨⟨f1, rfl, rfl, rfl, c1⟩, sc1⟩
theorem c2 : chkSs (ckOf es cls lams e2) f2.body e2.d.body = true := by decide +kernel
theorem sc2 : FnScope e2.N e2.ps e2.d.scope := ⟨rfl, rfl, rfl, by decide +kernel, rfl, by decide +kernel, by decide +kernel⟩
theorem t2 : TextOk P es cls 2 e2 := ⟨⟨f2, rfl, rfl, rfl, c2⟩, sc2⟩
theorem c3 : chkSs (ckOf es cls lams e3) f3.body e3.d.body = true := by decide +kernel
theorem sc3 : FnScope e3.N e3.ps e3.d.scope := ⟨rfl, rfl, rfl, by decide +kernel, rfl, by decide +kernel, by decide +kernel⟩
theorem t3 : TextOk P es cls 3 e3 := ⟨⟨f3, rfl, rfl, rfl, c3⟩, sc3⟩
theorem c4 : chkSs (ckOf es cls lams e4) f4.body e4.d.body = true := by decide +kernel
theorem sc4 : FnScope e4.N e4.ps e4.d.scope := ⟨rfl, rfl, rfl, by decide +kernel, rfl, by decide +kernel, by decide +kernel⟩
theorem t4 : TextOk P es cls 4 e4 := ⟨⟨f4, rfl, rfl, rfl, c4⟩, sc4⟩
theorem c5 : chkSs (ckOf es cls lams e5) f5.body e5.d.body = true := by decide +kernel
theorem sc5 : FnScope e5.N e5.ps e5.d.scope := ⟨rfl, rfl, rfl, by decide +kernel, rfl, by decide +kernel, by decide +kernel⟩
theorem t5 : TextOk P es cls 5 e5 := ⟨⟨f5, rfl, rfl, rfl, c5⟩, sc5⟩
theorem c6 : chkSs (ckOf es cls lams e6) f6.body e6.d.body = true := by decide +kernel
theorem sc6 : FnScope e6.N e6.ps e6.d.scope := ⟨rfl, rfl, rfl, by decide +kernel, rfl, by decide +kernel, by decide +kernel⟩
theorem t6 : TextOk P es cls 6 e6 := ⟨⟨f6, rfl, rfl, rfl, c6⟩, sc6⟩
theorem c7 : chkSs (ckOf es cls lams e7) f7.body e7.d.body = true := by decide +kernel
theorem sc7 : FnScope e7.N e7.ps e7.d.scope := ⟨rfl, rfl, rfl, by decide +kernel, rfl, by decide +kernel, by decide +kernel⟩
theorem t7 : TextOk P es cls 7 e7 := ⟨⟨f7, rfl, rfl, rfl, c7⟩, sc7⟩
theorem c8 : chkSs (ckOf es cls lams e8) f8.body e8.d.body = true := by decide +kernel
theorem sc8 : FnScope e8.N e8.ps e8.d.scope := ⟨rfl, rfl, rfl, by decide +kernel, rfl, by decide +kernel, by decide +kernel⟩
theorem t8 : TextOk P es cls 8 e8 := ⟨⟨f8, rfl, rfl, rfl, c8⟩, sc8⟩
theorem c9 : chkSs (ckOf es cls lams e9) f9.body e9.d.body = true := by decide +kernel
theorem sc9 : FnScope e9.N e9.ps e9.d.scope := ⟨rfl, rfl, rfl, by decide +kernel, rfl, by decide +kernel, by decide +kernel⟩
theorem t9 : TextOk P es cls 9 e9 := ⟨⟨f9, rfl, rfl, rfl, c9⟩, sc9⟩
theorem c10 : chkSs (ckOf es cls lams e10) f10.body e10.d.body = true := by decide +kernel
theorem sc10 : FnScope e10.N e10.ps e10.d.scope := ⟨rfl, rfl, rfl, by decide +kernel, rfl, by decide +kernel, by decide +kernel⟩
theorem t10 : TextOk P es cls 10 e10 := ⟨⟨f10, rfl, rfl, rfl, c10⟩, sc10⟩
theorem c11 : chkSs (ckOf es cls lams e11) f11.body e11.d.body = true := by decide +kernel
theorem sc11 : FnScope e11.N e11.ps e11.d.scope := ⟨rfl, rfl, rfl, by decide +kernel, rfl, by decide +kernel, by decide +kernel⟩
theorem t11 : TextOk P es cls 11 e11 := ⟨⟨f11, rfl, rfl, rfl, c11⟩, sc11⟩
theorem c12 : chkSs (ckOf es cls lams e12) f12.body e12.d.body = true := by decide +kernel
theorem sc12 : FnScope e12.N e12.ps e12.d.scope := ⟨rfl, rfl, rfl, by decide +kernel, rfl, by decide +kernel, by decide +kernel⟩
theorem t12 : TextOk P es cls 12 e12 := ⟨⟨f12, rfl, rfl, rfl, c12⟩, sc12⟩
theorem c13 : chkSs (ckOf es cls lams e13) f13.body e13.d.body = true := by decide +kernel
theorem sc13 : FnScope e13.N e13.ps e13.d.scope := ⟨rfl, rfl, rfl, by decide +kernel, rfl, by decide +kernel, by decide +kernel⟩
theorem t13 : TextOk P es cls 13 e13 := ⟨⟨f13, rfl, rfl, rfl, c13⟩, sc13⟩
theorem c14 : chkSs (ckOf es cls lams e14) f14.body e14.d.body = true := by decide +kernel
theorem sc14 : FnScope e14.N e14.ps e14.d.scope := ⟨rfl, rfl, rfl, by decide +kernel, rfl, by decide +kernel, by decide +kernel⟩
theorem t14 : TextOk P es cls 14 e14 := ⟨⟨f14, rfl, rfl, rfl, c14⟩, sc14⟩
theorem c15 : chkSs (ckOf es cls lams e15) f15.body e15.d.body = true := by decide +kernel
theorem sc15 : FnScope e15.N e15.ps e15.d.scope := ⟨rfl, rfl, rfl, by decide +kernel, rfl, by decide +kernel, by decide +kernel⟩
theorem t15 : TextOk P es cls 15 e15 := ⟨⟨f15, rfl, rfl, rfl, c15⟩, sc15⟩
theorem c16 : chkSs (ckOf es cls lams e16) f16.body e16.d.body = true := by decide +kernel
theorem sc16 : FnScope e16.N e16.ps e16.d.scope := ⟨rfl, rfl, rfl, by decide +kernel, rfl, by decide +kernel, by decide +kernel⟩
theorem t16 : TextOk P es cls 16 e16 := ⟨⟨f16, rfl, rfl, rfl, c16⟩, sc16⟩
theorem c17 : chkSs (ckOf es cls lams e17) f17.body e17.d.body = true := by decide +kernel
theorem sc17 : FnScope e17.N e17.ps e17.d.scope := ⟨rfl, rfl, rfl, by decide +kernel, rfl, by decide +kernel, by decide +kernel⟩
theorem t17 : TextOk P es cls 17 e17 := ⟨⟨f17, rfl, rfl, rfl, c17⟩, sc17⟩
theorem c18 : chkSs (ckOf es cls lams e18) f18.body e18.d.body = true := by decide +kernel
theorem sc18 : FnScope e18.N e18.ps e18.d.scope := ⟨rfl, rfl, rfl, by decide +kernel, rfl, by decide +kernel, by decide +kernel⟩
theorem t18 : TextOk P es cls 18 e18 := ⟨⟨f18, rfl, rfl, rfl, c18⟩, sc18⟩
theorem c19 : chkSs (ckOf es cls lams e19) f19.body e19.d.body = true := by decide +kernel
theorem sc19 : FnScope e19.N e19.ps e19.d.scope := ⟨rfl, rfl, rfl, by decide +kernel, rfl, by decide +kernel, by decide +kernel⟩
theorem t19 : TextOk P es cls 19 e19 := ⟨⟨f19, rfl, rfl, rfl, c19⟩, sc19⟩
theorem c20 : chkSs (ckOf es cls lams e20) f20.body e20.d.body = true := by decide +kernel
theorem sc20 : FnScope e20.N e20.ps e20.d.scope := ⟨rfl, rfl, rfl, by decide +kernel, rfl, by decide +kernel, by decide +kernel⟩
theorem t20 : TextOk P es cls 20 e20 := ⟨⟨f20, rfl, rfl, rfl, c20⟩, sc20⟩
theorem c21 : chkSs (ckOf es cls lams e21) f21.body e21.d.body = true := by decide +kernel
theorem sc21 : FnScope e21.N e21.ps e21.d.scope := ⟨rfl, rfl, rfl, by decide +kernel, rfl, by decide +kernel, by decide +kernel⟩
theorem t21 : TextOk P es cls 21 e21 := ⟨⟨f21, rfl, rfl, rfl, c21⟩, sc21⟩
theorem c22 : chkSs (ckOf es cls lams e22) f22.body e22.d.body = true := by decide +kernel
theorem sc22 : FnScope e22.N e22.ps e22.d.scope := ⟨rfl, rfl, rfl, by decide +kernel, rfl, by decide +kernel, by decide +kernel⟩
theorem t22 : TextOk P es cls 22 e22 := ⟨⟨f22, rfl, rfl, rfl, c22⟩, sc22⟩
theorem c23 : chkSs (ckOf es cls lams e23) f23.body e23.d.body = true := by decide +kernel
theorem sc23 : FnScope e23.N e23.ps e23.d.scope := ⟨rfl, rfl, rfl, by decide +kernel, rfl, by decide +kernel, by decide +kernel⟩
theorem t23 : TextOk P es cls 23 e23 := ⟨⟨f23, rfl, rfl, rfl, c23⟩, sc23⟩
theorem c24 : chkSs (ckOf es cls lams e24) f24.body e24.d.body = true := by decide +kernel
theorem sc24 : FnScope e24.N e24.ps e24.d.scope := ⟨rfl, rfl, rfl, by decide +kernel, rfl, by decide +kernel, by decide +kernel⟩
theorem t24 : TextOk P es cls 24 e24 := ⟨⟨f24, rfl, rfl, rfl, c24⟩, sc24⟩
theorem c25 : chkSs (ckOf es cls lams e25) f25.body e25.d.body = true := by decide +kernel
theorem sc25 : FnScope e25.N e25.ps e25.d.scope := ⟨rfl, rfl, rfl, by decide +kernel, rfl, by decide +kernel, by decide +kernel⟩
theorem t25 : TextOk P es cls 25 e25 := ⟨⟨f25, rfl, rfl, rfl, c25⟩, sc25⟩
theorem c26 : chkSs (ckOf es cls lams e26) f26.body e26.d.body = true := by decide +kernel
theorem sc26 : FnScope e26.N e26.ps e26.d.scope := ⟨rfl, rfl, rfl, by decide +kernel, rfl, by decide +kernel, by decide +kernel⟩
theorem t26 : TextOk P es cls 26 e26 := ⟨⟨f26, rfl, rfl, rfl, c26⟩, sc26⟩
theorem c27 : chkSs (ckOf es cls lams e27) f27.body e27.d.body = true := by decide +kernel
theorem sc27 : FnScope e27.N e27.ps e27.d.scope := ⟨rfl, rfl, rfl, by decide +kernel, rfl, by decide +kernel, by decide +kernel⟩
theorem t27 : TextOk P es cls 27 e27 := ⟨⟨f27, rfl, rfl, rfl, c27⟩, sc27⟩
theorem c28 : chkSs (ckOf es cls lams e28) f28.body e28.d.body = true := by decide +kernel
theorem sc28 : FnScope e28.N e28.ps e28.d.scope := ⟨rfl, rfl, rfl, by decide +kernel, rfl, by decide +kernel, by decide +kernel⟩
theorem t28 : TextOk P es cls 28 e28 := ⟨⟨f28, rfl, rfl, rfl, c28⟩, sc28⟩
theorem c29 : chkSs (ckOf es cls lams e29) f29.body e29.d.body = true := by decide +kernel
theorem sc29 : FnScope e29.N e29.ps e29.d.scope := ⟨rfl, rfl, rfl, by decide +kernel, rfl, by decide +kernel, by decide +kernel⟩
theorem t29 : TextOk P es cls 29 e29 := ⟨⟨f29, rfl, rfl, rfl, c29⟩, sc29⟩
theorem c30 : chkSs (ckOf es cls lams e30) f30.body e30.d.body = true := by decide +kernel
theorem sc30 : FnScope e30.N e30.ps e30.d.scope := ⟨rfl, rfl, rfl, by decide +kernel, rfl, by decide +kernel, by decide +kernel⟩
theorem t30 : TextOk P es cls 30 e30 := ⟨⟨f30, rfl, rfl, rfl, c30⟩, sc30⟩
theorem c31 : chkSs (ckOf es cls lams e31) f31.body e31.d.body = true := by decide +kernel
theorem sc31 : FnScope e31.N e31.ps e31.d.scope := ⟨rfl, rfl, rfl, by decide +kernel, rfl, by decide +kernel, by decide +kernel⟩
theorem t31 : TextOk P es cls 31 e31 := ⟨⟨f31, rfl, rfl, rfl, c31⟩, sc31⟩
theorem c32 : chkSs (ckOf es cls lams e32) f32.body e32.d.body = true := by decide +kernel
theorem sc32 : FnScope e32.N e32.ps e32.d.scope := ⟨rfl, rfl, rfl, by decide +kernel, rfl, by decide +kernel, by decide +kernel⟩
theorem t32 : TextOk P es cls 32 e32 := ⟨⟨f32, rfl, rfl, rfl, c32⟩, sc32⟩
theorem c33 : chkSs (ckOf es cls lams e33) f33.body e33.d.body = true := by decide +kernel
theorem sc33 : FnScope e33.N e33.ps e33.d.scope := ⟨rfl, rfl, rfl, by decide +kernel, rfl, by decide +kernel, by decide +kernel⟩
theorem t33 : TextOk P es cls 33 e33 := ⟨⟨f33, rfl, rfl, rfl, c33⟩, sc33⟩
theorem c34 : chkSs (ckOf es cls lams e34) f34.body e34.d.body = true := by decide +kernel
theorem sc34 : FnScope e34.N e34.ps e34.d.scope := ⟨rfl, rfl, rfl, by decide +kernel, rfl, by decide +kernel, by decide +kernel⟩
theorem t34 : TextOk P es cls 34 e34 := ⟨⟨f34, rfl, rfl, rfl, c34⟩, sc34⟩
theorem c35 : chkSs (ckOf es cls lams e35) f35.body e35.d.body = true := by decide +kernel
theorem sc35 : FnScope e35.N e35.ps e35.d.scope := ⟨rfl, rfl, rfl, by decide +kernel, rfl, by decide +kernel, by decide +kernel⟩
theorem t35 : TextOk P es cls 35 e35 := ⟨⟨f35, rfl, rfl, rfl, c35⟩, sc35⟩
theorem c36 : chkSs (ckOf es cls lams e36) f36.body e36.d.body = true := by decide +kernel
theorem sc36 : FnScope e36.N e36.ps e36.d.scope := ⟨rfl, rfl, rfl, by decide +kernel, rfl, by decide +kernel, by decide +kernel⟩
theorem t36 : TextOk P es cls 36 e36 := ⟨⟨f36, rfl, rfl, rfl, c36⟩, sc36⟩
theorem c37 : chkSs (ckOf es cls lams e37) f37.body e37.d.body = true := by decide +kernel
theorem sc37 : FnScope e37.N e37.ps e37.d.scope := ⟨rfl, rfl, rfl, by decide +kernel, rfl, by decide +kernel, by decide +kernel⟩
theorem t37 : TextOk P es cls 37 e37 := ⟨⟨f37, rfl, rfl, rfl, c37⟩, sc37⟩
theorem c38 : chkSs (ckOf es cls lams e38) f38.body e38.d.body = true := by decide +kernel
theorem sc38 : FnScope e38.N e38.ps e38.d.scope := ⟨rfl, rfl, rfl, by decide +kernel, rfl, by decide +kernel, by decide +kernel⟩
theorem t38 : TextOk P es cls 38 e38 := ⟨⟨f38, rfl, rfl, rfl, c38⟩, sc38⟩
theorem c39 : chkSs (ckOf es cls lams e39) f39.body e39.d.body = true := by decide +kernel
theorem sc39 : FnScope e39.N e39.ps e39.d.scope := ⟨rfl, rfl, rfl, by decide +kernel, rfl, by decide +kernel, by decide +kernel⟩
theorem t39 : TextOk P es cls 39 e39 := ⟨⟨f39, rfl, rfl, rfl, c39⟩, sc39⟩
theorem text (i : Nat) (e : Ent) (h : es[i]? = some e) : TextOk P es cls i e := by
  match i, h with
  | 0, h => cases h; exact t0
  | 1, h => cases h; exact t1
  | 2, h => cases h; exact t2
  | 3, h => cases h; exact t3
  | 4, h => cases h; exact t4
  | 5, h => cases h; exact t5
  | 6, h => cases h; exact t6
  | 7, h => cases h; exact t7
  | 8, h => cases h; exact t8
  | 9, h => cases h; exact t9
  | 10, h => cases h; exact t10
  | 11, h => cases h; exact t11
  | 12, h => cases h; exact t12
  | 13, h => cases h; exact t13
  | 14, h => cases h; exact t14
  | 15, h => cases h; exact t15
  | 16, h => cases h; exact t16
  | 17, h => cases h; exact t17
  | 18, h => cases h; exact t18
  | 19, h => cases h; exact t19
  | 20, h => cases h; exact t20
  | 21, h => cases h; exact t21
  | 22, h => cases h; exact t22
  | 23, h => cases h; exact t23
  | 24, h => cases h; exact t24
  | 25, h => cases h; exact t25
  | 26, h => cases h; exact t26
  | 27, h => cases h; exact t27
  | 28, h => cases h; exact t28
  | 29, h => cases h; exact t29
  | 30, h => cases h; exact t30
  | 31, h => cases h; exact t31
  | 32, h => cases h; exact t32
  | 33, h => cases h; exact t33
  | 34, h => cases h; exact t34
  | 35, h => cases h; exact t35
  | 36, h => cases h; exact t36
  | 37, h => cases h; exact t37
  | 38, h => cases h; exact t38
  | 39, h => cases h; exact t39
  | n + 40, h => simp [es] at h
end K02

set_option Elab.async false
set_option linter.all false
set_option maxRecDepth 100000
set_option maxHeartbeats 0
namespace K02
open PySem PySem.Spec PyProof.Rows L2 Dee
def fn : List He.DefD := es.map (·.d) ++ []
def xs : List Str := ["law"]
abbrev R : PySem.W.OpenRow := PySem.W.OpenLaw.row PySem.Challenge.rw_bestterms_k02_terms_told
abbrev ex : PySem.W.Frag → Bool := exK es exs cls xsub cons
abbrev hk : PySem.W.Hook := hookK 6 fn xs ex
def obs_ (s : PySem.W.SharedT) : He.AlD := obsK 6 fn xs ex (HandSHeadRun.getT s)
theorem obs_eq (s : PySem.W.SharedT) : obs_ s = hk.obs s.abs := obsK_eq (HandSHeadRun.getT_eq s)
def loose0 : List PySem.Str := ["TermError", "NoSigns", "NoTerm", "NotThere", "is_number", "MOST_SIGNS", "MOST_ARITY", "MOST_NAME", "LETTERS", "is_name", "is_sign", "is_signs", "arities_of", "ranks_of", "MOST_SIZE", "part_end", "is_whole", "is_known_term", "is_term", "need_term", "given_to", "key_of", "ordered", "parts_within", "arguments"]
def loose1 : List PySem.Str := ["depth", "part_at", "put_at", "parts", "places_of", "_law_pot", "_law_draw", "_law_pick", "_law_same", "_law_odd", "_law_bent", "_law_name", "_law_signs", "_law_term", "_law_end", "_law_part", "_law_given", "_law_parts", "_law_key", "_law_ordered", "_law_is_term", "_law_raises", "_law_depth"]
def loose : List PySem.Str := loose0 ++ loose1
theorem run (w : World) : HandSHeadRun.RunEq R (PySem.W.view R.prog [53]) hk obs_ 6000 loose w := by
  intro os
  kernel_rfl
end K02

set_option Elab.async false
set_option linter.all false
set_option autoImplicit false
set_option maxRecDepth 100000
set_option maxHeartbeats 1000000
namespace K02
open PySem Dee DL
theorem pSigns {k : Nat} {L N : Nat} {d : Dee.D} {M : Mem} {Q : Dee.K} {E : Dee.KX} (hd : pv L N d) (hL : L ≤ line) (hQ : Q (.bl (isSigns d)) M) : wCall P (k + 3) 3 [d] M Q E :=
  signs (P := P) (i := 3) (l := 2) (n := 1) (m := 0) rfl rfl rfl rfl rfl rfl rfl rfl hd hL hQ
theorem pAr (k : Nat) : ArAt P 4 (k + 4) := fun {xs} S {M Q E} hQ =>
  arities (P := P) (i := 4) (n := 3) (k := k + 3) rfl (fun {L N d M Q E} a b c => pSigns a b c) rfl (S.pv (by decide)) (by unfold line; omega) (fun ys e _ => by cases e; exact hQ) fun e => by rw [S.signs (by decide)] at e; cases e
theorem pTm (k : Nat) : TmAt P 8 (k + 2) := fun {kv} K {L N d M Q E} hd hQ => knownT (P := P) (i := 8) (w := 7) rfl rfl rfl K hd hQ
theorem pNeed (k : Nat) : NeedAt P 10 (k + 3) := need (P := P) (i := 10) (w := 8) rfl (pTm k) rfl
theorem pPart (k : Nat) : PartAt P 6 (k + 1) := fun {kv} K {ts} hk {a q} hq hs {M Q E} hQ => partEnd (P := P) (i := 6) rfl K hk hq hs hQ
theorem pGiven (k : Nat) : GivenAt P 11 (k + 2) := fun {kv} K {t ts} hk hl hs {M Q E} hQ => givenTo (P := P) (i := 11) (pe := 6) rfl (pPart k) K hk hl hs hQ
theorem pPartOf (k : Nat) : PartOfAt P 17 (k + 5) := partOfAt (P := P) (i := 17) (a := 4) (n := 10) (pe := 6) rfl (pAr k) (pNeed (k + 1)) (pPart (k + 3)) rfl
theorem pIsTerm {k : Nat} {xs : List Dee.D} (S : Sg xs 8) {L N : Nat} {d : Dee.D} (hd : pv L N d) {M : Mem} {Q : Dee.K} {E : Dee.KX} (hQ : Q (.bl (isTm (kvOf xs) d)) M) : wCall P (k + 5) 9 [.tup xs, d] M Q E :=
  isTerm (P := P) (i := 9) (w := 8) (a := 4) (k := k + 4) rfl (pTm (k + 2)) (pAr k) S hd hQ
theorem pArgs {k : Nat} {xs : List Dee.D} (S : Sg xs 8) {L N : Nat} {d : Dee.D} (hd : pv L N d) {M : Mem} {Q : Dee.K} {E : Dee.KX}
    (h1 : ∀ t ts, d = tm (t :: ts) → isTm (kvOf xs) d = true → Q (.tup ((Tm.given (arN (kvOf xs)) (arN (kvOf xs) t) ts).map tm)) M) (h0 : isTm (kvOf xs) d = false → E ⟨"NoTerm", []⟩ M) : wCall P (k + 5) 15 [.tup xs, d] M Q E :=
  arguments (P := P) (i := 15) (a := 4) (n := 10) (g := 11) (k := k + 4) rfl (pAr k) (pNeed (k + 1)) (pGiven (k + 2)) S hd h1 h0
theorem pDepth {k : Nat} {xs : List Dee.D} (S : Sg xs 8) {ts : List Str} (ht : isTm (kvOf xs) (tm ts) = true) {M : Mem} {Q : Dee.K} {E : Dee.KX}
    (hQ : ∀ M', (∀ b, M b ≠ none → M' b = M b) → Q (.int (((Tm.lv (wd (kvOf xs) ts)).headD 0 : Nat) : Int)) M') : wCall P (k + 5) 16 [.tup xs, tm ts] M Q E :=
  depthT (P := P) (i := 16) (a := 4) (n := 10) (pe := 6) (k := k + 4) rfl (pAr k) (pNeed (k + 1)) (pPart (k + 3)) S ht hQ
theorem pPut {k : Nat} {xs : List Dee.D} (S : Sg xs 8) {ts : List Str} (ht : isTm (kvOf xs) (tm ts) = true) {d o : Dee.D} (hd : tyd d = true) {L N : Nat} (ho : pv L N o) {M : Mem} {Q : Dee.K} {E : Dee.KX}
    (h1 : ∀ (j : Nat) us, d = .int j → j < ts.length → o = tm us → isTm (kvOf xs) o = true → Q (tm (ts.take j ++ us ++ ts.drop (j + (partOf (kvOf xs) ts j).length))) M)
    (h2 : isAt ts.length d = false → E ⟨"NotThere", []⟩ M) (h3 : isAt ts.length d = true → isTm (kvOf xs) o = false → E ⟨"NoTerm", []⟩ M) : wCall P (k + 6) 18 [.tup xs, tm ts, d, o] M Q E :=
  putAt (P := P) (i := 18) (pa := 17) (n := 10) (a := 4) (k := k + 5) rfl (pAr (k + 1)) (pNeed (k + 2)) (pPartOf k) S ht hd ho h1 h2 h3
theorem pParts {k : Nat} {xs : List Dee.D} (S : Sg xs 8) {ts : List Str} (ht : isTm (kvOf xs) (tm ts) = true) {M : Mem} {Q : Dee.K} {E : Dee.KX}
    (hQ : ∀ zs, Srt (xs.map nmS) (allParts (kvOf xs) ts) zs → Q (.tup (zs.map tm)) M) : wCall P (k + 5) 19 [.tup xs, tm ts] M Q E :=
  partsT (P := P) (i := 19) (a := 4) (n := 10) (od := 13) (rk := 5) (pw := 14) (pe := 6) (kf := 12) (k := k + 2) rfl (pAr k) (pNeed (k + 1)) rfl rfl rfl rfl (pPart (k + 2)) S ht hQ
theorem pPlaces {k : Nat} {xs : List Dee.D} (S : Sg xs 8) {ts ps : List Str} (ht : isTm (kvOf xs) (tm ts) = true) (hq : isTm (kvOf xs) (tm ps) = true) {M : Mem} {Q : Dee.K} {E : Dee.KX}
    (hQ : Q (.tup (placesD (kvOf xs) ts ps)) M) : wCall P (k + 5) 20 [.tup xs, tm ts, tm ps] M Q E :=
  placesOf (P := P) (i := 20) (a := 4) (n := 10) (pe := 6) (k := k + 4) rfl (pAr k) (pNeed (k + 1)) (pPart (k + 3)) S ht hq hQ
/-! ### the law's own -/
theorem pLsg {k : Nat} {M : Mem} {p : Nat} {Q : Dee.K} {E : Dee.KX} (hp : Pot M p) (hQ : ∀ xs M' a, Sg xs 6 → Pot M' p → a ≠ p → M' a = some (.tup xs) → Q (.ref a) M') : wCall P (k + 4) 28 [.ref p, .int 6] M Q E :=
  lsgP (P := P) (d := 22) (q := 23) (nm := 27) (i := 28) (most := 6) rfl rfl rfl rfl hp (by decide) (by decide) hQ
theorem pDraw {k : Nat} {M : Mem} {p : Nat} {many : Int} {Q : Dee.K} {E : Dee.KX} (hp : Pot M p) (h1 : 1 ≤ many) (h2 : many < 1000) (hQ : ∀ r M', 0 ≤ r → r < many → Pot M' p → Q (.int r) M') : wCall P (k + 1) 22 [.ref p, .int many] M Q E :=
  draw (P := P) (i := 22) rfl hp h1 h2 hQ
theorem pPick {k : Nat} {M : Mem} {p : Nat} {xs : List Dee.D} {Q : Dee.K} {E : Dee.KX} (hp : Pot M p) (h1 : 1 ≤ xs.length) (h2 : xs.length < 1000) (hQ : ∀ v M', v ∈ xs → Pot M' p → Q v M') : wCall P (k + 2) 23 [.ref p, .lst xs] M Q E :=
  pick (P := P) (d := 22) (i := 23) rfl rfl hp h1 h2 hQ
theorem pTerm {k : Nat} {xs : List Dee.D} (S : Sg xs 8) {M : Mem} {p : Nat} {most : Int} {Q : Dee.K} {E : Dee.KX} (hp : Pot M p) (h1 : 1 ≤ most) (h30 : most ≤ 30)
    (hQ : ∀ ts M', isTm (kvOf xs) (tm ts) = true → Pot M' p → Q (tm ts) M') : wCall P (k + 3) 29 [.ref p, .tup xs, .int most] M Q E :=
  lterm (P := P) (d := 22) (q := 23) (i := 29) rfl rfl rfl S hp h1 h30 fun ts M' a _ b _ => hQ ts M' a b
theorem pBent {k : Nat} {M : Mem} {p n : Nat} {t : Dee.D} {Q : Dee.K} {E : Dee.KX} (hp : Pot M p) (ht : base 30 n t) (hQ : ∀ v M', qv 32 (n + 2) v → Pot M' p → Q v M') : wCall P (k + 1 + 4) 26 [.ref p, t, .int 1] M Q E :=
  bent (P := P) (d := 22) (q := 23) (o := 25) (i := 26) rfl rfl rfl rfl (by decide) (by decide) 1 hp ht hQ
theorem pLtm {k : Nat} {kv : List (Dee.D × Dee.D)} (K : Known kv) {L N : Nat} {d : Dee.D} (hd : pv L N d) {M : Mem} {Q : Dee.K} {E : Dee.KX} (hQ : Q (.bl (isTm kv d)) M) : wCall P (k + 1) 36 [.dct false kv, d] M Q E :=
  ltm (P := P) (i := 36) rfl K hd hQ
theorem pLpart {k : Nat} {kv : List (Dee.D × Dee.D)} (K : Known kv) {ts : List Str} (ht : isTm kv (tm ts) = true) {j : Nat} (hj : j < ts.length) {M : Mem} {Q : Dee.K} {E : Dee.KX} (hQ : Q (tm (partOf kv ts j)) M) : wCall P (k + 2) 31 [.dct false kv, tm ts, .int (j : Int)] M Q E :=
  lpart (P := P) (i := 31) (le := 30) rfl rfl K ht hj hQ
theorem pLgiven {k : Nat} {kv : List (Dee.D × Dee.D)} (K : Known kv) {t : Str} {ts : List Str} (ht : isTm kv (tm (t :: ts)) = true) {M : Mem} {Q : Dee.K} {E : Dee.KX} (hQ : Q (.lst ((Tm.given (arN kv) (arN kv t) ts).map tm)) M) : wCall P (k + 3) 32 [.dct false kv, tm (t :: ts)] M Q E :=
  lgiven (P := P) (i := 32) (lp := 31) (le := 30) rfl rfl rfl K ht hQ
theorem pLparts {k : Nat} {kv : List (Dee.D × Dee.D)} (K : Known kv) {ts : List Str} (ht : isTm kv (tm ts) = true) {M : Mem} {Q : Dee.K} {E : Dee.KX}
    (hQ : ∀ L : List (List Str), L.Nodup → (∀ z, z ∈ L ↔ z ∈ allParts kv ts) → L.length ≤ ts.length → Q (.lst (L.map tm)) M) : wCall P (k + 3) 33 [.dct false kv, .lst [tm ts]] M Q E := by
  have e : [ts].flatMap (allParts kv) = allParts kv ts := by simp
  have l2 := (isTm_tm' ht).2.1
  refine lparts (P := P) (i := 33) (lp := 31) (le := 30) (tss := [ts]) rfl rfl rfl K (fun z hz => by have : z = ts := by simpa using hz
                                                                                                     subst this; exact ht) (by rw [e, parts_len]; omega) fun L h1 h2 h3 => ?_
  rw [e] at h2 h3
  rw [parts_len] at h3
  exact hQ L h1 h2 h3
theorem pLordered {k : Nat} {xs : List Dee.D} (S : Sg xs 8) {L : List (List Str)} (hnd : L.Nodup) (hm : ∀ z ∈ L, ∀ s ∈ z, s ∈ xs.map nmS) (hl : L.length < 64) {M : Mem} {Q : Dee.K} {E : Dee.KX}
    (hQ : ∀ zs, Srt (xs.map nmS) L zs → Q (.lst (zs.map tm)) M) : wCall P (k + 2) 35 [.tup xs, .lst (L.map tm)] M Q E :=
  lordered (P := P) (i := 35) (kf := 34) rfl rfl S hnd hm hl hQ
theorem pLdepth {k : Nat} {kv : List (Dee.D × Dee.D)} (K : Known kv) {ts : List Str} (hk : Kn kv ts) (hl : ts.length ≤ 1000) {M : Mem} {Q : Dee.K} {E : Dee.KX}
    (hQ : ∀ M', (∀ b, M b ≠ none → M' b = M b) → Q (.int (((Tm.ldp (wd kv ts) 0 []).1 : Nat) : Int)) M') : wCall P (k + 1) 38 [.dct false kv, tm ts] M Q E :=
  ldepth (P := P) (i := 38) rfl K hk hl hQ
theorem pSame {n k : Nat} {d : Dee.D} {M : Mem} {Q : Dee.K} {E : Dee.KX} (h : sv n d) (hQ : Q (.bl true) M) : wCall P (k + n + 1) 24 [d, d] M Q E :=
  same (P := P) (i := 24) rfl n k h hQ
/-- the lambda raises what it is asked -/
theorem raises {k l : Nat} {σ : Dee.Env} {e : Dee.Ex} (he : P.lams[l]? = some e) {M : Mem} {Q : Dee.K} {E : Dee.KX} {C : String} (hC : C = "NoTerm" ∨ C = "NotThere")
    (H : ∀ (Q' : Dee.K) (E' : Dee.KX), E' ⟨C, []⟩ M → wE (semOf P (wCall P (k - 1)) (wCall P (k - 2)) fun _ _ _ _ _ => False) e σ M Q' E') (hQ : Q (.bl true) M) : wCall P (k + 1) 37 [.clo l σ, .str (Str.ofString C)] M Q E := by
  rw [wCall_succ]
  refine ⟨rfl, ?_⟩
  show wSs _ f37.body _ _ _
  unfold f37
  simp only [List.map, List.replicate, List.cons_append, List.nil_append, Nat.reduceSub]
  rw [wSs_cons]
  simp only [wS]
  rw [wSs_cons]
  simp only [wS, wE, lk]
  show ob P.lams[l]? fun e => wE (semOf P (wCall P (k - 1)) (wCall P (k - 2)) fun _ _ _ _ _ => False) e σ M _ _
  rw [he]
  refine H _ _ ?_
  have x1 : ((semAt P k).xf "NoTerm").isSome = true := show (P.xf "NoTerm").isSome = true by decide +kernel
  have x2 : ((semAt P k).xf "NotThere").isSome = true := show (P.xf "NotThere").isSome = true by decide +kernel
  have s1 : (semAt P k).sub "NoTerm" "NoTerm" = true := show P.sub "NoTerm" "NoTerm" = true by decide +kernel
  have s2 : (semAt P k).sub "NotThere" "NoTerm" = false := show P.sub "NotThere" "NoTerm" = false by decide +kernel
  have s3 : (semAt P k).sub "NotThere" "NotThere" = true := show P.sub "NotThere" "NotThere" = true by decide +kernel
  generalize semAt P k = F at x1 x2 s1 s2 s3
  rcases hC with rfl | rfl
  · show wHs F [("NoTerm", none, _), ("NotThere", none, _)] _ _ _ _
    unfold wHs
    refine ⟨x1, ?_⟩
    rw [if_pos s1]
    show wSs _ _ _ _ _
    rw [wSs_cons]
    simp only [wS, wE, wEs, wO, wAnd, wOr, wCs, wSs_nil, lk, ob, onI, on1, on2, asB, isiop, tyOf, cmpop, iceL, D.dep, depL, plt, binop, catop, biop, inop, seqM, dctM, isTup, wTg, wTgs, onT, List.set, newL, newT, plnM, Bool.false_and, newD, wipeD, tgSlots, tgsSlots, List.append_nil, List.nil_append, List.cons_append, if_true, if_false, Bool.false_eq_true, reduceIte, Bool.not_true, Bool.not_false]
    refine ⟨by decide, ?_⟩
    rw [show peq (.str "NoTerm") (.str "NoTerm") = true from by decide +kernel]
    exact hQ
  · show wHs F [("NoTerm", none, _), ("NotThere", none, _)] _ _ _ _
    unfold wHs
    refine ⟨x2, ?_⟩
    rw [if_neg (by rw [s2]; decide)]
    unfold wHs
    refine ⟨x2, ?_⟩
    rw [if_pos s3]
    show wSs _ _ _ _ _
    rw [wSs_cons]
    simp only [wS, wE, wEs, wO, wAnd, wOr, wCs, wSs_nil, lk, ob, onI, on1, on2, asB, isiop, tyOf, cmpop, iceL, D.dep, depL, plt, binop, catop, biop, inop, seqM, dctM, isTup, wTg, wTgs, onT, List.set, newL, newT, plnM, Bool.false_and, newD, wipeD, tgSlots, tgsSlots, List.append_nil, List.nil_append, List.cons_append, if_true, if_false, Bool.false_eq_true, reduceIte, Bool.not_true, Bool.not_false]
    refine ⟨by decide, ?_⟩
    rw [show peq (.str "NotThere") (.str "NotThere") = true from by decide +kernel]
    exact hQ
/-! ### the tests, one by one -/
section
variable {σ : Dee.Env} {xs : List Dee.D} {ts us : List Str} {M : Mem} {Dn : Dee.Ends}
theorem st5 (S : Sg xs 8) (h3 : lk σ 3 = some (.tup xs)) (h5 : lk σ 5 = some (tm ts)) (h6 : lk σ 6 = some (tm us)) (ht : isTm (kvOf xs) (tm ts) = true) (hu : isTm (kvOf xs) (tm us) = true) (hn : Dn.nx σ M) :
    wS (semAt P 19) (.ifs (.not (.call 24 [.tup [.call 9 [.var 3, .var 5], .call 9 [.var 3, .var 6]], .tup [.bl true, .bl true]])) [.ret (.bl false)] []) σ M Dn := by
  refine if_ok (fun Q hQ => ?_) hn
  simp only [wE, wEs, h3, h5, h6, ob]
  refine pIsTerm (k := 14) S (tm_pvS S ht) ?_
  refine pIsTerm (k := 14) S (tm_pvS S hu) ?_
  rw [ht, hu]
  refine pSame (n := 1) (k := 17) ?_ hQ
  unfold sv
  refine ⟨by simp, fun x hx => ?_⟩
  simp only [List.mem_cons, List.not_mem_nil, or_false] at hx
  rcases hx with rfl | rfl <;> (unfold sv; trivial)
theorem st8 (S : Sg xs 8) {v : Dee.D} (hv : qv 32 3 v) (h3 : lk σ 3 = some (.tup xs)) (h7 : lk σ 7 = some v) (h8 : lk σ 8 = some (.bl (isTm (kvOf xs) v))) (hn : Dn.nx σ M) :
    wS (semAt P 19) (.ifs (.not (.call 24 [.call 9 [.var 3, .var 7], .var 8])) [.ret (.bl false)] []) σ M Dn := by
  refine if_ok (fun Q hQ => ?_) hn
  simp only [wE, wEs, h3, h7, h8, ob]
  refine pIsTerm (k := 14) S (qv_pv hv) ?_
  refine pSame (n := 0) (k := 18) ?_ hQ
  unfold sv
  trivial
theorem st9 (S : Sg xs 8) {v : Dee.D} (hv : qv 32 3 v) (h3 : lk σ 3 = some (.tup xs)) (h7 : lk σ 7 = some v) (h8 : lk σ 8 = some (.bl (isTm (kvOf xs) v))) (hn : Dn.nx σ M) :
    wS (semAt P 19) (.ifs (.and [.not (.var 8), .not (.lcall 37 0 ["NoTerm"])]) [.ret (.bl false)] []) σ M Dn := by
  refine if_and (b := !isTm (kvOf xs) v) (fun Q hQ => ?_) (fun hb Q hQ => ?_) hn
  · simp only [wE, h8, ob, asB]
    exact hQ
  · have hb : isTm (kvOf xs) v = false := by simpa using hb
    simp only [wE]
    refine raises (k := 18) (l := 0) (C := "NoTerm") rfl (.inl rfl) (fun Q' E' hE => ?_) hQ
    simp only [wE, wEs, h3, h7, ob]
    exact pArgs (k := 12) S (qv_pv hv) (fun t ts e e1 => by rw [hb] at e1; cases e1) fun _ => hE
theorem st10 (S : Sg xs 8) {v : Dee.D} (hv : qv 32 3 v) (ht : isTm (kvOf xs) (tm ts) = true) (h3 : lk σ 3 = some (.tup xs)) (h5 : lk σ 5 = some (tm ts)) (h7 : lk σ 7 = some v) (h8 : lk σ 8 = some (.bl (isTm (kvOf xs) v))) (hn : Dn.nx σ M) :
    wS (semAt P 19) (.ifs (.and [.not (.var 8), .not (.lcall 37 1 ["NoTerm"])]) [.ret (.bl false)] []) σ M Dn := by
  refine if_and (b := !isTm (kvOf xs) v) (fun Q hQ => ?_) (fun hb Q hQ => ?_) hn
  · simp only [wE, h8, ob, asB]
    exact hQ
  · have hb : isTm (kvOf xs) v = false := by simpa using hb
    simp only [wE]
    refine raises (k := 18) (l := 1) (C := "NoTerm") rfl (.inl rfl) (fun Q' E' hE => ?_) hQ
    simp only [wE, wEs, h3, h5, h7, ob]
    obtain ⟨l1, _⟩ := isTm_tm' ht
    exact pPut (k := 11) S ht rfl (qv_pv hv) (fun j us e _ _ e1 => by rw [hb] at e1; cases e1) (fun e => by rw [show isAt ts.length (.int 0) = true from isAt_nat (j := 0) (by omega)] at e; cases e) fun _ _ => hE
theorem st11 (S : Sg xs 8) (ht : isTm (kvOf xs) (tm ts) = true) (h3 : lk σ 3 = some (.tup xs)) (h4 : lk σ 4 = some (.dct false (kvOf xs))) (h5 : lk σ 5 = some (tm ts)) (hn : Dn.nx σ M) :
    wS (semAt P 19) (.ifs (.not (.call 24 [.call 15 [.var 3, .var 5], .bi .tuple false [.call 32 [.var 4, .var 5]]])) [.ret (.bl false)] []) σ M Dn := by
  refine if_ok (fun Q hQ => ?_) hn
  simp only [wE, wEs, h3, h4, h5, ob]
  refine pArgs (k := 14) S (tm_pvS S ht) (fun t us e e1 => ?_) fun e => by rw [ht] at e; cases e
  have e := tm_inj e
  subst e
  refine pLgiven (k := 16) (known_signs (S.signs (by decide))) ht ?_
  simp only [biop, on1, sq_l, ob, newT, Bool.false_and, Bool.false_eq_true, if_false]
  refine pSame (n := 2) (k := 16) (tms_sv 0 ?_ fun z hz => ?_) hQ
  · rw [DL.given_len]
    obtain ⟨_, _, hk, _⟩ := isTm_tm' ht
    have := ((known_signs (S.signs (by decide))).at (hk t (by simp))).2
    omega
  · have := given_short _ _ _ z hz
    obtain ⟨_, l2, _⟩ := isTm_tm' ht
    simp only [List.length_cons] at l2
    omega
theorem st12 (S : Sg xs 8) (ht : isTm (kvOf xs) (tm ts) = true) (h3 : lk σ 3 = some (.tup xs)) (h4 : lk σ 4 = some (.dct false (kvOf xs))) (h5 : lk σ 5 = some (tm ts)) (hn : ∀ M', (∀ b, M b ≠ none → M' b = M b) → Dn.nx σ M') :
    wS (semAt P 19) (.ifs (.not (.call 24 [.call 16 [.var 3, .var 5], .call 38 [.var 4, .var 5]])) [.ret (.bl false)] []) σ M Dn := by
  refine if_okM (fun M' => ∀ b, M b ≠ none → M' b = M b) (fun Q hQ => ?_) hn
  simp only [wE, wEs, h3, h4, h5, ob]
  obtain ⟨l1, l2, hk, hs⟩ := isTm_tm' ht
  refine pDepth (k := 14) S ht fun M1 f1 => ?_
  refine pLdepth (k := 18) (known_signs (S.signs (by decide))) hk (by omega) fun M2 f2 => ?_
  rw [Tm.depth_eq hs]
  refine pSame (n := 0) (k := 18) ?_ (hQ M2 fun b hb => ?_)
  · unfold sv
    trivial
  · rw [f2 b (by rw [f1 b hb]; exact hb), f1 b hb]
theorem st13 (S : Sg xs 8) (ht : isTm (kvOf xs) (tm ts) = true) (h3 : lk σ 3 = some (.tup xs)) (h4 : lk σ 4 = some (.dct false (kvOf xs))) (h5 : lk σ 5 = some (tm ts)) (hn : Dn.nx σ M) :
    wS (semAt P 19) (.ifs (.not (.call 24 [.call 19 [.var 3, .var 5], .bi .tuple false [.call 35 [.var 3, .call 33 [.var 4, .lst false [.var 5]]]]])) [.ret (.bl false)] []) σ M Dn := by
  refine if_ok (fun Q hQ => ?_) hn
  simp only [wE, wEs, h3, h4, h5, ob, newL, Bool.false_eq_true, if_false]
  obtain ⟨l1, l2, hk, hs⟩ := isTm_tm' ht
  have hm : ∀ z ∈ allParts (kvOf xs) ts, ∀ s ∈ z, s ∈ xs.map nmS := fun z hz s hs' => by
    obtain ⟨i, hi', rfl⟩ := List.mem_map.mp hz
    exact names_mem S (part_kn hk i s hs')
  refine pParts (k := 14) S ht fun zs hz => ?_
  refine pLparts (k := 16) (known_signs (S.signs (by decide))) ht fun L n1 n2 n3 => ?_
  refine pLordered (k := 17) S n1 (fun z h => hm z ((n2 z).mp h)) (by omega) fun zs' hz' => ?_
  simp only [biop, on1, sq_l, ob, newT, Bool.false_and, Bool.false_eq_true, if_false]
  have e : zs = zs' := hz.uni hz' hm fun z => (n2 z).symm
  subst e
  have hl := srt_len hz
  rw [parts_len] at hl
  refine pSame (n := 2) (k := 16) (tms_sv 0 (by omega) fun z h => ?_) hQ
  have := parts_short ((hz.mem z).mp h)
  omega
theorem st16 (S : Sg xs 8) (ht : isTm (kvOf xs) (tm ts) = true) {j : Nat} (hj : j < ts.length) (h3 : lk σ 3 = some (.tup xs)) (h5 : lk σ 5 = some (tm ts)) (h9 : lk σ 9 = some (.int (j : Int))) (h10 : lk σ 10 = some (tm (partOf (kvOf xs) ts j))) (hn : Dn.nx σ M) :
    wS (semAt P 19) (.ifs (.not (.call 24 [.call 17 [.var 3, .var 5, .var 9], .var 10])) [.ret (.bl false)] []) σ M Dn := by
  refine if_ok (fun Q hQ => ?_) hn
  simp only [wE, wEs, h3, h5, h9, h10, ob]
  obtain ⟨l1, l2, hk, hs⟩ := isTm_tm' ht
  refine pPartOf 14 S ht rfl (fun i e hi => ?_) fun e => by unfold isAt at e; simp at e; omega
  have e : i = j := by injection e with e; omega
  subst e
  have := parts_short (List.mem_map.mpr ⟨i, List.mem_range.mpr hj, rfl⟩ : partOf (kvOf xs) ts i ∈ allParts (kvOf xs) ts)
  exact pSame (n := 1) (k := 17) (tm_sv 0 (by omega)) hQ
theorem st18 (S : Sg xs 8) (ht : isTm (kvOf xs) (tm ts) = true) {j : Nat} (hj : j < ts.length) (h3 : lk σ 3 = some (.tup xs)) (h5 : lk σ 5 = some (tm ts)) (h9 : lk σ 9 = some (.int (j : Int))) (h10 : lk σ 10 = some (tm (partOf (kvOf xs) ts j)))
    (h11 : lk σ 11 = some (.lst (placesD (kvOf xs) ts (partOf (kvOf xs) ts j)))) (hn : Dn.nx σ M) :
    wS (semAt P 19) (.ifs (.or [.not (.call 24 [.call 20 [.var 3, .var 5, .var 10], .bi .tuple false [.var 11]]), .cmp .notin (.var 9) (.var 11)]) [.ret (.bl false)] []) σ M Dn := by
  obtain ⟨l1, l2, hk, hs⟩ := isTm_tm' ht
  refine if_or (fun Q hQ => ?_) (fun Q hQ => ?_) hn
  · simp only [wE, wEs, h3, h5, h10, h11, ob]
    refine pPlaces (k := 14) S ht (part_isTm hk l2 hs hj) ?_
    simp only [biop, on1, sq_l, ob, newT, Bool.false_and, Bool.false_eq_true, if_false]
    refine pSame (n := 1) (k := 17) ?_ hQ
    have := places_len (kvOf xs) ts (partOf (kvOf xs) ts j)
    unfold sv
    refine ⟨by omega, fun x hx => ?_⟩
    obtain ⟨i, rfl, _⟩ := places_it hx
    unfold sv
    trivial
  · simp only [wE, h9, h11, ob, cmpop, inop, isStr, dc_l, sq_l, Bool.false_eq_true, if_false, D.dep]
    refine ⟨⟨by decide, by rw [ints_dep fun x hx => (places_it hx).imp fun _ h => h.1]; decide⟩, ?_⟩
    have : ((placesD (kvOf xs) ts (partOf (kvOf xs) ts j)).any fun x => peq x (.int (j : Int))) = true := List.any_eq_true.mpr ⟨_, places_in hj rfl, by rw [peq_int]; simp⟩
    rw [this]
    exact hQ
theorem st19 (S : Sg xs 8) (ht : isTm (kvOf xs) (tm ts) = true) (hu : isTm (kvOf xs) (tm us) = true) {j : Nat} (hj : j < ts.length) (h3 : lk σ 3 = some (.tup xs)) (h5 : lk σ 5 = some (tm ts)) (h6 : lk σ 6 = some (tm us)) (h9 : lk σ 9 = some (.int (j : Int))) (h10 : lk σ 10 = some (tm (partOf (kvOf xs) ts j))) (hn : Dn.nx σ M) :
    wS (semAt P 19) (.ifs (.not (.call 24 [.call 18 [.var 3, .var 5, .var 9, .var 6], .bin .add (.bin .add (.slc (.var 5) none (some (.var 9))) (.var 6)) (.slc (.var 5) (some (.bin .add (.var 9) (.bi .len false [.var 10]))) none)])) [.ret (.bl false)] []) σ M Dn := by
  obtain ⟨l1, l2, hk, hs⟩ := isTm_tm' ht
  obtain ⟨m1, m2, _⟩ := isTm_tm' hu
  refine if_ok (fun Q hQ => ?_) hn
  simp only [wE, wEs, wO, h3, h5, h6, h9, h10, ob]
  refine pPut (k := 13) S ht rfl (tm_pvS S hu) (fun i vs e hi ev _ => ?_) (fun e => by unfold isAt at e; simp at e; omega) fun _ e => by rw [hu] at e; cases e
  have e : i = j := by injection e with e; omega
  subst e
  have ev := tm_inj ev
  subst ev
  obtain ⟨p1, p2, p3, p4⟩ := part_len hs hj
  have c1 : cutL (ts.map D.str) none (some (i : Int)) = (ts.take i).map D.str := by rw [cut_take (by rw [List.length_map]; omega), strs_take]
  have c2 : cutL (ts.map D.str) (some ((i : Int) + ((partOf (kvOf xs) ts i).length : Int))) none = (ts.drop (i + (partOf (kvOf xs) ts i).length)).map D.str := by
    rw [show (i : Int) + ((partOf (kvOf xs) ts i).length : Int) = ((i + (partOf (kvOf xs) ts i).length : Nat) : Int) by omega, cut_from (by rw [List.length_map]; omega), List.map_drop]
  simp only [onI, slcop, binop, on1, biop, dc_t, sq_t, ob, List.length_map, c1, c2]
  refine ⟨by simp [line]; omega, by simp [line]; omega, ?_⟩
  rw [show (ts.take i).map D.str ++ us.map D.str ++ (ts.drop (i + (partOf (kvOf xs) ts i).length)).map D.str = (ts.take i ++ us ++ ts.drop (i + (partOf (kvOf xs) ts i).length)).map D.str by simp]
  exact pSame (n := 1) (k := 17) (tm_sv 0 (by simp; omega)) hQ
theorem st21 (S : Sg xs 8) (ht : isTm (kvOf xs) (tm ts) = true) {v : Dee.D} (hv : isAt ts.length v = false ∧ tyd v = true) (h3 : lk σ 3 = some (.tup xs)) (h5 : lk σ 5 = some (tm ts)) (h12 : lk σ 12 = some v) (hn : Dn.nx σ M) :
    wS (semAt P 19) (.ifs (.not (.lcall 37 2 ["NotThere"])) [.ret (.bl false)] []) σ M Dn := by
  refine if_ok (fun Q hQ => ?_) hn
  simp only [wE]
  refine raises (k := 18) (l := 2) (C := "NotThere") rfl (.inr rfl) (fun Q' E' hE => ?_) hQ
  simp only [wE, wEs, h3, h5, h12, ob]
  exact pPartOf 12 S ht hv.2 (fun i e hi => by rw [e] at hv; have := hv.1; unfold isAt at this; simp at this; omega) fun _ => hE
theorem st22 (S : Sg xs 8) (ht : isTm (kvOf xs) (tm ts) = true) (hu : isTm (kvOf xs) (tm us) = true) {v : Dee.D} (hv : isAt ts.length v = false ∧ tyd v = true) (h3 : lk σ 3 = some (.tup xs)) (h5 : lk σ 5 = some (tm ts)) (h6 : lk σ 6 = some (tm us)) (h12 : lk σ 12 = some v) (hn : Dn.nx σ M) :
    wS (semAt P 19) (.ifs (.not (.lcall 37 3 ["NotThere"])) [.ret (.bl false)] []) σ M Dn := by
  refine if_ok (fun Q hQ => ?_) hn
  simp only [wE]
  refine raises (k := 18) (l := 3) (C := "NotThere") rfl (.inr rfl) (fun Q' E' hE => ?_) hQ
  simp only [wE, wEs, h3, h5, h6, h12, ob]
  exact pPut (k := 11) S ht hv.2 (tm_pvS S hu) (fun i us e hi _ _ => by rw [e] at hv; have := hv.1; unfold isAt at this; simp at this; omega) (fun _ => hE) fun e => by rw [hv.1] at e; cases e
end
end K02

set_option Elab.async false
set_option linter.all false
set_option autoImplicit false
set_option maxRecDepth 100000
set_option maxHeartbeats 1000000
namespace K02
open PySem Dee DL
abbrev Sl (σ : Dee.Env) (p : Nat) : Prop := ∃ x0 x2 x3 x4 x5 x6 x7 x8 x9 x10 x11 x12 x13, σ = [x0, some (.ref p), x2, x3, x4, x5, x6, x7, x8, x9, x10, x11, x12, x13]
theorem spec (ns : List Int) (_ : ns.length ≤ 63) : wCall P 20 39 [.lst (ns.map D.int)] (fun _ => none) (fun d _ => d = .bl true) (fun _ _ => False) := by
  rw [wCall_succ]
  refine ⟨rfl, ?_⟩
  show wSs _ f39.body _ _ _
  unfold f39
  simp only [List.map, List.replicate, List.cons_append, List.nil_append, Nat.reduceSub]
  rw [wSs_cons]
  generalize hD : ({ nx := _, rt := _, bk := _, ct := _, ex := _ } : Dee.Ends) = D1
  simp only [wS, wE, wEs, lk, ob]
  refine potS (P := P) (i := 21) (k := 18) rfl fun p M0 hp0 => ?_
  simp only [wTg, List.set]
  rw [← hD]
  show wSs _ _ _ _ _
  rw [wSs_cons]
  generalize hD2 : ({ nx := _, rt := _, bk := _, ct := _, ex := _ } : Dee.Ends) = D2
  simp only [wS, wE, wEs, itop, onI]
  refine ⟨⟨by decide, by decide⟩, ?_⟩
  refine forL_inv (fun σ M => Sl σ p ∧ Pot M p) (fun σ M hI => ?_) (fun x hx σ M R hI hR => ?_) ⟨⟨_, _, _, _, _, _, _, _, _, _, _, _, _, rfl⟩, hp0⟩
  · obtain ⟨⟨x0, x2, x3, x4, x5, x6, x7, x8, x9, x10, x11, x12, x13, rfl⟩, hp⟩ := hI
    rw [← hD2]
    show wSs _ _ _ _ _
    rw [wSs_cons]
    simp only [wS, wE]
  · obtain ⟨⟨x0, x2, x3, x4, x5, x6, x7, x8, x9, x10, x11, x12, x13, rfl⟩, hp⟩ := hI
    simp only [wTg, List.set]
    -- signs
    rw [wSs_cons]
    generalize hD : ({ nx := _, rt := _, bk := _, ct := _, ex := _ } : Dee.Ends) = D3
    simp only [wS, wE, wEs, lk, ob]
    refine pLsg (k := 15) hp fun xs M1 c hS6 hp1 hcp hMc => ?_
    have S := hS6.up (show 6 ≤ 8 by decide)
    have K := known_signs (S.signs (by decide))
    simp only [wTg, List.set]
    rw [← hD]
    show wSs _ _ _ _ _
    -- known
    have hdM : dctM M1 (.ref c) = none := by simp [dctM, atD, hMc]
    rw [wSs_cons]
    generalize hD : ({ nx := _, rt := _, bk := _, ct := _, ex := _ } : Dee.Ends) = D4
    simp only [wS, wE, wEs, lk, ob, biop, on1, plnM, hMc, hdM, sg_pairs S]
    refine ⟨sg_keys S, ?_⟩
    simp only [newD, Bool.false_eq_true, if_false, wTg, List.set]
    rw [← hD]
    show wSs _ _ _ _ _
    -- frz
    rw [wSs_cons]
    simp only [wS, lk, ob, onR, hMc]
    refine ⟨sg_ice S, ?_⟩
    simp only [MO.ice, List.set]
    have hp2 := pot_del hp1 hcp
    generalize Dee.del M1 c = M2 at hp2
    show wSs _ _ _ _ _
    -- term
    rw [wSs_cons]
    generalize hD : ({ nx := _, rt := _, bk := _, ct := _, ex := _ } : Dee.Ends) = D5
    simp only [wS, wE, wEs, lk, ob]
    refine pDraw (k := 18) hp2 (by decide) (by decide) fun r M3 r0 r1 hp3 => ?_
    simp only [binop, onI]
    refine pTerm (k := 16) S hp3 (by omega) (by omega) fun ts M4 ht hp4 => ?_
    simp only [wTg, List.set]
    rw [← hD]
    show wSs _ _ _ _ _
    -- other
    rw [wSs_cons]
    generalize hD : ({ nx := _, rt := _, bk := _, ct := _, ex := _ } : Dee.Ends) = D6
    simp only [wS, wE, wEs, lk, ob]
    refine pDraw (k := 18) hp4 (by decide) (by decide) fun r M5 r0 r1 hp5 => ?_
    simp only [binop, onI]
    refine pTerm (k := 16) S hp5 (by omega) (by omega) fun us M6 hu hp6 => ?_
    simp only [wTg, List.set]
    rw [← hD]
    show wSs _ _ _ _ _
    rw [wSs_cons]
    refine st5 S rfl rfl rfl ht hu ?_
    show wSs _ _ _ _ _
    -- value
    rw [wSs_cons]
    generalize hD : ({ nx := _, rt := _, bk := _, ct := _, ex := _ } : Dee.Ends) = D7
    simp only [wS, wE, wEs, lk, ob, newL, Bool.false_eq_true, if_false]
    refine pPick (k := 17) hp6 (by simp) (by simp) fun w M7 hw hp7 => ?_
    have hb : base 30 1 w := by
      simp only [List.mem_cons, List.not_mem_nil, or_false] at hw
      rcases hw with rfl | rfl
      · exact tm_base S ht
      · exact tm_base S hu
    refine pBent (k := 14) hp7 hb fun v M8 hv hp8 => ?_
    simp only [wTg, List.set]
    rw [← hD]
    show wSs _ _ _ _ _
    -- due
    rw [wSs_cons]
    generalize hD : ({ nx := _, rt := _, bk := _, ct := _, ex := _ } : Dee.Ends) = D8
    simp only [wS, wE, wEs, lk, ob]
    refine pLtm (k := 18) K (qv_pv hv) ?_
    simp only [wTg, List.set]
    rw [← hD]
    show wSs _ _ _ _ _
    rw [wSs_cons]
    refine st8 S hv rfl rfl rfl ?_
    show wSs _ _ _ _ _
    rw [wSs_cons]
    refine st9 S hv rfl rfl rfl ?_
    show wSs _ _ _ _ _
    rw [wSs_cons]
    refine st10 S hv ht rfl rfl rfl rfl ?_
    show wSs _ _ _ _ _
    rw [wSs_cons]
    refine st11 S ht rfl rfl rfl ?_
    show wSs _ _ _ _ _
    rw [wSs_cons]
    refine st12 S ht rfl rfl rfl fun M9 f9 => ?_
    have hp9 := pot_keep hp8 f9
    show wSs _ _ _ _ _
    rw [wSs_cons]
    refine st13 S ht rfl rfl rfl ?_
    show wSs _ _ _ _ _
    obtain ⟨l1, l2, hk, hs⟩ := isTm_tm' ht
    -- at
    rw [wSs_cons]
    generalize hD : ({ nx := _, rt := _, bk := _, ct := _, ex := _ } : Dee.Ends) = D9
    simp only [wS, wE, wEs, lk, ob, biop, on1, dc_t, sq_t, List.length_map]
    refine pDraw (k := 18) hp9 (by omega) (by omega) fun r M10 r0 r1 hp10 => ?_
    obtain ⟨j, rfl⟩ : ∃ j : Nat, r = (j : Int) := ⟨r.toNat, by omega⟩
    have hj : j < ts.length := by omega
    simp only [wTg, List.set]
    rw [← hD]
    show wSs _ _ _ _ _
    -- part
    rw [wSs_cons]
    generalize hD : ({ nx := _, rt := _, bk := _, ct := _, ex := _ } : Dee.Ends) = D10
    simp only [wS, wE, wEs, lk, ob]
    refine pLpart (k := 17) K ht hj ?_
    simp only [wTg, List.set]
    rw [← hD]
    show wSs _ _ _ _ _
    rw [wSs_cons]
    refine st16 S ht hj rfl rfl rfl rfl ?_
    show wSs _ _ _ _ _
    -- places
    rw [wSs_cons]
    generalize hD : ({ nx := _, rt := _, bk := _, ct := _, ex := _ } : Dee.Ends) = D11
    simp only [wS, wE, wEs, lk, ob, biop, on1, dc_t, sq_t, List.length_map, itop, onI]
    refine ⟨⟨by omega, by unfold line; omega⟩, ?_⟩
    refine lcL_fm (fun x => match x with | .int i => if peq (tm (partOf (kvOf xs) ts i.toNat)) (tm (partOf (kvOf xs) ts j)) then some (.int i) else none | _ => none) (fun x hx R' hR' => ?_) ?_
    · obtain ⟨i, rfl, hi⟩ := rng_mem hx
      have hR' : R' (if peq (tm (partOf (kvOf xs) ts ((i : Int)).toNat)) (tm (partOf (kvOf xs) ts j)) then some (.int (i : Int)) else none) M10 := hR'
      rw [Int.toNat_natCast] at hR'
      simp only [wTg, wipeD, tgSlots, List.set, wCs, wE, wEs, lk, ob]
      refine pLpart (k := 17) K ht hi ?_
      simp only [cmpop, iceL, tm_dep, asB]
      refine ⟨⟨by decide, by decide⟩, ?_⟩
      by_cases e : peq (tm (partOf (kvOf xs) ts i)) (tm (partOf (kvOf xs) ts j)) = true
      · rw [if_pos e] at hR'
        simp only [e, if_true]
        exact hR'
      · rw [if_neg e] at hR'
        simp only [e, Bool.false_eq_true, if_false]
        exact hR'
    · simp only [newL, Bool.false_eq_true, if_false, List.nil_append, wTg, List.set]
      rw [← hD]
      show wSs _ _ _ _ _
      rw [wSs_cons]
      refine st18 S ht hj rfl rfl rfl rfl rfl ?_
      show wSs _ _ _ _ _
      rw [wSs_cons]
      refine st19 S ht hu hj rfl rfl rfl rfl rfl ?_
      show wSs _ _ _ _ _
      -- odd
      rw [wSs_cons]
      generalize hD : ({ nx := _, rt := _, bk := _, ct := _, ex := _ } : Dee.Ends) = D12
      simp only [wS, wE, wEs, lk, ob, biop, on1, dc_t, sq_t, List.length_map, binop, onI, newL, Bool.false_eq_true, if_false]
      refine pPick (k := 17) hp10 (by simp) (by simp) fun w M11 hw hp11 => ?_
      have hv' := odd_at hw
      simp only [wTg, List.set]
      rw [← hD]
      show wSs _ _ _ _ _
      rw [wSs_cons]
      refine st21 S ht hv' rfl rfl rfl ?_
      show wSs _ _ _ _ _
      rw [wSs_cons]
      refine st22 S ht hu hv' rfl rfl rfl rfl ?_
      show wSs _ _ _ _ _
      rw [wSs_nil]
      exact hR _ _ ⟨⟨_, _, _, _, _, _, _, _, _, _, _, _, _, rfl⟩, hp11⟩
end K02

set_option Elab.async false
set_option linter.all false
set_option maxRecDepth 100000
set_option maxHeartbeats 0
namespace K02
open PySem PySem.Spec PyProof.Rows L2 Dee
theorem bnd (K : PySem.W.Frag) : ∀ e ∈ es, ∀ ad fd, FunD K e.d.name e.d.qual e.d.params e.d.body e.d.scope [] [] ad fd → Binds K fd e.ps [] := by
  intro e he ad fd F
  simp only [es, List.mem_cons, List.not_mem_nil, or_false] at he
  rcases he with rfl | rfl | rfl | rfl | rfl | rfl | rfl | rfl | rfl | rfl | rfl | rfl | rfl | rfl | rfl | rfl | rfl | rfl | rfl | rfl | rfl | rfl | rfl | rfl | rfl | rfl | rfl | rfl | rfl | rfl | rfl | rfl | rfl | rfl | rfl | rfl | rfl | rfl | rfl | rfl
  · exact F.bindsN fun _ _ _ _ _ _ us hl => match us, hl with | [_, _, _], _ => rfl
  · exact F.bindsN fun _ _ _ _ _ _ us hl => match us, hl with | [_], _ => rfl
  · exact F.bindsN fun _ _ _ _ _ _ us hl => match us, hl with | [_], _ => rfl
  · exact F.bindsN fun _ _ _ _ _ _ us hl => match us, hl with | [_], _ => rfl
  · exact F.bindsN fun _ _ _ _ _ _ us hl => match us, hl with | [_], _ => rfl
  · exact F.bindsN fun _ _ _ _ _ _ us hl => match us, hl with | [_], _ => rfl
  · exact F.bindsN fun _ _ _ _ _ _ us hl => match us, hl with | [_, _, _], _ => rfl
  · exact F.bindsN fun _ _ _ _ _ _ us hl => match us, hl with | [_, _], _ => rfl
  · exact F.bindsN fun _ _ _ _ _ _ us hl => match us, hl with | [_, _], _ => rfl
  · exact F.bindsN fun _ _ _ _ _ _ us hl => match us, hl with | [_, _], _ => rfl
  · exact F.bindsN fun _ _ _ _ _ _ us hl => match us, hl with | [_, _], _ => rfl
  · exact F.bindsN fun _ _ _ _ _ _ us hl => match us, hl with | [_, _], _ => rfl
  · exact F.bindsN fun _ _ _ _ _ _ us hl => match us, hl with | [_, _], _ => rfl
  · exact F.bindsN fun _ _ _ _ _ _ us hl => match us, hl with | [_, _], _ => rfl
  · exact F.bindsN fun _ _ _ _ _ _ us hl => match us, hl with | [_, _], _ => rfl
  · exact F.bindsN fun _ _ _ _ _ _ us hl => match us, hl with | [_, _], _ => rfl
  · exact F.bindsN fun _ _ _ _ _ _ us hl => match us, hl with | [_, _], _ => rfl
  · exact F.bindsN fun _ _ _ _ _ _ us hl => match us, hl with | [_, _, _], _ => rfl
  · exact F.bindsN fun _ _ _ _ _ _ us hl => match us, hl with | [_, _, _, _], _ => rfl
  · exact F.bindsN fun _ _ _ _ _ _ us hl => match us, hl with | [_, _], _ => rfl
  · exact F.bindsN fun _ _ _ _ _ _ us hl => match us, hl with | [_, _, _], _ => rfl
  · exact F.bindsN fun _ _ _ _ _ _ us hl => match us, hl with | [_], _ => rfl
  · exact F.bindsN fun _ _ _ _ _ _ us hl => match us, hl with | [_, _], _ => rfl
  · exact F.bindsN fun _ _ _ _ _ _ us hl => match us, hl with | [_, _], _ => rfl
  · exact F.bindsN fun _ _ _ _ _ _ us hl => match us, hl with | [_, _], _ => rfl
  · exact F.bindsN fun _ _ _ _ _ _ us hl => match us, hl with | [_, _], _ => rfl
  · exact F.bindsN fun _ _ _ _ _ _ us hl => match us, hl with | [_, _, _], _ => rfl
  · exact F.bindsN fun _ _ _ _ _ _ us hl => match us, hl with | [_], _ => rfl
  · exact F.bindsN fun _ _ _ _ _ _ us hl => match us, hl with | [_, _], _ => rfl
  · exact F.bindsN fun _ _ _ _ _ _ us hl => match us, hl with | [_, _, _], _ => rfl
  · exact F.bindsN fun _ _ _ _ _ _ us hl => match us, hl with | [_, _, _], _ => rfl
  · exact F.bindsN fun _ _ _ _ _ _ us hl => match us, hl with | [_, _, _], _ => rfl
  · exact F.bindsN fun _ _ _ _ _ _ us hl => match us, hl with | [_, _], _ => rfl
  · exact F.bindsN fun _ _ _ _ _ _ us hl => match us, hl with | [_, _], _ => rfl
  · exact F.bindsN fun _ _ _ _ _ _ us hl => match us, hl with | [_, _], _ => rfl
  · exact F.bindsN fun _ _ _ _ _ _ us hl => match us, hl with | [_, _], _ => rfl
  · exact F.bindsN fun _ _ _ _ _ _ us hl => match us, hl with | [_, _], _ => rfl
  · exact F.bindsN fun _ _ _ _ _ _ us hl => match us, hl with | [_, _], _ => rfl
  · exact F.bindsN fun _ _ _ _ _ _ us hl => match us, hl with | [_, _], _ => rfl
  · exact F.bindsN fun _ _ _ _ _ _ us hl => match us, hl with | [_], _ => rfl
theorem esok : ∀ e ∈ es, e.d ∈ fn ∧ e.d.at_ = (e.nm, none) ∧ e.d.dfl = [] ∧ e.d.kwd = [] := by
  intro e he
  refine ⟨List.mem_append_left _ (List.mem_map_of_mem he), ?_⟩
  simp only [es, List.mem_cons, List.not_mem_nil, or_false] at he
  rcases he with rfl | rfl | rfl | rfl | rfl | rfl | rfl | rfl | rfl | rfl | rfl | rfl | rfl | rfl | rfl | rfl | rfl | rfl | rfl | rfl | rfl | rfl | rfl | rfl | rfl | rfl | rfl | rfl | rfl | rfl | rfl | rfl | rfl | rfl | rfl | rfl | rfl | rfl | rfl | rfl <;> exact ⟨rfl, rfl, rfl⟩
theorem lmok : ∀ e ∈ es, e.lm = true → e.nm ∈ xs ∧ e.d.qual = e.nm := by
  intro e he hl
  simp only [es, List.mem_cons, List.not_mem_nil, or_false] at he
  rcases he with rfl | rfl | rfl | rfl | rfl | rfl | rfl | rfl | rfl | rfl | rfl | rfl | rfl | rfl | rfl | rfl | rfl | rfl | rfl | rfl | rfl | rfl | rfl | rfl | rfl | rfl | rfl | rfl | rfl | rfl | rfl | rfl | rfl | rfl | rfl | rfl | rfl | rfl | rfl | rfl <;> first | (cases hl; done) | exact ⟨by decide +kernel, rfl⟩
theorem inits {prog : Program} {w : World} {K : PySem.W.Frag} {mg : Str → Option Value} {base : Heap} (c : SaysK fn ex K) : ∀ C fs, (C, fs) ∈ exs → fs ≠ [] → OexC K (He.ga K (Str.ofString C)) → (∀ f ∈ fs, PySem.W.findIn K (.ref (He.ga K (Str.ofString C))) (Str.ofString f) = some none) →
    (fs.map Str.ofString).Nodup ∧ ∃ fd ps, Binds K fd ps [] ∧ FnOk prog w K mg base (L2.CX prog w) 1 (He.ma K (He.ga K (Str.ofString C)) "__init__") fd ps (fun vs H Q _ => ∃ e, spI e (He.ga K (Str.ofString C)) fs vs H Q) := by
  intro C fs hm hne T hno
  simp only [exs, List.mem_cons, List.not_mem_nil, or_false, Prod.mk.injEq] at hm
  rcases hm with ⟨rfl, rfl⟩ | ⟨rfl, rfl⟩ | ⟨rfl, rfl⟩ | ⟨rfl, rfl⟩ <;> first | exact absurd rfl hne | skip
theorem facts {w : World} {K : PySem.W.Frag} {h : Heap} {mg : Str → Option Value} {f : Addr} (X : K.In h) (nl : NoLst K) (G : h.Ns mainGlobals mg) (hfa : mg ("law" : Str) = some (.ref f)) (c : SaysK fn ex K) (t : TabK xs K h) :
    LamX.LawAtS PySem.Challenge.rw_bestterms_k02_terms_told w K L2.CX0 25 63 "script" mg f h := by
  have pf : ∀ base : Heap, K.In base → (∀ p ∈ tabC K xs, LamX.TabB base mg p.1 p.2) → PF R.prog w K mg base P es cls (tabT K xs) := fun base _ tb => pf_of X G c rfl rfl rfl t tb lmok text esok (bnd K) (inits c)
  have tb0 : ∀ x ∈ xs, PySem.W.CodeHd h (tbC K x) (tbP K x) := fun x hx => PySem.W.codeHd_of_K X (t.at_ x hx).2.1
  have hlaw : ∃ fd, FunD K e39.d.name e39.d.qual e39.d.params e39.d.body e39.d.scope [] [] f fd := by
    have hd : e39.d ∈ fn := (esok e39 (by simp [es])).1
    obtain ⟨fd, F⟩ := He.DefD.funD (c.val _ hd) (c.dok _ hd)
    have e1 := He.glo_ok X G (x := "law") (List.all_eq_true.mp (band (band c.ex).2).1 e39 (by simp [es]))
    have e2 : He.fAd K e39.d.at_ = f := by
      have z := hfa.symm.trans e1
      injection z with z
      injection z with z
      exact z.symm
    rw [e2] at F
    exact ⟨fd, F⟩
  obtain ⟨fd, F⟩ := hlaw
  refine ⟨fd, tabC K xs, fun vs H Q _ => spF ⟨⟨mg, fun _ => False, tabT K xs⟩, none, none⟩ (wCall P 20 39) vs H Q fun _ _ _ => False, fun p hp => ?_, fun p hp => ?_, fun p hp => ?_, fun s v => FunD.bindsA (ps := ["script"]) F (fun _ _ _ _ _ _ us hl => match us, hl with | [_], _ => rfl) s [v] rfl, fun H a ns hl _ hT hS => law_sp nl spec H a ns hl hT hS, fun base hK _ tb => FnOk.never (level (pf base hK tb) 20 39 e39 rfl rfl f fd hfa F ⟨mg, fun _ => False, tabT K xs⟩ rfl rfl)⟩
  · obtain ⟨x, hx, rfl⟩ := List.mem_map.mp hp
    exact (t.at_ x hx).2.2.1
  · obtain ⟨x, hx, rfl⟩ := List.mem_map.mp hp
    exact (t.at_ x hx).2.2.2
  · obtain ⟨x, hx, rfl⟩ := List.mem_map.mp hp
    exact tb0 x hx
end K02
open PySem PySem.W PySem.Calls PyProof.Rows
theorem PySem.Challenge.cw_bestterms_k02_terms_told_holds : PySem.Challenge.rw_bestterms_k02_terms_told.Holds := by
  w_on; o_law
  refine HandSHeadRun.head_any (r := OpenLaw.row PySem.Challenge.rw_bestterms_k02_terms_told) (q := view (OpenLaw.row PySem.Challenge.rw_bestterms_k02_terms_told).prog [53]) (H := K02.hk) (ob := K02.obs_) (M := 6000) (loose := K02.loose) (d := HandSHeadRun.topDef (OpenLaw.row PySem.Challenge.rw_bestterms_k02_terms_told).prog 53) (kwd := []) K02.obs_eq
    (by kernel_rfl) (fun s => by kernel_rfl) K02.run (by kernel_rfl) (by kernel_rfl) (by kernel_rfl) (by rfl) (by first | assumption | decide +kernel) (by decide +kernel) ⟨rfl, rfl, rfl, rfl, rfl, by decide +kernel⟩ ?hw ?hc
  case hw => w_witness2
  case hc =>
    refine LamX.walk_ofTsE (l := PySem.Challenge.rw_bestterms_k02_terms_told) (n := 63) (k := 25) (x := "script") (CX := fun _ => L2.CX0) rfl (by decide) (by kernel_rfl) ⟨rfl, by decide, by decide⟩ ?F (fun _ _ _ _ _ z => z)
    intro w mg fa h Y G hmg0
    obtain ⟨K, KX, nl, c, t⟩ := Y
    have hmg : mg ("law" : PySem.Str) = some (.ref fa) := by
      have e : (HandSHeadRun.topDef (OpenLaw.row PySem.Challenge.rw_bestterms_k02_terms_told).prog 53).name = ("law" : PySem.Str) := by kernel_rfl
      rw [← e]
      exact hmg0
    exact ⟨K, KX, K02.facts KX nl G hmg c t⟩

