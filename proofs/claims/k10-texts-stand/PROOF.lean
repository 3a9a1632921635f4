import PyProof.Rows.All
import Wide.All
import OpenK.AllK
import Wide.FinOn
import HandS.ForMost
import HandS.ForExc
import HandS.TupAny
import HandS.Wide
import HandS.Defaults
import HandS.TupMul
import HandS.Deep
import HandS.More
import HandS.Flow
import HandS.SortInts
import HandS.IsInst
import KE.GoesZip
import KE.GoesMore
import HandS.Zip
import KE.GoesEnum
import HandS.Small
import HandS.Conv
import HandS.Strs
import KE.KExcIs
import KE.KIsAll
import KE.KTryMore
import HandS.ExcField
import HandS.ExcIs
import HandS.TryOnly
import HandS.WordsExc
import HandS.ExcValue
import HandS.SetFor
import KE.KItemsList
import HandS.SortRule
import HandS.DictTup
import HandS.Ends
import PySem.Challenge.RW_likewise_k10_texts_stand
set_option Elab.async false
set_option linter.all false
set_option maxRecDepth 100000
set_option maxHeartbeats 4000000
namespace Lk
open PySem L2

/-! ### data -/
inductive D where
  | non | bl (b : Bool) | int (i : Int) | str (x : Str)
  | tup (xs : List D) | lst (xs : List D) | dic (ks vs : List D)
  | ref (l : Nat) | cls (c : Nat)
  | exo (c : Nat) (ps : List D)

/-! a position that holds data: fz: never changed any more; own: a list or dict that is this position's alone; rd: own, but locked; br: of the caller's -/
inductive Cell where
  | fz (d : D) | own (d : D) | rd (d : D) | br (d : D)
abbrev Env := List (Option Cell)
inductive Obj where
  | ins (c : Nat) (fs : List Cell) | bls (xs : List D) | bdi (ks vs : List D)
abbrev Sto := List Obj
structure Stt where
  r : Env
  S : Sto
/-! an end: a value, or an exception -/
inductive Ou (a : Type) where
  | ok (v : a) | ex (c : Nat) (p : Option D)
abbrev M (a : Type) := Stt → Option (Ou a × Stt)
def M.bind {a b : Type} (m : M a) (k : a → M b) : M b := fun s =>
  match m s with
  | some (.ok v, s') => k v s'
  | some (.ex c p, s') => some (.ex c p, s')
  | none => none
def M.ok {a : Type} (v : a) : M a := fun s => some (.ok v, s)
def M.of {a : Type} (o : Option a) : M a := fun s =>
  match o with
  | some v => some (.ok v, s)
  | none => none
/-! how a value came: frozen, the caller's, or as it stands in a slot or field -/
inductive Md where
  | fz | bp | sl (i : Nat) | fl (l k : Nat)

mutual
def flat : D → Bool
  | .tup xs => flats xs
  | .lst _ => false
  | .dic _ _ => false
  | .non => true
  | .bl _ => true
  | .int _ => true
  | .str _ => true
  | .ref _ => true
  | .cls _ => true
  | .exo _ _ => false
def flats : List D → Bool
  | [] => true
  | x :: xs => flat x && flats xs
end
mutual
def dep : D → Nat
  | .tup xs => deps xs + 1
  | .lst xs => deps xs + 1
  | .dic _ _ => 1000
  | .non => 0
  | .bl _ => 0
  | .int _ => 0
  | .str _ => 0
  | .ref _ => 0
  | .cls _ => 0
  | .exo _ _ => 1000
def deps : List D → Nat
  | [] => 0
  | x :: xs => max (dep x) (deps xs)
end

/-! == of data -/
mutual
def deq : D → D → Bool
  | .non, y => (match y with | .non => true | _ => false)
  | .bl a, y => (match y with | .bl b => a == b | .int j => (if a then 1 else 0) == j | _ => false)
  | .int i, y => (match y with | .int j => i == j | .bl b => i == (if b then 1 else 0) | _ => false)
  | .str x, y => (match y with | .str z => x == z | _ => false)
  | .tup xs, y => (match y with | .tup ys => deqs xs ys | _ => false)
  | .lst xs, y => (match y with | .lst ys => deqs xs ys | _ => false)
  | .dic _ _, _ => false
  | .ref _, _ => false
  | .cls _, _ => false
  | .exo _ _, _ => false
def deqs : List D → List D → Bool
  | [], ys => ys.isEmpty
  | x :: xs, ys => (match ys with
    | [] => false
    | y :: ys' => deq x y && deqs xs ys')
end
mutual
def okD : D → Bool
  | .non => true
  | .bl _ => true
  | .int _ => true
  | .str x => PyData.strOk x
  | .tup xs => okDs xs
  | .lst xs => okDs xs
  | .dic _ _ => false
  | .ref _ => false
  | .cls _ => false
  | .exo _ _ => false
def okDs : List D → Bool
  | [] => true
  | x :: xs => okD x && okDs xs
end
def sane (d : D) : Bool := okD d && decide (dep d ≤ 60)
def scalD : D → Bool
  | .non => true
  | .bl _ => true
  | .int _ => true
  | .str _ => true
  | _ => false
def scal2 : D → D → Bool
  | .str _, .str _ => true
  | .int _, .int _ => true
  | _, _ => false
def deqT (x y : D) : Option Bool := if scal2 x y || (sane x && sane y) then some (deq x y) else none

/-! keys of dicts -/
def keq : D → D → Option Bool
  | .int i, y => (match y with | .int j => some (i == j) | _ => none)
  | .str x, y => (match y with | .str z => some (x == z) | _ => none)
  | _, _ => none
/-! the place of a key -/
def kfind (k : D) : List D → Option (Option Nat)
  | [] => (match k with | .int _ => some none | .str _ => some none | _ => none)
  | x :: xs => match keq x k with
    | some true => some (some 0)
    | some false => (kfind k xs).map fun o => o.map (· + 1)
    | none => none

inductive BOp where
  | add | sub | mul | fdiv | mod | pow | band | bxor | shr
inductive COp where
  | eq | ne | lt | le | gt | ge | isin | nin | is_ | isn
inductive Ty where
  | int | bl | str | lst | tup | dic | cls (c : Nat)
inductive BI where
  | len | list | tuple | int | sum | max | min | all | any | sorted | sset | lset
inductive BM where
  | get | index | indexT | count
inductive MM where
  | append | pop | popAt | extend | insert | clear | remove | reverse
inductive It where
  | seq | rng | zip | enum | items

inductive Pat where
  | nm (i : Nat) | tu (is : List Nat)

/-! expressions, names resolved -/
inductive Ex where
  | var (i : Nat) | con (j : Nat)
  | int (i : Int) | str (x : Str) | bl (b : Bool) | non
  | bin (op : BOp) (a b : Ex)
  | neg (a : Ex)
  | not (a : Ex) | and (es : List Ex) | or (es : List Ex)
  | cmp (op : COp) (a b : Ex) | chn (op1 op2 : COp) (a b c : Ex)
  | ite (c a b : Ex)
  | tup (es : List Ex) | lst (box : Bool) (es : List Ex) | dic (box : Bool) (es : List Ex)
  | idx (a b : Ex) | slc (a lo hi : Ex) | rev (a : Ex)
  | fld (c k : Nat) (a : Ex)
  | keep (a : Ex)
  | call (f : Nat) (es : List Ex)
  | meth (f c : Nat) (o : Ex) (es : List Ex)
  | mk (f c : Nat) (es : List Ex)
  | isi (a : Ex) (t : Ty)
  | bi (f : BI) (es : List Ex)
  | bm (m : BM) (o : Ex) (es : List Ex)
  | rngL (es : List Ex)
  | comp (e : Ex) (p : Pat) (it : It) (src : List Ex) (cond : List Ex) (own : List Nat)
  | box (a : Ex)
  | cmpb (op : COp) (a b : Ex)
  | cmpn (op : COp) (a b : Ex)
  | bib (f : BI) (a : Ex)
  | rep (a b : Ex)
  | dcp (a : Ex)
  | isx (a : Ex) (cs : List Nat)
  | xrow (a : Ex)
  | mkx0 (c : Nat) | mkx1 (c : Nat) (a : Ex)
  | sit (a : Ex)

/-! what evaluates without a call, a new object, or a change -/
def simple : Ex → Bool
  | .var _ => true
  | .con _ => true
  | .int _ => true
  | .str _ => true
  | .bl _ => true
  | .non => true
  | .neg a => simple a
  | .bin .add a (.int _) => simple a
  | .bin .sub a b => simple a && simple b
  | .bin .mod a b => simple a && simple b
  | .bin .fdiv a b => simple a && simple b
  | .idx a b => simple a && simple b
  | .fld _ _ a => simple a
  | _ => false

def getFld (l k : Nat) (S : Sto) : Option Cell :=
  match S[l]? with
  | some (.ins _ fs) => fs[k]?
  | _ => none
def setFld (l k : Nat) (c : Cell) (S : Sto) : Sto :=
  match S[l]? with
  | some (.ins cl fs) => S.set l (.ins cl (fs.set k c))
  | _ => S
/-! a field's own list is locked while x runs -/
def guardF {a : Type} (l k : Nat) (x : M a) : M a := fun s =>
  match getFld l k s.S with
  | some (.own d) => (match x { s with S := setFld l k (.rd d) s.S } with
    | some (r, s') => (match getFld l k s'.S with
      | some (.rd d') => some (r, { s' with S := setFld l k (.own d') s'.S })
      | _ => none)
    | none => none)
  | some (.rd _) => x s
  | _ => none
def guardL {a : Type} (m : Md) (x : M a) : M a :=
  match m with
  | .fl l k => guardF l k x
  | _ => x
def guardLs {a : Type} : List Md → M a → M a
  | [], x => x
  | m :: ms, x => guardL m (guardLs ms x)
def isFl : Md → Bool
  | .fl _ _ => true
  | _ => false
/-! to be kept from now on -/
def settle (v : Md × D) : M Cell := fun s =>
  match v.1 with
  | .fz => some (.ok (.fz v.2), s)
  | .bp => some (.ok (if flat v.2 then .fz v.2 else .br v.2), s)
  | .sl i => (match s.r[i]? with
    | some (some (.own d)) => some (.ok (.fz d), { s with r := s.r.set i (some (.fz d)) })
    | _ => none)
  | .fl l k => (match getFld l k s.S with
    | some (.own d) => some (.ok (.fz d), { s with S := setFld l k (.fz d) s.S })
    | _ => none)
/-! as a call's argument -/
def toCell (v : Md × D) : Cell :=
  match v.1 with
  | .fz => .fz v.2
  | .bp => if flat v.2 then .fz v.2 else .br v.2
  | .sl _ => .br v.2
  | .fl _ _ => .br v.2
def isBp (v : Md × D) : Bool :=
  match v.1 with
  | .bp => !flat v.2
  | _ => false
def cellIn (p : Bool) (d : D) : Cell := if p && !flat d then .br d else .fz d
/-! a new thing: own, if it is a list or dict of frozen things -/
def flatL : D → Bool
  | .lst xs => flats xs
  | .dic _ vs => flats vs
  | d => flat d
def cellNew (p : Bool) (d : D) : Cell :=
  if p && !flatL d then .br d else match d with
    | .lst xs => .own (.lst xs)
    | .dic ks vs => .own (.dic ks vs)
    | d => .fz d
def ofCell : Cell → Option (Md × D)
  | .fz d => some (.fz, d)
  | .own d => some (.fz, d)
  | .br d => some (.bp, d)
  | .rd _ => none

def line : Nat := 4000000
def ixD (n : Nat) (i : Int) : Option Nat := if 0 ≤ i then (if i < n then some i.toNat else none) else if -(n : Int) ≤ i then some (i + n).toNat else none
def dget (k : D) (ks vs : List D) : Option D :=
  match kfind k ks with
  | some (some j) => vs[j]?
  | _ => none
/-! x[i] -/
def idxD : D → D → Option D
  | .lst xs, .int i => (ixD xs.length i).bind fun j => xs[j]?
  | .tup xs, .int i => (ixD xs.length i).bind fun j => xs[j]?
  | .dic ks vs, k => dget k ks vs
  | .str x, .int i => if x.length ≤ line then (ixD x.cps.size i).bind fun j => (x.cps[j]?).map fun c => .str ⟨#[c]⟩ else none
  | _, _ => none
def okMul (i j : Int) : Bool := (decide (-(2 ^ 64) < i) && decide (i < 2 ^ 64)) || (decide (-(2 ^ 64) < j) && decide (j < 2 ^ 64)) || decide (i.natAbs.log2 + j.natAbs.log2 < 1000000)
def binD : BOp → D → D → Option D
  | .add, .int i, .int j => some (.int (i + j))
  | .add, .lst xs, .lst ys => if xs.length + ys.length ≤ line then some (.lst (xs ++ ys)) else none
  | .add, .tup xs, .tup ys => if xs.length + ys.length ≤ line then some (.tup (xs ++ ys)) else none
  | .add, .str x, .str y => if x.length + y.length ≤ line then some (.str (x ++ y)) else none
  | .sub, .int i, .int j => some (.int (i - j))
  | .mul, .int i, .int j => if okMul i j then some (.int (i * j)) else none
  | .mul, .lst xs, .int k => if 0 ≤ k ∧ k < 1000000 ∧ k.toNat * xs.length ≤ line then some (.lst (List.replicate k.toNat xs).flatten) else none
  | .mul, .tup xs, .int k => if 0 ≤ k ∧ k < 1000000 ∧ k.toNat * xs.length ≤ line then some (.tup (List.replicate k.toNat xs).flatten) else none
  | .fdiv, .int i, .int j => if j ≠ 0 ∧ (j.natAbs < 1073741824 ∨ (0 < j ∧ j.natAbs.log2 < 9000)) then some (.int (i.fdiv j)) else none
  | .mod, .int i, .int j => if j ≠ 0 then some (.int (i.fmod j)) else none
  | .pow, .int i, .int j => if 0 ≤ j ∧ j ≤ 1000000 ∧ i.natAbs < 2 ^ 64 then some (.int (i ^ j.toNat)) else none
  | .band, .int i, .int j => some (.int (Builtin.bitAnd i j))
  | .bxor, .int i, .int j => some (.int (Builtin.bitXor i j))
  | .shr, .int i, .int j => if 0 ≤ j then some (.int (i / 2 ^ j.toNat)) else none
  | _, _, _ => none
/-! is x among them -/
def anyEq (x : D) (ys : List D) : Option Bool := if (scalD x && ys.all scalD) || (sane x && sane (.lst ys)) then some (ys.any fun y => deq y x) else none
def cmpD : COp → D → D → Option Bool
  | .eq, x, y => deqT x y
  | .ne, x, y => (deqT x y).map (!·)
  | .lt, .int i, .int j => some (decide (i < j))
  | .le, .int i, .int j => some (decide (i ≤ j))
  | .gt, .int i, .int j => some (decide (j < i))
  | .ge, .int i, .int j => some (decide (j ≤ i))
  | .isin, x, .lst ys => anyEq x ys
  | .isin, x, .tup ys => anyEq x ys
  | .isin, .str x, .str y => some (!(Builtin.Str.occurrences y x 0 y.length 1).isEmpty)
  | .isin, k, .dic ks _ => (kfind k ks).map (·.isSome)
  | .nin, x, .lst ys => (anyEq x ys).map (!·)
  | .nin, x, .tup ys => (anyEq x ys).map (!·)
  | .nin, .str x, .str y => some (!(!(Builtin.Str.occurrences y x 0 y.length 1).isEmpty))
  | .nin, k, .dic ks _ => (kfind k ks).map (!·.isSome)
  | .is_, x, .non => some (match x with | .non => true | _ => false)
  | .isn, x, .non => some (match x with | .non => false | _ => true)
  | _, _, _ => none
def ordD : COp → D → D → Option Bool
  | .lt, .int i, .int j => some (decide (i < j))
  | .le, .int i, .int j => some (decide (i ≤ j))
  | .gt, .int i, .int j => some (decide (j < i))
  | .ge, .int i, .int j => some (decide (j ≤ i))
  | _, _, _ => none
def truD : D → Option Bool
  | .bl b => some b
  | .int i => some (i != 0)
  | .non => some false
  | .lst xs => some (!xs.isEmpty)
  | .tup xs => some (!xs.isEmpty)
  | _ => none
def intsOf : List D → Option (List Int)
  | [] => some []
  | .int i :: xs => (intsOf xs).map (i :: ·)
  | _ :: _ => none
def blsOf : List D → Option (List Bool)
  | [] => some []
  | .bl b :: xs => (blsOf xs).map (b :: ·)
  | _ :: _ => none
def maxI : List Int → Option Int
  | [] => none
  | x :: xs => some (xs.foldl max x)
def minI : List Int → Option Int
  | [] => none
  | x :: xs => some (xs.foldl min x)
/-! built-in functions of values: the answer, and whether it is a new list -/
/-! a list's ints, rising, each once -/
def insI (x : Int) : List Int → List Int
  | [] => [x]
  | y :: l => if x < y then x :: y :: l else if x = y then y :: l else y :: insI x l
def setI : List Int → List Int
  | [] => []
  | x :: l => insI x (setI l)
def plainBI : BI → Bool
  | .sset => false | .lset => false
  | _ => true
def biD : BI → List D → Option D
  | .len, [.lst xs] => some (.int xs.length)
  | .len, [.tup xs] => some (.int xs.length)
  | .len, [.str x] => if x.length ≤ line then some (.int x.length) else none
  | .list, [.lst xs] => some (.lst xs)
  | .list, [.tup xs] => some (.lst xs)
  | .tuple, [.lst xs] => some (.tup xs)
  | .tuple, [.tup xs] => some (.tup xs)
  | .int, [.int i] => some (.int i)
  | .int, [.bl b] => some (.int (if b then 1 else 0))
  | .sum, [.lst xs] => (intsOf xs).map fun ns => .int ns.sum
  | .max, [.lst xs] => (intsOf xs).bind fun ns => (maxI ns).map .int
  | .min, [.lst xs] => (intsOf xs).bind fun ns => (minI ns).map .int
  | .max, [.int i, .int j] => some (.int (if j > i then j else i))
  | .min, [.int i, .int j] => some (.int (if j < i then j else i))
  | .all, [.lst xs] => (blsOf xs).map fun bs => .bl (bs.all id)
  | .any, [.lst xs] => (blsOf xs).map fun bs => .bl (bs.any id)
  | .sorted, [.lst xs] => (intsOf xs).map fun ns => .lst ((ns.mergeSort (· ≤ ·)).map .int)
  | .sset, [.lst xs] => (intsOf xs).bind fun ns => if ns.length < 64 then some (.lst ((setI ns).map .int)) else none
  | .lset, [.lst xs] => (intsOf xs).bind fun ns => if ns.length < 64 then some (.int (setI ns).length) else none
  | _, _ => none
def idxOf (x : D) : List D → Option Nat
  | [] => none
  | y :: ys => if deq y x then some 0 else (idxOf x ys).map (· + 1)
def strsOf : List D → Option (List Str)
  | [] => some []
  | .str i :: xs => (strsOf xs).map (i :: ·)
  | _ :: _ => none
def idxS (x : Str) : List Str → Option Nat
  | [] => none
  | y :: ys => if y == x then some 0 else (idxS x ys).map (· + 1)
def bmD : BM → D → List D → Option D
  | .get, .dic ks vs, [k, d] => (kfind k ks).bind fun o => match o with
    | some j => vs[j]?
    | none => some d
  | .indexT, .tup xs, [.str z] => (strsOf xs).bind fun ys => (idxS z ys).map fun (j : Nat) => .int j
  | .index, .lst xs, [x] => if sane (.lst xs) && sane x then (idxOf x xs).map fun (j : Nat) => .int j else none
  | .count, .lst xs, [.bl b] => (blsOf xs).map fun bs => .int (bs.count b : Nat)
  | _, _, _ => none
/-! .get of a slot's own dict; .index of flat things in a list -/
def bmOk : BM → Md × D → Bool
  | .get, (.sl _, .dic _ _) => true
  | .index, (.fz, .lst _) => true
  | .index, (.bp, .lst _) => true
  | .index, (.sl _, .lst _) => true
  | .indexT, (.fz, .tup _) => true
  | .count, (.fz, .lst _) => true
  | .count, (.bp, .lst _) => true
  | .count, (.sl _, .lst _) => true
  | _, _ => false
def isiD : Ty → D → Option Bool
  | .int, .int _ => some true
  | .int, .bl _ => some true
  | .int, .ref _ => none
  | .int, .cls _ => none
  | .int, .exo _ _ => none
  | .int, _ => some false
  | .bl, .bl _ => some true
  | .bl, .ref _ => none
  | .bl, .cls _ => none
  | .bl, .exo _ _ => none
  | .bl, _ => some false
  | .str, .str _ => some true
  | .str, .ref _ => none
  | .str, .cls _ => none
  | .str, .exo _ _ => none
  | .str, _ => some false
  | .lst, .lst _ => some true
  | .lst, .ref _ => none
  | .lst, .cls _ => none
  | .lst, .exo _ _ => none
  | .lst, _ => some false
  | .tup, .tup _ => some true
  | .tup, .ref _ => none
  | .tup, .cls _ => none
  | .tup, .exo _ _ => none
  | .tup, _ => some false
  | _, _ => none
/-! a slice's place -/
def sliX (n d : Nat) : Option Int → Nat
  | none => d
  | some v => (if v < 0 then max (v + (n : Int)) 0 else min v (n : Int)).toNat
def cutL (xs : List D) (lo hi : Option Int) : List D := (xs.drop (sliX xs.length 0 lo)).take (sliX xs.length xs.length hi - sliX xs.length 0 lo)
def isNonE : Ex → Bool
  | .non => true
  | _ => false
def partD (absent : Bool) : D → Option (Option Int)
  | .non => if absent then some none else none
  | .int i => if absent then none else some (some i)
  | _ => none
def slcD (lo hi : Option Int) : D → Option D
  | .lst xs => some (.lst (cutL xs lo hi))
  | .tup xs => some (.tup (cutL xs lo hi))
  | _ => none
def revD : D → Option D
  | .lst xs => some (.lst xs.reverse)
  | _ => none
/-! what a loop walks -/
def ltB (i : Int) : Bool := decide (-(2 ^ 62) ≤ i) && decide (i < 2 ^ 62)
def zipD : List D → List D → List D
  | x :: xs, y :: ys => .tup [x, y] :: zipD xs ys
  | _, _ => []
def enumD (n : Nat) : List D → List D
  | [] => []
  | x :: xs => .tup [.int n, x] :: enumD (n + 1) xs
def seqD : D → Option (List D)
  | .lst xs => some xs
  | .tup xs => some xs
  | .str x => some (x.cps.toList.map fun c => .str ⟨#[c]⟩)
  | _ => none
def rngD (a : Int) (n : Nat) : List D := (List.range n).map fun (k : Nat) => .int (a + k)
def itD : It → List D → Option (List D)
  | .seq, [x] => seqD x
  | .rng, [.int n] => if ltB n then some (rngD 0 n.toNat) else none
  | .rng, [.int a, .int b] => if ltB a && ltB b then some (rngD a (b - a).toNat) else none
  | .zip, [.str x, .tup ys] => some (zipD (x.cps.toList.map fun c => .str ⟨#[c]⟩) ys)
  | .zip, [.lst xs, .lst ys] => some (zipD xs ys)
  | .zip, [.tup xs, .tup ys] => some (zipD xs ys)
  | .enum, [.lst xs] => some (enumD 0 xs)
  | .enum, [.tup xs] => some (enumD 0 xs)
  | .items, [.dic ks vs] => some (zipD ks vs)
  | _, _ => none
/-! a target -/
def bindP (p : Pat) (pb : Bool) (d : D) (r : Env) : Option Env :=
  match p with
  | .nm i => some (r.set i (some (cellIn pb d)))
  | .tu is => (match d with
    | .tup xs => if xs.length = is.length then some (binds is xs r) else none
    | _ => none)
where
  binds : List Nat → List D → Env → Env
    | i :: is, x :: xs, r => binds is xs (r.set i (some (cellIn pb x)))
    | _, _, r => r
def wipeE (own : List Nat) (r : Env) : Env := own.foldl (fun r i => r.set i none) r

abbrev Den := List Cell → Sto → Option (Ou Cell × Sto)
/-! a call's end -/
def runD (f : Den) (cs : List Cell) : M Cell := fun s =>
  match f cs s.S with
  | some (.ok (.fz d), S') => some (.ok (.fz d), { s with S := S' })
  | some (.ok (.own d), S') => some (.ok (.own d), { s with S := S' })
  | some (.ex c p, S') => some (.ex c p, { s with S := S' })
  | _ => none
/-! a new object of a class -/
def mkD (f : Den) (c : Nat) (cs : List Cell) : M Cell := fun s =>
  match runD f (.fz (.ref s.S.length) :: cs) { s with S := s.S ++ [.ins c []] } with
  | some (.ok (.fz .non), s') => some (.ok (.fz (.ref s.S.length)), s')
  | some (.ex c p, s') => some (.ex c p, s')
  | _ => none
def boxD (o : Obj) : M Cell := fun s => some (.ok (.fz (.ref s.S.length)), { s with S := s.S ++ [o] })
def clsAt (l : Nat) (S : Sto) : Option Nat :=
  match S[l]? with
  | some (.ins c _) => some c
  | _ => none
/-! pairs of a written dict -/
def pairsD : List D → Option (List D × List D)
  | [] => some ([], [])
  | [_] => none
  | k :: v :: r => (pairsD r).map fun p => (k :: p.1, v :: p.2)
/-! each key once -/
def keysOk : List D → Bool
  | [] => true
  | k :: ks => (match kfind k ks with | some none => true | _ => false) && keysOk ks
/-! what is boxed is looked up -/
def unbox (S : Sto) : Md × D → Option (Md × D)
  | (.fz, .ref l) => (match S[l]? with
    | some (.bls xs) => some (.fz, .lst xs)
    | some (.bdi ks vs) => some (.fz, .dic ks vs)
    | _ => some (.fz, .ref l))
  | v => some v

/-! a dict at a place that may be changed -/
def dicAt (S : Sto) : Md × D → Option (List D × List D)
  | (.sl _, .dic ks vs) => some (ks, vs)
  | (.fl _ _, .dic ks vs) => some (ks, vs)
  | (.fz, .ref l) => (match S[l]? with
    | some (.bdi ks vs) => some (ks, vs)
    | _ => none)
  | _ => none
def intPairs : List D → List D → Option (List (Int × Int))
  | [], [] => some []
  | .int i :: ks, .int j :: vs => (intPairs ks vs).map ((i, j) :: ·)
  | _, _ => none
def insP (z : Int × Int) : List (Int × Int) → List (Int × Int)
  | [] => [z]
  | y :: l => if z.1 < y.1 then z :: y :: l else y :: insP z l
def sortP : List (Int × Int) → List (Int × Int)
  | [] => []
  | z :: l => insP z (sortP l)
def sitD (ks vs : List D) : Option D := (intPairs ks vs).map fun zs => .lst ((sortP zs).map fun z => .tup [.int z.1, .int z.2])
/-! a list's lists are looked up, too: lists of plain things -/
def unb (S : Sto) : D → Option D
  | .ref l => (match S[l]? with
    | some (.bls xs) => if xs.all scalD then some (.lst xs) else none
    | _ => none)
  | .lst xs => if xs.all scalD then some (.lst xs) else none
  | d => if scalD d then some d else none
def unbs (S : Sto) : List D → Option (List D)
  | [] => some []
  | d :: ds => (unb S d).bind fun x => (unbs S ds).map (x :: ·)
def unboxN (S : Sto) : D → Option D
  | .lst ds => (unbs S ds).map .lst
  | _ => none
/-! a comprehension's turns -/
def compL (f : Bool → D → Stt → Option (Ou (Option Cell) × Stt)) (pb : Bool) : List D → Stt → Option (Bool × List D × Stt)
  | [], s => some (false, [], s)
  | d :: ds, s => match f pb d s with
    | some (.ok (some (.fz x)), s') => (compL f pb ds s').map fun q => (q.1, x :: q.2.1, q.2.2)
    | some (.ok (some (.own x)), s') => (compL f pb ds s').map fun q => (q.1, x :: q.2.1, q.2.2)
    | some (.ok (some (.br x)), s') => (compL f pb ds s').map fun q => (true, x :: q.2.1, q.2.2)
    | some (.ok none, s') => compL f pb ds s'
    | _ => none

/-! a value: as it stands somewhere, or made -/
inductive Vl where
  | pl (m : Md) (d : D) | nw (c : Cell)
def asV : Vl → M (Md × D)
  | .pl m d => M.ok (m, d)
  | .nw c => M.of (ofCell c)
def asC : Vl → M Cell
  | .pl m d => settle (m, d)
  | .nw c => M.ok c
def asT (v : Vl) : M Bool := (asV v).bind fun v => fun s =>
  match unbox s.S v with
  | some v => (match truD v.2 with
    | some b => some (.ok b, s)
    | none => none)
  | none => none
def M.nw (m : M Cell) : M Vl := m.bind fun c => M.ok (.nw c)
def M.cell (o : Option Cell) : M Vl := M.of (o.map .nw)
def M.bl (m : M Bool) : M Vl := m.bind fun b => M.ok (.nw (.fz (.bl b)))
def guardX (b : Ex) {a : Type} (m : Md) (x : M a) : M a := if simple b then x else guardL m x

/-! exceptions' classes: 0 is the base of all, 1000 ValueError -/
def xsub (c c' : Nat) : Bool := c == c' || c' == 0 || c' == 1000
/-! the text: what each def does, the module's constants -/
structure Pg where
  F : Nat → Den
  con : Nat → D
section
variable (P : Pg)
mutual
-- a value as it comes; t: as a test
def evV (t : Bool) : Ex → M Vl
  | .var i => fun s => match s.r[i]? with
    | some (some (.fz d)) => some (.ok (.pl .fz d), s)
    | some (some (.own d)) => some (.ok (.pl (.sl i) d), s)
    | some (some (.rd d)) => some (.ok (.pl (.sl i) d), s)
    | some (some (.br d)) => some (.ok (.pl .bp d), s)
    | _ => none
  | .fld c k a => ((evV false a).bind asV).bind fun v => fun s => match v with
    | (.fz, .ref l) => (match s.S[l]? with
      | some (.ins c' fs) => if c' = c then (match fs[k]? with
        | some (.fz d) => some (.ok (.pl .fz d), s)
        | some (.own d) => some (.ok (.pl (.fl l k) d), s)
        | some (.rd d) => some (.ok (.pl (.fl l k) d), s)
        | _ => none) else none
      | _ => none)
    | _ => none
  | .con j => M.ok (.pl .fz (P.con j))
  | .int i => M.ok (.pl .fz (.int i))
  | .str x => M.ok (.pl .fz (.str x))
  | .bl b => M.ok (.pl .fz (.bl b))
  | .non => M.ok (.pl .fz .non)
  | .idx a b => ((evV false a).bind asV).bind fun va => guardX b va.1 (((evV false b).bind asV).bind fun vb => fun s =>
      match unbox s.S va with
      | some va => (match idxD va.2 vb.2 with
        | some d => some (.ok (.nw (cellIn (isBp va) d)), s)
        | none => none)
      | none => none)
  | .bin op a b => ((evV false a).bind asV).bind fun va => guardX b va.1 (((evV false b).bind asV).bind fun vb =>
      M.cell ((binD op va.2 vb.2).map (cellNew (isBp va || isBp vb))))
  | .neg a => ((evV false a).bind asV).bind fun v => M.cell (match v.2 with | .int i => some (.fz (.int (-i))) | _ => none)
  | .not a => (((evV t a).bind asT).bind fun b => M.ok (!b)).bl
  | .and es => if t then (evTA es).bl else (evAnd es).nw
  | .or es => if t then (evTO es).bl else (evOr es).nw
  | .cmp op a b => ((evV false a).bind asV).bind fun va => guardX b va.1 (((evV false b).bind asV).bind fun vb =>
      M.cell ((cmpD op va.2 vb.2).map fun b => .fz (.bl b)))
  | .chn o1 o2 a b c => ((evV false a).bind asV).bind fun va => ((evV false b).bind asV).bind fun vb => match ordD o1 va.2 vb.2 with
    | some true => ((evV false c).bind asV).bind fun vc => M.cell ((ordD o2 vb.2 vc.2).map fun b => .fz (.bl b))
    | some false => M.ok (.nw (.fz (.bl false)))
    | none => M.of none
  | .ite c a b => ((evV true c).bind asT).bind fun t => if t then ((evV false a).bind asC).nw else ((evV false b).bind asC).nw
  | .tup es => (evS es).bind fun q => M.ok (.nw (cellIn q.1 (.tup q.2)))
  | .lst box es => (evS es).bind fun q => if box then (if q.1 then M.of none else (boxD (.bls q.2)).nw) else M.ok (.nw (cellNew q.1 (.lst q.2)))
  | .dic box es => (evS es).bind fun p => if p.1 then M.of none else match pairsD p.2 with
    | some q => if keysOk q.1 then (if box then (boxD (.bdi q.1 q.2)).nw else M.ok (.nw (.own (.dic q.1 q.2)))) else M.of none
    | none => M.of none
  | .slc a lo hi => ((evV false a).bind asV).bind fun va => guardL va.1 (((evV false lo).bind asV).bind fun l => match partD (isNonE lo) l.2 with
    | some l => ((evV false hi).bind asV).bind fun h => M.cell (match partD (isNonE hi) h.2 with
        | some h => (slcD l h va.2).map (cellNew (isBp va))
        | none => none)
    | none => M.of none)
  | .rev a => ((evV false a).bind asV).bind fun va => M.cell ((revD va.2).map (cellNew (isBp va)))
  | .keep a => ((evV false a).bind asC).nw
  | .call f es => (evA es fun vs => runD (P.F f) (vs.map toCell)).nw
  | .meth f c o es => ((evV false o).bind asV).bind fun v => match v with
    | (.fz, .ref l) => fun s => if clsAt l s.S = some c then ((evA es fun vs => runD (P.F f) (.fz (.ref l) :: vs.map toCell)).nw) s else none
    | _ => M.of none
  | .mk f c es => (evA es fun vs => mkD (P.F f) c (vs.map toCell)).nw
  | .isi a t => ((evV false a).bind asV).bind fun v => fun s => match unbox s.S v with
    | some v => (match isiD t v.2 with
      | some b => some (.ok (.nw (.fz (.bl b))), s)
      | none => none)
    | none => none
  | .bi f es => (evA es fun vs => M.of ((biD f (vs.map (·.2))).map (cellNew (vs.any isBp)))).nw
  | .bm m o es => ((evV false o).bind asV).bind fun v => if bmOk m v then (evS es).bind fun q => (if q.1 then M.of none else match bmD m v.2 q.2 with
      | some d => M.ok (.nw (.fz d))
      | none => M.of none) else M.of none
  | .rngL es => (evI es).bind fun vs => M.cell (match itD .rng (vs.map (·.2)) with
    | some items => if items.length ≤ line then some (.own (.lst items)) else none
    | none => none)
  | .comp e p it src cond own => (evI src).bind fun vs => match itD it (vs.map (·.2)) with
    | some items => if items.length ≤ line then guardLs (vs.map (·.1)) fun s => match compL (fun pb d s => match bindP p pb d (wipeE own s.r) with
        | some r' => ((evTA0 cond).bind fun b => if b then ((evV false e).bind asC).bind fun c => M.ok (some c) else M.ok none) { s with r := r' }
        | none => none) (vs.any isBp) items { s with r := wipeE own s.r } with
      | some (p, ds, s') => some (.ok (.nw (cellNew p (.lst ds))), { s' with r := wipeE own s'.r })
      | none => none
      else M.of none
    | none => M.of none
  | .box a => (((evV false a).bind asC).bind fun c => match c with
    | .own (.lst xs) => boxD (.bls xs)
    | .own (.dic ks vs) => boxD (.bdi ks vs)
    | _ => M.of none).nw
  | .cmpb op a b => ((evV false a).bind asV).bind fun va => guardX b va.1 (((evV false b).bind asV).bind fun vb => fun s =>
      match unbox s.S va with
      | some va => (match unbox s.S vb with
        | some vb => M.cell ((cmpD op va.2 vb.2).map fun b => .fz (.bl b)) s
        | none => none)
      | none => none)
  | .cmpn op a b => ((evV false a).bind asV).bind fun va => guardX b va.1 (((evV false b).bind asV).bind fun vb => fun s =>
      match unboxN s.S va.2 with
      | some da => (match unboxN s.S vb.2 with
        | some db => M.cell ((cmpD op da db).map fun b => .fz (.bl b)) s
        | none => none)
      | none => none)
  | .bib f a => ((evV false a).bind asV).bind fun v => fun s =>
      match unbox s.S v with
      | some v => M.cell ((biD f [v.2]).map (cellNew (isBp v))) s
      | none => none
  | .dcp a => ((evV false a).bind asV).bind fun v => fun s => match v with
    | (.fz, .ref l) => (match s.S[l]? with
      | some (.bdi ks vs) => some (.ok (.nw (.own (.dic ks vs))), s)
      | _ => none)
    | _ => none
  | .sit a => ((evV false a).bind asV).bind fun v => fun s => match dicAt s.S v with
    | some q => (match sitD q.1 q.2 with
      | some d => some (.ok (.nw (.own d)), s)
      | none => none)
    | none => none
  | .mkx0 c => M.ok (.nw (.fz (.exo c [])))
  | .mkx1 c a => ((evV false a).bind asC).bind fun x => match x with
    | .fz d => M.ok (.nw (.fz (.exo c [d])))
    | _ => M.of none
  | .isx a cs => ((evV false a).bind asV).bind fun v => M.cell (match v with
    | (.fz, .exo c _) => some (.fz (.bl (cs.any (xsub c))))
    | _ => none)
  | .xrow a => ((evV false a).bind asV).bind fun v => M.cell (match v with
    | (.fz, .exo _ [d]) => some (.fz d)
    | _ => none)
  | .rep a b => ((evV false a).bind asC).bind fun c => match c with
    | .own (.lst xs) => ((evV false b).bind asV).bind fun v => M.cell (match v.2 with
      | .int k => if 0 ≤ k ∧ k < 1000000 ∧ k.toNat * xs.length ≤ line then some (.own (.lst (List.replicate k.toNat xs).flatten)) else none
      | _ => none)
    | _ => M.of none
-- all of some tests; none: true
def evTA0 : List Ex → M Bool
  | [] => M.ok true
  | e :: es => ((evV true e).bind asT).bind fun b => if b then evTA0 es else M.ok false
def evTA : List Ex → M Bool
  | [] => M.of none
  | e :: es => ((evV true e).bind asT).bind fun b => match es with
    | [] => M.ok b
    | _ :: _ => if b then evTA es else M.ok false
def evTO : List Ex → M Bool
  | [] => M.of none
  | e :: es => ((evV true e).bind asT).bind fun b => match es with
    | [] => M.ok b
    | _ :: _ => if b then M.ok true else evTO es
-- and, or of truths as values
def evAnd : List Ex → M Cell
  | [] => M.of none
  | e :: es => match es with
    | [] => (evV false e).bind asC
    | _ :: _ => ((evV false e).bind asV).bind fun v => match v.2 with
      | .bl true => evAnd es
      | .bl false => M.ok (.fz (.bl false))
      | _ => M.of none
def evOr : List Ex → M Cell
  | [] => M.of none
  | e :: es => match es with
    | [] => (evV false e).bind asC
    | _ :: _ => ((evV false e).bind asV).bind fun v => match v.2 with
      | .bl true => M.ok (.fz (.bl true))
      | .bl false => evOr es
      | _ => M.of none
-- arguments, as they come
def evA : List Ex → (List (Md × D) → M Cell) → M Cell
  | [], k => k []
  | e :: es, k => ((evV false e).bind asV).bind fun v => guardL v.1 (evA es fun vs => k (v :: vs))
-- items, to be kept
def evS : List Ex → M (Bool × List D)
  | [] => M.ok (false, [])
  | e :: es => ((evV false e).bind asC).bind fun c => match c with
    | .fz d => (evS es).bind fun q => M.ok (q.1, d :: q.2)
    | .own d => (evS es).bind fun q => M.ok (q.1, d :: q.2)
    | .br d => (evS es).bind fun q => M.ok (true, d :: q.2)
    | .rd _ => M.of none
-- what is walked, as it comes
def evI : List Ex → M (List (Md × D))
  | [] => M.ok []
  | e :: es => ((evV false e).bind asV).bind fun v => if isFl v.1 && !es.all simple then M.of none else (evI es).bind fun vs => M.ok (v :: vs)
end
def ev (e : Ex) : M (Md × D) := (evV P false e).bind asV
def evR (e : Ex) : M Cell := (evV P false e).bind asC
def evT (e : Ex) : M Bool := (evV P true e).bind asT
end

/-! statements -/
inductive St where
  | asg (i : Nat) (e : Ex)
  | unp (is : List Nat) (e : Ex)
  | fset (c k : Nat) (o e : Ex)
  | sset (o i e : Ex)
  | exp (e : Ex)
  | mut (t : Option Nat) (m : MM) (o : Ex) (es : List Ex)
  | ite (c : Ex) (a b : List St)
  | for_ (p : Pat) (it : It) (src : List Ex) (body : List St)
  | whl (c : Ex) (body : List St)
  | ret (e : Ex) | retN | pass | brk | cnt
  | nev
  | upd (o e : Ex)
  | rse (c : Nat) (es : List Ex)
  | tryx (c : Nat) (i : Option Nat) (body suite : List St)
inductive Fl where
  | next | brk | cnt | ret (c : Cell)

/-! a slot's own list is locked while x runs -/
def lockS {a : Type} (i : Nat) (x : M a) : M a := fun s =>
  match s.r[i]? with
  | some (some (.own d)) => (match x { s with r := s.r.set i (some (.rd d)) } with
    | some (r, s') => (match s'.r[i]? with
      | some (some (.rd d')) => some (r, { s' with r := s'.r.set i (some (.own d')) })
      | _ => some (r, s'))
    | none => none)
  | some (some (.rd _)) => x s
  | _ => none
def lockL {a : Type} : List Md → M a → M a
  | [], x => x
  | .sl i :: ms, x => lockS i (lockL ms x)
  | .fl l k :: ms, x => guardF l k (lockL ms x)
  | _ :: ms, x => lockL ms x
/-! the turns of a for -/
def forL (p : Pat) (pb : Bool) (body : M Fl) : List D → M Fl
  | [] => M.ok .next
  | d :: ds => fun s => match bindP p pb d s.r with
    | some r' => (match body { s with r := r' } with
      | some (.ok .next, s') => forL p pb body ds s'
      | some (.ok .cnt, s') => forL p pb body ds s'
      | some (.ok .brk, s') => some (.ok .next, s')
      | q => q)
    | none => none
def whlL (c : M Bool) (body : M Fl) : Nat → M Fl
  | 0 => fun _ => none
  | n + 1 => c.bind fun b => if b then fun s => (match body s with
      | some (.ok .next, s') => whlL c body n s'
      | some (.ok .cnt, s') => whlL c body n s'
      | some (.ok .brk, s') => some (.ok .next, s')
      | q => q) else M.ok .next
/-! x[i] = v -/
def putD (k x : D) : List D → List D → List D
  | a :: ks, v :: vs => (if keq a k = some true then x else v) :: putD k x ks vs
  | _, vs => vs
def setD : D → D → D → Option D
  | .lst xs, .int i, v => (ixD xs.length i).map fun j => .lst (xs.set j v)
  | .dic ks vs, k, v => match kfind k ks with
    | some none => if ks.length < line then some (.dic (ks ++ [k]) (vs ++ [v])) else none
    | some (some _) => if ks.length < line then some (.dic ks (putD k v ks vs)) else none
    | none => none
  | _, _, _ => none
/-! a dict's entries put into another one -/
def mrgD : List D → List D → List D → List D → Option (List D × List D)
  | ks, vs, k :: r, v :: w => (match kfind k ks with
    | some none => mrgD (ks ++ [k]) (vs ++ [v]) r w
    | some (some _) => mrgD ks (putD k v ks vs) r w
    | none => none)
  | ks, vs, [], [] => some (ks, vs)
  | _, _, _, _ => none
def updD (ks2 vs2 : List D) : D → Option (D × Unit)
  | .dic ks vs => if ks.length + ks2.length ≤ line then (mrgD ks vs ks2 vs2).map fun q => (.dic q.1 q.2, ()) else none
  | _ => none
/-! a method that changes: the new thing, the answer -/
def mutD : MM → D → List D → Option (D × D)
  | .append, .lst xs, [x] => if xs.length < line then some (.lst (xs ++ [x]), .non) else none
  | .pop, .lst xs, [] => (xs[xs.length - 1]?).map fun y => (.lst xs.dropLast, y)
  | .popAt, .lst xs, [.int i] => if -(2 ^ 63) ≤ i ∧ i < 2 ^ 63 then (ixD xs.length i).bind fun j => (xs[j]?).map fun y => (.lst (xs.eraseIdx j), y) else none
  | .reverse, .lst xs, [] => some (.lst xs.reverse, .non)
  | .clear, .lst _, [] => some (.lst [], .non)
  | _, _, _ => none
/-! the thing at a place is changed; the answer -/
def changeAt {a : Type} (f : D → Option (D × a)) (v : Md × D) : M a := fun s =>
  match v with
  | (.sl i, _) => (match s.r[i]? with
    | some (some (.own d)) => (f d).map fun q => (.ok q.2, { s with r := s.r.set i (some (.own q.1)) })
    | _ => none)
  | (.fl l k, _) => (match getFld l k s.S with
    | some (.own d) => (f d).map fun q => (.ok q.2, { s with S := setFld l k (.own q.1) s.S })
    | _ => none)
  | (.fz, .ref l) => (match s.S[l]? with
    | some (.bls xs) => (f (.lst xs)).bind fun q => match q with
      | (.lst ys, y) => some (.ok y, { s with S := s.S.set l (.bls ys) })
      | _ => none
    | some (.bdi ks vs) => (f (.dic ks vs)).bind fun q => match q with
      | (.dic ks' vs', y) => some (.ok y, { s with S := s.S.set l (.bdi ks' vs') })
      | _ => none
    | _ => none)
  | _ => none
/-! .. that is to be changed -/
def guardM {a : Type} (m : Md) (x : M a) : M a :=
  match m with
  | .fl l k => fun s => (match getFld l k s.S with
    | some (.own _) => guardF l k x s
    | _ => none)
  | _ => x
/-! a list, boxed or not -/
def isLst (v : Md × D) : M Unit := fun s =>
  match unbox s.S v with
  | some (_, .lst _) => some (.ok (), s)
  | _ => none
def isDic (v : Md × D) : M Unit := fun s =>
  match unbox s.S v with
  | some (_, .dic _ _) => some (.ok (), s)
  | _ => none
/-! o.f = c -/
def putFld (c l k : Nat) (x : Cell) : M Unit := fun s =>
  match s.S[l]? with
  | some (.ins c' fs) => if c' = c then
      (if k < fs.length then (match fs[k]? with
        | some (.rd _) => none
        | _ => some (.ok (), { s with S := s.S.set l (.ins c (fs.set k x)) }))
       else if k = fs.length then some (.ok (), { s with S := s.S.set l (.ins c (fs ++ [x])) }) else none) else none
  | _ => none
def setSlot (i : Nat) (c : Cell) : M Unit := fun s => some (.ok (), { s with r := s.r.set i (some c) })

def putT : Option Nat → D → M Fl
  | some i, y => (setSlot i (.fz y)).bind fun _ => M.ok .next
  | none, _ => M.ok .next
section
variable (P : Pg) (n : Nat)
mutual
def exec : St → M Fl
  | .asg i e => (evR P e).bind fun c => (setSlot i c).bind fun _ => M.ok .next
  | .unp is e => (ev P e).bind fun v => fun s => match v.2 with
    | .tup xs => if xs.length = is.length then some (.ok .next, { s with r := bindP.binds (isBp v) is xs s.r }) else none
    | .lst xs => if xs.length = is.length then some (.ok .next, { s with r := bindP.binds (isBp v) is xs s.r }) else none
    | _ => none
  | .fset c k o e => (evR P e).bind fun x => (ev P o).bind fun v => match v with
    | (.fz, .ref l) => (match x with
      | .br _ => M.of none
      | x => (putFld c l k x).bind fun _ => M.ok .next)
    | _ => M.of none
  | .sset o i e => (evS P [e]).bind fun q => match q with
    | (false, [x]) => (ev P o).bind fun v => if isFl v.1 && !simple i then M.of none else (ev P i).bind fun w => (changeAt (fun d => (setD d w.2 x).map fun z => (z, ())) v).bind fun _ => M.ok .next
    | _ => M.of none
  | .exp e => (evR P e).bind fun _ => M.ok .next
  | .mut t m o es => (ev P o).bind fun v => (isLst v).bind fun _ => (guardM v.1 (evS P es)).bind fun q => if q.1 then M.of none else
      (changeAt (fun d => mutD m d q.2) v).bind (putT t)
  | .ite c a b => (evT P c).bind fun t => if t then execs a else execs b
  | .for_ p it src body => (evI P src).bind fun vs => match itD it (vs.map (·.2)) with
    | some items => lockL (vs.map (·.1)) (forL p (vs.any isBp) (execs body) items)
    | none => M.of none
  | .whl c body => whlL (evT P c) (execs body) n
  | .ret e => (evV P false e).bind fun v => match v with
    | .pl (.sl i) _ => fun s => (match s.r[i]? with
      | some (some (.own d)) => some (.ok (.ret (.own d)), s)
      | _ => none)
    | v => (asC v).bind fun c => (match c with
      | .br _ => M.of none
      | c => M.ok (.ret c))
  | .retN => M.ok (.ret (.fz .non))
  | .pass => M.ok .next
  | .brk => M.ok .brk
  | .cnt => M.ok .cnt
  | .nev => M.of none
  | .upd o e => (ev P o).bind fun v => match v with
    | (.fz, .ref l) => (isDic (.fz, .ref l)).bind fun _ => (evR P e).bind fun c => (match c with
      | .own (.dic ks vs) => (changeAt (updD ks vs) (.fz, .ref l)).bind fun _ => M.ok .next
      | _ => M.of none)
    | _ => M.of none
  | .rse c es => (match es with
    | [] => fun s => some (.ex c none, s)
    | e :: _ => (evR P e).bind fun x => fun s => match x with
      | .fz d => some (.ex c (some d), s)
      | _ => none)
  | .tryx c i body suite => fun s => match execs body s with
    | some (.ex c' p, s1) => if xsub c' c then (match execs suite (match i with | some i => { s1 with r := s1.r.set i (some (.fz (.exo c' p.toList))) } | none => s1) with
        | some (.ok f, s2) => some (.ok f, (match i with | some i => { s2 with r := s2.r.set i none } | none => s2))
        | _ => none) else some (.ex c' p, s1)
    | r => r
def execs : List St → M Fl
  | [] => M.ok .next
  | s :: ss => (exec s).bind fun f => match f with
    | .next => execs ss
    | f => M.ok f
end
/-! what a def does: m slots in all -/
def denB (m : Nat) (body : List St) : Den := fun cs S =>
  match execs P n body ⟨cs.map some ++ List.replicate (m - cs.length) none, S⟩ with
  | some (.ok (.ret c), s') => some (.ok c, s'.S)
  | some (.ok .next, s') => some (.ok (.fz .non), s'.S)
  | some (.ex c p, s') => some (.ex c p, s'.S)
  | _ => none
end

end Lk

namespace Lk
open PySem L2

/-! ### what data an address holds -/
/-! whose an address is: frozen; a boxed thing's; a field's own list; such a list, locked (e: by a caller); a slot's own list; such a list, locked; the caller's -/
inductive Role where
  | fro | box (l : Nat) | fld (l k : Nat) | rdf (e : Bool) (l k : Nat) | slot (i : Nat) | rds (i : Nat) | brw
structure Wd where
  g : Addr → Option Role
  i : Nat → Addr
  H : Hp
  k : Nat → Nat → Option Addr

/-! a list, a tuple of the module itself -/
def KL (K : PySem.W.Frag) (a : Addr) (xs : List V) : Prop :=
  ∃ (o : PySem.Obj) (its : Array Value) (n : Nat), K.lookup a = some o ∧ o.cls = .type "list" ∧ o.dict = none ∧ o.data = .seq its n ∧ its.size ≤ sizeLine ∧ Vals xs its.toList
def KT (K : PySem.W.Frag) (a : Addr) (xs : List V) : Prop :=
  ∃ (o : PySem.Obj) (its : Array Value) (n : Nat), K.lookup a = some o ∧ o.cls = .type "tuple" ∧ o.dict = none ∧ o.data = .seq its n ∧ its.size ≤ sizeLine ∧ Vals xs its.toList
theorem KL.sq {K : PySem.W.Frag} {H : Hp} {a : Addr} {xs : List V} (h : KL K a xs) : SqL K H a xs := .inr h
theorem KT.nd {K : PySem.W.Frag} {a : Addr} {xs : List V} (h : KT K a xs) : ∃ (o : PySem.Obj) (its : Array Value) (n : Nat), K.lookup a = some o ∧ o.cls = .type "tuple" ∧ o.data = .seq its n ∧ its.size ≤ sizeLine ∧ Vals xs its.toList := by
  obtain ⟨o, its, n, h1, h2, _, h3, h4, h5⟩ := h
  exact ⟨o, its, n, h1, h2, h3, h4, h5⟩
theorem KT.sq {K : PySem.W.Frag} {H : Hp} {a : Addr} {xs : List V} (h : KT K a xs) : SqT K H a xs := by
  obtain ⟨o, its, n, h1, h2, _, h3, h4, h5⟩ := h
  exact .inr ⟨o, its, n, h1, h2, h3, h4, h5⟩

/-! the written part: its constants' addresses are known by it; classes -/
structure Gm where
  K : PySem.W.Frag
  w : World
  C : Nat → Addr
  E : Nat → Addr
  fl : Nat → List Str
/-! a dict of the module itself, its keys texts -/
def KDc (K : PySem.W.Frag) (w : World) (a : Addr) (ks : List D) (vs : List V) : Prop :=
  ∃ es n, K.lookup a = some ⟨.type "dict", none, .dict es n, #[]⟩ ∧ PySem.W.KeysLit w.params es.toList ∧ (a == sysModules) = false ∧ ks.length = vs.length ∧ ks ≠ [] ∧
    (∀ (j : Nat) k, ks[j]? = some k → ∃ x v u, k = .str x ∧ vs[j]? = some v ∧ PySem.W.nsIn K a x = some (some u) ∧ RelV v u) ∧ ∀ x : Str, (∀ k ∈ ks, k ≠ .str x) → PySem.W.nsIn K a x = some none

def keyD : Key → D
  | .inl i => .int i
  | .inr x => .str x

/-! an exception's object: its class, its own dict -/
def ExB (cls : Value) (d : Option Addr) (a : Addr) : HO := .ext fun h => ∃ (oe : PySem.Obj) (vs : Array Value), h.get? a = some oe ∧ Zc cls d oe ∧ oe.data = .fields vs

/-! a view of the heap: where boxed things stand, what is frozen, which boxed things are there -/
structure Vw where
  i : Nat → Addr
  Z : Addr → Prop
  B : Nat → Prop
  H : Hp

mutual
inductive RZ (G : Gm) (U : Vw) : D → V → Prop
  | non : RZ G U .non .non
  | bl (b : Bool) : RZ G U (.bl b) (.bl b)
  | int (n : Int) : RZ G U (.int n) (.int n)
  | str (x : Str) : RZ G U (.str x) (.str x)
  | ref (l : Nat) : U.B l → RZ G U (.ref l) (.ref (U.i l))
  | cls (c : Nat) : RZ G U (.cls c) (.ref (G.C c))
  | tup {a : Addr} {ds : List D} {vs : List V} : (U.H a = some (.tup vs) ∨ KT G.K a vs) → RZs G U ds vs → RZ G U (.tup ds) (.ref a)
  | lst {a : Addr} {ds : List D} {vs : List V} : ((U.Z a ∧ Rd U.H a (.lst vs)) ∨ KL G.K a vs) → RZs G U ds vs → RZ G U (.lst ds) (.ref a)
  | dic {a : Addr} {ks ds : List D} {kvs : List (Key × V)} : U.Z a → U.H a = some (.dK kvs) → ks = kvs.map (fun p => keyD p.1) → RZs G U ds (kvs.map (·.2)) → RZ G U (.dic ks ds) (.ref a)
  | kdic {a : Addr} {ks ds : List D} {vs : List V} : KDc G.K G.w a ks vs → RZs G U ds vs → RZ G U (.dic ks ds) (.ref a)
  | exo0 {c : Nat} {a : Addr} : U.Z a → U.H a = some (ExB (.ref (G.E c)) none a) → RZ G U (.exo c []) (.ref a)
  | exo1 {c : Nat} {a x : Addr} {d : D} {v : V} : U.Z a → U.H a = some (ExB (.ref (G.E c)) (some x) a) → U.Z x → U.H x = some (.xd [(("row" : Str), v)]) → RZ G U d v → RZ G U (.exo c [d]) (.ref a)
inductive RZs (G : Gm) (U : Vw) : List D → List V → Prop
  | nil : RZs G U [] []
  | cons {d : D} {v : V} {ds : List D} {vs : List V} : RZ G U d v → RZs G U ds vs → RZs G U (d :: ds) (v :: vs)
end

section
variable {G : Gm} {U U' : Vw}
theorem RZs.length : ∀ {ds : List D} {vs : List V}, RZs G U ds vs → ds.length = vs.length
  | _, _, .nil => rfl
  | _, _, .cons _ t => congrArg (· + 1) (RZs.length t)
theorem RZs.get : ∀ {ds : List D} {vs : List V} {j : Nat} {d : D}, RZs G U ds vs → ds[j]? = some d → ∃ v, vs[j]? = some v ∧ RZ G U d v
  | _, _, _, _, .nil, h => by simp at h
  | _, _, 0, _, .cons r _, h => by simp at h; subst h; exact ⟨_, rfl, r⟩
  | _, _, j + 1, _, .cons _ t, h => by
    obtain ⟨v, h1, h2⟩ := RZs.get (j := j) t (by simpa using h)
    exact ⟨v, by simpa using h1, h2⟩
theorem RZs.get' : ∀ {ds : List D} {vs : List V} {j : Nat} {v : V}, RZs G U ds vs → vs[j]? = some v → ∃ d, ds[j]? = some d ∧ RZ G U d v
  | _, _, _, _, .nil, h => by simp at h
  | _, _, 0, _, .cons r _, h => by simp at h; subst h; exact ⟨_, rfl, r⟩
  | _, _, j + 1, _, .cons _ t, h => by
    obtain ⟨v, h1, h2⟩ := RZs.get' (j := j) t (by simpa using h)
    exact ⟨v, by simpa using h1, h2⟩
theorem RZs.append : ∀ {ds es : List D} {vs ws : List V}, RZs G U ds vs → RZs G U es ws → RZs G U (ds ++ es) (vs ++ ws)
  | _, _, _, _, .nil, s => s
  | _, _, _, _, .cons r t, s => .cons r (RZs.append t s)
theorem RZs.set : ∀ {ds : List D} {vs : List V} (j : Nat) {d : D} {v : V}, RZs G U ds vs → RZ G U d v → RZs G U (ds.set j d) (vs.set j v)
  | _, _, _, _, _, .nil, _ => .nil
  | _, _, 0, _, _, .cons _ t, r => .cons r t
  | _, _, j + 1, _, _, .cons q t, r => .cons q (RZs.set j t r)
theorem RZs.take : ∀ {ds : List D} {vs : List V} (n : Nat), RZs G U ds vs → RZs G U (ds.take n) (vs.take n)
  | _, _, 0, _ => .nil
  | _, _, _ + 1, .nil => .nil
  | _, _, n + 1, .cons r t => .cons r (RZs.take n t)
theorem RZs.drop : ∀ {ds : List D} {vs : List V} (n : Nat), RZs G U ds vs → RZs G U (ds.drop n) (vs.drop n)
  | _, _, 0, r => r
  | _, _, _ + 1, .nil => .nil
  | _, _, n + 1, .cons _ t => RZs.drop n t
theorem RZs.reverse : ∀ {ds : List D} {vs : List V}, RZs G U ds vs → RZs G U ds.reverse vs.reverse
  | _, _, .nil => .nil
  | _, _, .cons r t => by rw [List.reverse_cons, List.reverse_cons]; exact (RZs.reverse t).append (.cons r .nil)
theorem RZs.eraseIdx : ∀ {ds : List D} {vs : List V} (j : Nat), RZs G U ds vs → RZs G U (ds.eraseIdx j) (vs.eraseIdx j)
  | _, _, _, .nil => .nil
  | _, _, 0, .cons _ t => t
  | _, _, j + 1, .cons r t => .cons r (RZs.eraseIdx j t)
theorem RZs.dropLast : ∀ {ds : List D} {vs : List V}, RZs G U ds vs → RZs G U ds.dropLast vs.dropLast
  | _, _, .nil => .nil
  | _, _, .cons _ .nil => .nil
  | _, _, .cons r (.cons r2 t) => .cons r (RZs.dropLast (.cons r2 t))
theorem RZs.rep {ds : List D} {vs : List V} (h : RZs G U ds vs) : ∀ k : Nat, RZs G U (List.replicate k ds).flatten (List.replicate k vs).flatten
  | 0 => .nil
  | k + 1 => by rw [List.replicate_succ, List.replicate_succ, List.flatten_cons, List.flatten_cons]; exact h.append (RZs.rep h k)
theorem RZs.ints : ∀ {ds : List D} {vs : List V} {ns : List Int}, RZs G U ds vs → intsOf ds = some ns → vs = ns.map V.int
  | _, _, _, .nil, h => by simp [intsOf] at h; subst h; rfl
  | _, _, _, .cons (d := d) (ds := ds) r t, h => by
    cases r <;> simp [intsOf] at h
    obtain ⟨ms, h1, h2⟩ := h
    subst h2
    rw [RZs.ints t h1]; rfl
theorem RZs.bls : ∀ {ds : List D} {vs : List V} {ns : List Bool}, RZs G U ds vs → blsOf ds = some ns → vs = ns.map V.bl
  | _, _, _, .nil, h => by simp [blsOf] at h; subst h; rfl
  | _, _, _, .cons (d := d) (ds := ds) r t, h => by
    cases r <;> simp [blsOf] at h
    obtain ⟨ms, h1, h2⟩ := h
    subst h2
    rw [RZs.bls t h1]; rfl

/-! what stays of data when the heap goes on -/
structure Stay (U U' : Vw) : Prop where
  io : ∀ l, U.B l → U'.i l = U.i l ∧ U'.B l
  tup : ∀ a vs, U.H a = some (.tup vs) → U'.H a = some (.tup vs)
  z : ∀ a o, U.Z a → U.H a = some o → U'.Z a ∧ U'.H a = some o
theorem Stay.refl : Stay U U := ⟨fun _ h => ⟨rfl, h⟩, fun _ _ h => h, fun _ _ h e => ⟨h, e⟩⟩
mutual
theorem RZ.stay (y : Stay U U') : ∀ {d : D} {v : V}, RZ G U d v → RZ G U' d v
  | _, _, .non => .non
  | _, _, .bl b => .bl b
  | _, _, .int n => .int n
  | _, _, .str x => .str x
  | _, _, .cls c => .cls c
  | _, _, .ref l h => by
    obtain ⟨e, b⟩ := y.io l h
    rw [← e]
    exact .ref l b
  | _, _, .tup h r => .tup (h.imp (y.tup _ _) id) (RZs.stay y r)
  | _, _, .lst h r => .lst (h.imp (fun ⟨z, q⟩ => by
      rcases q with q | ⟨o, q⟩
      · exact ⟨(y.z _ _ z q).1, .inl (y.z _ _ z q).2⟩
      · exact ⟨(y.z _ _ z q).1, .inr ⟨o, (y.z _ _ z q).2⟩⟩) id) (RZs.stay y r)
  | _, _, .dic z h e r => .dic (y.z _ _ z h).1 (y.z _ _ z h).2 e (RZs.stay y r)
  | _, _, .kdic h r => .kdic h (RZs.stay y r)
  | _, _, .exo0 z h => .exo0 (y.z _ _ z h).1 (y.z _ _ z h).2
  | _, _, .exo1 z h z2 h2 r => .exo1 (y.z _ _ z h).1 (y.z _ _ z h).2 (y.z _ _ z2 h2).1 (y.z _ _ z2 h2).2 (RZ.stay y r)
theorem RZs.stay (y : Stay U U') : ∀ {ds : List D} {vs : List V}, RZs G U ds vs → RZs G U' ds vs
  | _, _, .nil => .nil
  | _, _, .cons r t => .cons (RZ.stay y r) (RZs.stay y t)
end
/-! what has no lists is the same in every view -/
structure Same0 (U U' : Vw) : Prop where
  io : ∀ l, U.B l → U'.i l = U.i l ∧ U'.B l
  tup : ∀ a vs, U.H a = some (.tup vs) → U'.H a = some (.tup vs)
mutual
theorem RZ.flat (y : Same0 U U') : ∀ {d : D} {v : V}, RZ G U d v → flat d = true → RZ G U' d v
  | _, _, .non, _ => .non
  | _, _, .bl b, _ => .bl b
  | _, _, .int n, _ => .int n
  | _, _, .str x, _ => .str x
  | _, _, .cls c, _ => .cls c
  | _, _, .ref l h, _ => by
    obtain ⟨e, b⟩ := y.io l h
    rw [← e]
    exact .ref l b
  | _, _, .tup h r, q => .tup (h.imp (y.tup _ _) id) (RZs.flat y r (by simpa [Lk.flat] using q))
  | _, _, .lst _ _, q => by simp [Lk.flat] at q
  | _, _, .dic _ _ _ _, q => by simp [Lk.flat] at q
  | _, _, .kdic _ _, q => by simp [Lk.flat] at q
  | _, _, .exo0 _ _, q => by simp [Lk.flat] at q
  | _, _, .exo1 _ _ _ _ _, q => by simp [Lk.flat] at q
theorem RZs.flat (y : Same0 U U') : ∀ {ds : List D} {vs : List V}, RZs G U ds vs → flats ds = true → RZs G U' ds vs
  | _, _, .nil, _ => .nil
  | _, _, .cons r t, q => by
    simp [flats] at q
    exact .cons (RZ.flat y r q.1) (RZs.flat y t q.2)
end
end

/-! ### views of a world -/
def Wd.B (W : Wd) (l : Nat) : Prop := W.g (W.i l) = some (.box l)
abbrev Wd.fz (W : Wd) : Vw := ⟨W.i, fun a => W.g a = some .fro, W.B, W.H⟩
def readP : Option Role → Prop
  | some .fro => True
  | some .brw => True
  | some (.rdf true _ _) => True
  | _ => False
def readB : Option Role → Prop
  | some .fro => True
  | some .brw => True
  | some (.rdf _ _ _) => True
  | _ => False
/-! what the frame may read: its arguments; and what is locked here -/
abbrev Wd.bp (W : Wd) : Vw := ⟨W.i, fun a => readP (W.g a), W.B, W.H⟩

/-! a list or dict of frozen things at an address -/
inductive LR (G : Gm) (W : Wd) : D → Addr → Prop
  | lst {a : Addr} {ds : List D} {vs : List V} : W.H a = some (.lst vs) → RZs G W.fz ds vs → LR G W (.lst ds) a
  | dic {a : Addr} {ks ds : List D} {kvs : List (Key × V)} : W.H a = some (.dK kvs) → ks = kvs.map (fun p => keyD p.1) → RZs G W.fz ds (kvs.map (·.2)) → LR G W (.dic ks ds) a

def FldR (G : Gm) (W : Wd) (l k : Nat) : Cell → V → Prop
  | .fz d, v => RZ G W.fz d v
  | .own d, v => ∃ a, v = .ref a ∧ W.g a = some (.fld l k) ∧ LR G W d a
  | .rd d, v => ∃ a e, v = .ref a ∧ W.g a = some (.rdf e l k) ∧ LR G W d a ∧ W.k l (k + 1) = some a
  | .br _, _ => False
def SltR (G : Gm) (W : Wd) (i : Nat) : Cell → V → Prop
  | .fz d, v => RZ G W.fz d v
  | .own d, v => ∃ a, v = .ref a ∧ W.g a = some (.slot i) ∧ LR G W d a
  | .rd d, v => ∃ a, v = .ref a ∧ W.g a = some (.rds i) ∧ LR G W d a ∧ W.k i 0 = some a
  | .br d, v => RZ G W.bp d v
def ObjR (G : Gm) (W : Wd) (l : Nat) : Obj → Prop
  | .ins c fs => ∃ dx vs, W.H (W.i l) = some (.ins (G.C c) dx ((G.fl c).zip vs)) ∧ vs.length = fs.length ∧ fs.length ≤ (G.fl c).length ∧ ∀ k x v, fs[k]? = some x → vs[k]? = some v → FldR G W l k x v
  | .bls ds => ∃ vs, W.H (W.i l) = some (.lst vs) ∧ RZs G W.fz ds vs
  | .bdi ks ds => ∃ kvs : List (Key × V), W.H (W.i l) = some (.dK kvs) ∧ ks = kvs.map (fun p => keyD p.1) ∧ RZs G W.fz ds (kvs.map (·.2))
/-! the boxed things -/
structure Rel (G : Gm) (W : Wd) (S : Sto) : Prop where
  box : ∀ l o, S[l]? = some o → W.B l ∧ ObjR G W l o
  top : ∀ l, S.length ≤ l → ¬ W.B l
  trk : ∀ a r, W.g a = some r → ∃ o, W.H a = some o
/-! a frame -/
structure Fr (G : Gm) (W : Wd) (s : Stt) (t : L2.St) : Prop where
  rel : Rel G W s.S
  len : s.r.length = t.length
  slt : ∀ i c, s.r[i]? = some (some c) → ∃ v, t[i]? = some (some v) ∧ SltR G W i c v

/-! ### going on -/
/-! what may be changed by others: boxed things, fields' lists; b: slots' lists, too -/
def mutR (b : Bool) : Option Role → Prop
  | some (.box _) => True
  | some (.fld _ _) => True
  | some (.slot _) => b = true
  | _ => False
def stabR : Option Role → Prop
  | some (.fld _ _) => False
  | some (.slot _) => False
  | _ => True
structure Evo (b : Bool) (W W' : Wd) : Prop where
  io : ∀ l, W.B l → W'.i l = W.i l
  tup : ∀ a vs, W.H a = some (.tup vs) → W'.H a = some (.tup vs)
  keep : ∀ a o, W.H a = some o → ¬ mutR b (W.g a) → W'.H a = some o
  role : ∀ a o, W.H a = some o → stabR (W.g a) → W'.g a = W.g a
  slot : b = false → ∀ a i, W.g a = some (.slot i) → W'.g a = some (.slot i) ∨ W'.g a = some .fro
  there : ∀ a o, W.H a = some o → ∃ o', W'.H a = some o'
  lk : ∀ l k a, W.k l k = some a → W'.k l k = some a
  fld : ∀ a l k, W.g a = some (.fld l k) → W'.g a = some (.fld l k) ∨ W'.g a = some .fro
end Lk

namespace Lk
open PySem L2

/-! ### how worlds go on -/
section
variable {G : Gm} {b : Bool} {W W' W'' : Wd} {S S' : Sto} {s s' : Stt} {t : L2.St} {a : Addr} {d : D} {v : V}
theorem Evo.refl : Evo b W W := ⟨fun _ _ => rfl, fun _ _ h => h, fun _ _ h _ => h, fun _ _ _ _ => rfl, fun _ _ _ h => .inl h, fun _ o h => ⟨o, h⟩, fun _ _ _ h => h, fun _ _ _ h => .inl h⟩
theorem Evo.trans (x : Evo b W W') (y : Evo b W' W'') (tr : ∀ a r, W.g a = some r → ∃ o, W.H a = some o) : Evo b W W'' := by
  have bo : ∀ l, W.B l → W'.B l := fun l h => by
    obtain ⟨o, ho⟩ := tr _ _ h
    have := x.role _ _ ho (by rw [h]; trivial)
    show W'.g (W'.i l) = _
    rw [x.io l h, this]; exact h
  refine ⟨fun l h => (y.io l (bo l h)).trans (x.io l h), fun a vs h => y.tup _ _ (x.tup _ _ h), fun a o h m => ?_, fun a o h q => ?_, fun hb a i h => ?_, fun a o h => ?_, fun l k a h => y.lk _ _ _ (x.lk _ _ _ h), fun a l k h => ?_⟩
  · refine y.keep a o (x.keep a o h m) ?_
    by_cases q : stabR (W.g a)
    · rw [x.role a o h q]; exact m
    · cases e : W.g a with
      | none => rw [e] at q; exact absurd trivial q
      | some r =>
        cases r with
        | fld l k => rw [e] at m; exact absurd trivial m
        | slot i =>
          cases b with
          | true => rw [e] at m; exact absurd rfl m
          | false =>
            rcases x.slot rfl a i e with z | z
            · rw [z]; intro z'; cases z'
            · rw [z]; intro z'; cases z'
        | _ => rw [e] at q; exact absurd trivial q
  · obtain ⟨o', h'⟩ := x.there a o h
    have e := x.role a o h q
    rw [← e]
    exact y.role a o' h' (by rw [e]; exact q)
  · subst hb
    obtain ⟨o, ho⟩ := tr _ _ h
    obtain ⟨o', ho'⟩ := x.there a o ho
    rcases x.slot rfl a i h with z | z
    · exact y.slot rfl a i z
    · refine .inr ?_
      rw [y.role a o' ho' (by rw [z]; trivial)]; exact z
  · obtain ⟨o', h'⟩ := x.there a o h
    exact y.there a o' h'
  · rcases x.fld a l k h with z | z
    · exact y.fld a l k z
    · obtain ⟨o, ho⟩ := tr _ _ h
      obtain ⟨o', ho'⟩ := x.there a o ho
      exact .inr ((y.role a o' ho' (by rw [z]; trivial)).trans z)
theorem Evo.weak (x : Evo false W W') : Evo true W W' := ⟨x.io, x.tup, fun a o h m => x.keep a o h fun z => m (by
    revert z
    cases W.g a with
    | none => exact id
    | some r => cases r <;> simp [mutR]), x.role, fun h => (by cases h), x.there, x.lk, x.fld⟩
theorem Evo.box (x : Evo b W W') (tr : ∀ a r, W.g a = some r → ∃ o, W.H a = some o) {l : Nat} (h : W.B l) : W'.i l = W.i l ∧ W'.B l := by
  obtain ⟨o, ho⟩ := tr _ _ h
  refine ⟨x.io l h, ?_⟩
  show W'.g (W'.i l) = _
  rw [x.io l h, x.role _ _ ho (by rw [h]; trivial)]; exact h
theorem Evo.fz (x : Evo b W W') (tr : ∀ a r, W.g a = some r → ∃ o, W.H a = some o) : Stay W.fz W'.fz :=
  ⟨fun l h => x.box tr h, x.tup, fun a o z h => ⟨(x.role a o h (by rw [show W.g a = _ from z]; trivial)).trans z, x.keep a o h (by rw [show W.g a = _ from z]; exact id)⟩⟩
theorem readP_stab {r : Option Role} (h : readP r) : stabR r := by
  cases r with
  | none => trivial
  | some r => cases r <;> first | trivial | exact h.elim
theorem readP_mut {r : Option Role} (h : readP r) : ¬ mutR b r := by
  cases r with
  | none => exact id
  | some r => cases r <;> first | exact id | exact h.elim
theorem Evo.bp (x : Evo b W W') (tr : ∀ a r, W.g a = some r → ∃ o, W.H a = some o) : Stay W.bp W'.bp :=
  ⟨fun l h => x.box tr h, x.tup, fun a o z h => ⟨by show readP (W'.g a); rw [x.role a o h (readP_stab z)]; exact z, x.keep a o h (readP_mut z)⟩⟩
theorem Evo.s0 (x : Evo b W W') (tr : ∀ a r, W.g a = some r → ∃ o, W.H a = some o) : Same0 W.bp W'.fz := ⟨fun l h => x.box tr h, x.tup⟩
theorem LR.evo (x : Evo b W W') (tr : ∀ a r, W.g a = some r → ∃ o, W.H a = some o) (h : LR G W d a) (m : ¬ mutR b (W.g a)) : LR G W' d a := by
  cases h with
  | lst e r => exact .lst (x.keep _ _ e m) (r.stay (x.fz tr))
  | dic e k r => exact .dic (x.keep _ _ e m) k (r.stay (x.fz tr))
theorem LR.stay (y : Stay W.fz W'.fz) (e : W'.H a = W.H a) (h : LR G W d a) : LR G W' d a := by
  cases h with
  | lst q r => exact .lst (e.trans q) (r.stay y)
  | dic q k r => exact .dic (e.trans q) k (r.stay y)
theorem LR.there (h : LR G W d a) : ∃ o, W.H a = some o := by
  cases h with
  | lst q _ => exact ⟨_, q⟩
  | dic q _ _ => exact ⟨_, q⟩
theorem LR.rz (h : LR G W d a) (z : W.g a = some .fro) : RZ G W.fz d (.ref a) := by
  cases h with
  | lst q r => exact .lst (.inl ⟨z, .inl q⟩) r
  | dic q k r => exact .dic z q k r

/-! a role is changed -/
def Wd.sg (W : Wd) (a : Addr) (r : Option Role) : Wd := ⟨fun b => if b = a then r else W.g b, W.i, W.H, W.k⟩
theorem sg_at {r : Option Role} : (W.sg a r).g a = r := if_pos rfl
theorem sg_ne {r : Option Role} {c : Addr} (h : c ≠ a) : (W.sg a r).g c = W.g c := if_neg h
/-! the old role is none of a box, nor frozen -/
def loose : Option Role → Prop
  | some .fro => False
  | some (.box _) => False
  | _ => True
theorem loose_box {l : Nat} (h : loose (W.g a)) (hl : W.B l) : W.i l ≠ a := fun e => by
  have : W.g (W.i l) = _ := hl
  rw [e] at this
  rw [this] at h; exact h
theorem sg_B {r : Option Role} {l : Nat} (h : loose (W.g a)) (hl : W.B l) : (W.sg a r).B l := by
  show (W.sg a r).g (W.i l) = _
  rw [sg_ne (loose_box h hl)]; exact hl
theorem sg_fz {r : Option Role} (h : loose (W.g a)) : Stay W.fz (W.sg a r).fz :=
  ⟨fun l hl => ⟨rfl, sg_B h hl⟩, fun _ _ e => e, fun c o z e => ⟨(sg_ne (fun q => by subst q; rw [show W.g c = _ from z] at h; exact h)).trans z, e⟩⟩
theorem sg_bp {r : Option Role} (h : loose (W.g a)) (h2 : readP (W.g a) → readP r) : Stay W.bp (W.sg a r).bp := by
  refine ⟨fun l hl => ⟨rfl, sg_B h hl⟩, fun _ _ e => e, fun c o z e => ⟨?_, e⟩⟩
  show readP ((W.sg a r).g c)
  by_cases q : c = a
  · subst q; rw [sg_at]; exact h2 z
  · rw [sg_ne q]; exact z
theorem sg_LR {r : Option Role} (h : loose (W.g a)) {c : Addr} (x : LR G W d c) : LR G (W.sg a r) d c := x.stay (sg_fz h) rfl
/-! the boxed things, where the role at a is no field's that is looked at -/
theorem ObjR.stay {l : Nat} {o : Obj} (x : ObjR G W l o) (y : Stay W.fz W'.fz) (hb : W.B l) (e : W'.H (W.i l) = W.H (W.i l))
    (own : ∀ c k v, FldR G W l k c v → FldR G W' l k c v) : ObjR G W' l o := by
  have ei : W'.i l = W.i l := (y.io l hb).1
  cases o with
  | ins c fs =>
    obtain ⟨dx, vs, h1, h2, h3, h4⟩ := x
    exact ⟨dx, vs, by rw [ei, e]; exact h1, h2, h3, fun k x v e1 e2 => own _ _ _ (h4 k x v e1 e2)⟩
  | bls ds =>
    obtain ⟨vs, h1, h2⟩ := x
    exact ⟨vs, by rw [ei, e]; exact h1, h2.stay y⟩
  | bdi ks ds =>
    obtain ⟨kvs, h1, h2, h3⟩ := x
    exact ⟨kvs, by rw [ei, e]; exact h1, h2, h3.stay y⟩
theorem sg_FldR {r : Option Role} {l k : Nat} {c : Cell} (h : loose (W.g a)) (hf : W.g a ≠ some (.fld l k)) (hr : ∀ e, W.g a ≠ some (.rdf e l k)) (x : FldR G W l k c v) : FldR G (W.sg a r) l k c v := by
  cases c with
  | fz d => exact RZ.stay (sg_fz h) x
  | own d =>
    obtain ⟨c, e, g, q⟩ := x
    exact ⟨c, e, (sg_ne (fun z => by subst z; exact hf g)).trans g, sg_LR h q⟩
  | rd d =>
    obtain ⟨c, e', e, g, q, kk⟩ := x
    exact ⟨c, e', e, (sg_ne (fun z => by subst z; exact hr _ g)).trans g, sg_LR h q, kk⟩
  | br d => exact x
theorem sg_SltR {r : Option Role} {i : Nat} {c : Cell} (h : loose (W.g a)) (h2 : readP (W.g a) → readP r) (hf : W.g a ≠ some (.slot i)) (hr : W.g a ≠ some (.rds i)) (x : SltR G W i c v) : SltR G (W.sg a r) i c v := by
  cases c with
  | fz d => exact RZ.stay (sg_fz h) x
  | own d =>
    obtain ⟨c, e, g, q⟩ := x
    exact ⟨c, e, (sg_ne (fun z => by subst z; exact hf g)).trans g, sg_LR h q⟩
  | rd d =>
    obtain ⟨c, e, g, q, kk⟩ := x
    exact ⟨c, e, (sg_ne (fun z => by subst z; exact hr g)).trans g, sg_LR h q, kk⟩
  | br d => exact RZ.stay (sg_bp h h2) x
theorem sg_top {r : Option Role} (h : ∀ l, S.length ≤ l → ¬ W.B l) (hr : ∀ l, r ≠ some (.box l)) : ∀ l, S.length ≤ l → ¬ (W.sg a r).B l := fun l hl z => by
  have z : (W.sg a r).g (W.i l) = _ := z
  by_cases q : W.i l = a
  · rw [q, sg_at] at z; exact hr l z
  · rw [sg_ne q] at z; exact h l hl z
theorem sg_trk {r : Option Role} (h : ∀ a r, W.g a = some r → ∃ o, W.H a = some o) (ha : ∃ o, W.H a = some o) : ∀ c q, (W.sg a r).g c = some q → ∃ o, (W.sg a r).H c = some o := fun c q e => by
  by_cases z : c = a
  · rw [z]; exact ha
  · rw [sg_ne z] at e; exact h c q e

/-! a new thing, with nobody's role, is given one -/
theorem Rel.claim {r : Option Role} (R : Rel G W S) (h : W.g a = none) (ha : ∃ o, W.H a = some o) (hr : ∀ l, r ≠ some (.box l)) : Rel G (W.sg a r) S := by
  have lo : loose (W.g a) := by rw [h]; trivial
  refine ⟨fun l o e => ?_, sg_top R.top hr, sg_trk R.trk ha⟩
  obtain ⟨hb, x⟩ := R.box l o e
  exact ⟨sg_B lo hb, x.stay (sg_fz lo) hb rfl fun c k v q => sg_FldR lo (by rw [h]; intro z; cases z) (fun _ => by rw [h]; intro z; cases z) q⟩
theorem Fr.claim {r : Option Role} (R : Fr G W s t) (h : W.g a = none) (ha : ∃ o, W.H a = some o) (hr : ∀ l, r ≠ some (.box l)) : Fr G (W.sg a r) s t := by
  have lo : loose (W.g a) := by rw [h]; trivial
  refine ⟨R.rel.claim h ha hr, R.len, fun i c e => ?_⟩
  obtain ⟨v, e1, x⟩ := R.slt i c e
  exact ⟨v, e1, sg_SltR lo (by rw [h]; exact False.elim) (by rw [h]; intro z; cases z) (by rw [h]; intro z; cases z) x⟩
/-! what was not there may be given any role -/
theorem Evo.claim {r : Option Role} (x : Evo b W W') (h : W.H a = none) (tr : ∀ a r, W.g a = some r → ∃ o, W.H a = some o) : Evo b W (W'.sg a r) := by
  have ne : ∀ {c o}, W.H c = some o → c ≠ a := fun {c o} e z => by subst z; rw [h] at e; cases e
  refine ⟨x.io, x.tup, x.keep, fun c o e q => (sg_ne (ne e)).trans (x.role c o e q), fun hb c i e => ?_, x.there, x.lk, fun c l k e => ?_⟩
  · obtain ⟨o, ho⟩ := tr _ _ e
    rw [sg_ne (ne ho)]
    exact x.slot hb c i e
  · obtain ⟨o, ho⟩ := tr _ _ e
    rw [sg_ne (ne ho)]
    exact x.fld c l k e

/-! a new object, of nobody -/
def Wd.nw (W : Wd) (a : Addr) (o : HO) : Wd := ⟨W.g, W.i, upd W.H a o, W.k⟩
theorem nw_evo {o : HO} (h : W.H a = none) : Evo b W (W.nw a o) :=
  ⟨fun _ _ => rfl, fun c vs e => (upd_ne (ne_of_none e h)).trans e, fun c o e _ => (upd_ne (ne_of_none e h)).trans e, fun _ _ _ _ => rfl, fun _ _ _ e => .inl e, fun c o e => ⟨o, (upd_ne (ne_of_none e h)).trans e⟩, fun _ _ _ e => e, fun _ _ _ e => .inl e⟩
theorem Rel.evo (R : Rel G W S) (x : Evo b W W') (hg : W'.g = W.g) (hi : W'.i = W.i) (hH : ∀ a o, W.H a = some o → W'.H a = some o) : Rel G W' S := by
  have ty := x.fz R.trk
  refine ⟨fun l o e => ?_, fun l hl z => R.top l hl (by have z : W'.g (W'.i l) = _ := z; rw [hg, hi] at z; exact z), fun a r e => ?_⟩
  · obtain ⟨hb, q⟩ := R.box l o e
    obtain ⟨u, hu⟩ := R.trk _ _ hb
    refine ⟨(x.box R.trk hb).2, q.stay ty hb (by rw [hH _ _ hu, hu]) fun c k v z => ?_⟩
    cases c with
    | fz d => exact RZ.stay ty z
    | own d =>
      obtain ⟨c, e1, g, w⟩ := z
      obtain ⟨u2, hu2⟩ := w.there
      exact ⟨c, e1, by rw [hg]; exact g, w.stay ty (by rw [hH _ _ hu2, hu2])⟩
    | rd d =>
      obtain ⟨c, e', e1, g, w, kk⟩ := z
      obtain ⟨u2, hu2⟩ := w.there
      exact ⟨c, e', e1, by rw [hg]; exact g, w.stay ty (by rw [hH _ _ hu2, hu2]), x.lk _ _ _ kk⟩
    | br d => exact z
  · rw [hg] at e
    obtain ⟨o, ho⟩ := R.trk a r e
    exact ⟨o, hH a o ho⟩
theorem Fr.evo (R : Fr G W s t) (x : Evo b W W') (hg : W'.g = W.g) (hi : W'.i = W.i) (hH : ∀ a o, W.H a = some o → W'.H a = some o) : Fr G W' s t := by
  have ty := x.fz R.rel.trk
  refine ⟨R.rel.evo x hg hi hH, R.len, fun i c e => ?_⟩
  obtain ⟨v, e1, z⟩ := R.slt i c e
  refine ⟨v, e1, ?_⟩
  cases c with
  | fz d => exact RZ.stay ty z
  | own d =>
    obtain ⟨c, e1, g, w⟩ := z
    obtain ⟨u2, hu2⟩ := w.there
    exact ⟨c, e1, by rw [hg]; exact g, w.stay ty (by rw [hH _ _ hu2, hu2])⟩
  | rd d =>
    obtain ⟨c, e1, g, w, kk⟩ := z
    obtain ⟨u2, hu2⟩ := w.there
    exact ⟨c, e1, by rw [hg]; exact g, w.stay ty (by rw [hH _ _ hu2, hu2]), x.lk _ _ _ kk⟩
  | br d => exact RZ.stay (x.bp R.rel.trk) z
theorem nw_keep {o : HO} (h : W.H a = none) : ∀ c u, W.H c = some u → (W.nw a o).H c = some u := fun c u e => (upd_ne (ne_of_none e h)).trans e
theorem Fr.nw {o : HO} (R : Fr G W s t) (h : W.H a = none) : Fr G (W.nw a o) s t := R.evo (b := false) (nw_evo h) rfl rfl (nw_keep h)
theorem Rel.nw {o : HO} (R : Rel G W S) (h : W.H a = none) : Rel G (W.nw a o) S := R.evo (b := false) (nw_evo h) rfl rfl (nw_keep h)
theorem Rel.free (R : Rel G W S) (h : W.H a = none) : W.g a = none := by
  cases e : W.g a with
  | none => rfl
  | some r =>
    obtain ⟨o, ho⟩ := R.trk a r e
    rw [h] at ho; cases ho
end
end Lk

namespace Lk
open PySem L2

/-! ### values by their modes -/
def Wd.vw (W : Wd) (p : Bool) : Vw := if p then W.bp else W.fz
/-! the list or dict at a, its things as p says -/
inductive LP (G : Gm) (W : Wd) (p : Bool) : D → Addr → Prop
  | lst {a : Addr} {ds : List D} {vs : List V} : W.H a = some (.lst vs) → RZs G (W.vw p) ds vs → LP G W p (.lst ds) a
  | dic {a : Addr} {ks ds : List D} {kvs : List (Key × V)} : W.H a = some (.dK kvs) → ks = kvs.map (fun p => keyD p.1) → RZs G (W.vw p) ds (kvs.map (·.2)) → LP G W p (.dic ks ds) a
/-! what may be read now, its things as p says -/
def TZ (G : Gm) (W : Wd) (p : Bool) (d : D) (v : V) : Prop := RZ G (W.vw p) d v ∨ ∃ a, v = .ref a ∧ LP G W p d a
/-! what a built-in made from W on -/
def isL : D → Bool
  | .lst _ => true
  | .dic _ _ => true
  | _ => false
def NewR (G : Gm) (W W' : Wd) (p : Bool) (d : D) (v : V) : Prop := (isL d = false ∧ RZ G (W'.vw p) d v) ∨ ∃ a, v = .ref a ∧ W.H a = none ∧ LP G W' p d a

def FldAt (W : Wd) (l k : Nat) (v : V) : Prop := ∃ C dx fs, W.H (W.i l) = some (.ins C dx fs) ∧ (fs[k]?).map (·.2) = some v
def slR (i : Nat) : Option Role → Prop
  | some (.slot j) => j = i
  | some (.rds j) => j = i
  | some .fro => True
  | _ => False
def PlR (G : Gm) (W : Wd) (t : L2.St) : Md → D → V → Prop
  | .fz, d, v => RZ G W.fz d v
  | .bp, d, v => RZ G W.bp d v
  | .sl i, d, v => t[i]? = some (some v) ∧ ∃ a, v = .ref a ∧ slR i (W.g a) ∧ LR G W d a
  | .fl l k, d, v => FldAt W l k v ∧ ∃ a, v = .ref a ∧ LR G W d a
def CelR (G : Gm) (W W' : Wd) : Cell → V → Prop
  | .fz d, v => RZ G W'.fz d v
  | .own d, v => ∃ a, v = .ref a ∧ W'.g a = none ∧ LR G W' d a ∧ W.H a = none
  | .br d, v => RZ G W'.bp d v
  | .rd _, _ => False
def VlR (G : Gm) (W W' : Wd) (t : L2.St) : Vl → V → Prop
  | .pl m d, v => PlR G W' t m d v
  | .nw c, v => CelR G W W' c v

section
variable {G : Gm} {W W' W'' : Wd} {S : Sto} {s : Stt} {t : L2.St} {p : Bool} {d : D} {v : V} {a : Addr} {m : Md}
theorem fz_bp : Stay W.fz W.bp := ⟨fun l h => ⟨rfl, h⟩, fun _ _ e => e, fun a o z e => ⟨by show readP (W.g a); rw [show W.g a = _ from z]; trivial, e⟩⟩
theorem fz_vw : Stay W.fz (W.vw p) := by
  cases p
  · exact .refl
  · exact fz_bp
theorem vw_flat (h : RZ G (W.vw p) d v) (f : flat d = true) : RZ G W.fz d v := by
  cases p
  · exact h
  · exact RZ.flat (U := W.bp) (U' := W.fz) ⟨fun l h => ⟨rfl, h⟩, fun _ _ e => e⟩ h f
theorem vw_bp (h : RZ G (W.vw p) d v) : RZ G W.bp d v := by
  cases p
  · exact h.stay fz_bp
  · exact h
theorem vw_or_l {q : Bool} (h : RZ G (W.vw p) d v) : RZ G (W.vw (p || q)) d v := by
  cases p
  · exact h.stay fz_vw
  · exact h
theorem vws_or_l {q : Bool} {ds : List D} {vs : List V} (h : RZs G (W.vw p) ds vs) : RZs G (W.vw (p || q)) ds vs := by
  cases p
  · exact h.stay fz_vw
  · exact h
theorem vws_or_r {q : Bool} {ds : List D} {vs : List V} (h : RZs G (W.vw p) ds vs) : RZs G (W.vw (q || p)) ds vs := by
  rw [Bool.or_comm]; exact vws_or_l h
theorem LR.lp (h : LR G W d a) : LP G W p d a := by
  cases h with
  | lst e r => exact .lst e (r.stay fz_vw)
  | dic e k r => exact .dic e k (r.stay fz_vw)
theorem LP.lr (h : LP G W false d a) : LR G W d a := by
  cases h with
  | lst e r => exact .lst e r
  | dic e k r => exact .dic e k r
theorem TZ.l {q : Bool} (h : TZ G W p d v) : TZ G W (p || q) d v := by
  rcases h with h | ⟨a, e, h⟩
  · exact .inl (vw_or_l h)
  · refine .inr ⟨a, e, ?_⟩
    cases h with
    | lst e r => exact .lst e (vws_or_l r)
    | dic e k r => exact .dic e k (vws_or_l r)
theorem TZ.r {q : Bool} (h : TZ G W p d v) : TZ G W (q || p) d v := by rw [Bool.or_comm]; exact h.l
theorem PlR.tz (h : PlR G W t m d v) : TZ G W (isBp (m, d)) d v := by
  cases m with
  | fz => exact .inl h
  | bp =>
    unfold isBp
    cases f : flat d with
    | true => exact .inl (vw_flat (p := true) h f)
    | false => exact .inl h
  | sl i => obtain ⟨_, a, e, _, q⟩ := h; exact .inr ⟨a, e, q.lp⟩
  | fl l k => obtain ⟨_, a, e, q⟩ := h; exact .inr ⟨a, e, q.lp⟩
theorem cell_in (h : RZ G (W'.vw p) d v) : CelR G W W' (cellIn p d) v := by
  unfold cellIn
  cases q : (p && !flat d) with
  | true => rw [if_pos rfl]; exact vw_bp h
  | false =>
    rw [if_neg (by simp)]
    cases p with
    | false => exact h
    | true => exact vw_flat h (by simpa using q)

/-! reading -/
theorem TZ.list {ds : List D} (h : TZ G W p (.lst ds) v) : ∃ a vs, v = .ref a ∧ SqL G.K W.H a vs ∧ RZs G (W.vw p) ds vs := by
  rcases h with h | ⟨a, e, h⟩
  · have hv : (W.vw p).H = W.H := by cases p <;> rfl
    cases h with
    | lst q r =>
      rcases q with ⟨_, q⟩ | q
      · exact ⟨_, _, rfl, .inl (by rw [hv] at q; exact q), r⟩
      · exact ⟨_, _, rfl, .inr q, r⟩
  · cases h with
    | lst q r => exact ⟨_, _, e, .inl (.inl q), r⟩
theorem TZ.tuple {ds : List D} (h : TZ G W p (.tup ds) v) : ∃ a vs, v = .ref a ∧ SqT G.K W.H a vs ∧ RZs G (W.vw p) ds vs := by
  rcases h with h | ⟨a, e, h⟩
  · have hv : (W.vw p).H = W.H := by cases p <;> rfl
    cases h with
    | tup q r =>
      rcases q with q | q
      · exact ⟨_, _, rfl, .inl (.inl (by rw [hv] at q; exact q)), r⟩
      · exact ⟨_, _, rfl, q.sq, r⟩
  · cases h
theorem TZ.dict {ks ds : List D} (h : TZ G W p (.dic ks ds) v) : ∃ a, v = .ref a ∧ ((∃ kvs, W.H a = some (.dK kvs) ∧ ks = kvs.map (fun p => keyD p.1) ∧ RZs G (W.vw p) ds (kvs.map (·.2))) ∨ ∃ vs, KDc G.K G.w a ks vs ∧ RZs G (W.vw p) ds vs) := by
  rcases h with h | ⟨a, e, h⟩
  · have hv : (W.vw p).H = W.H := by cases p <;> rfl
    cases h with
    | dic z q k r => exact ⟨_, rfl, .inl ⟨_, by rw [hv] at q; exact q, k, r⟩⟩
    | kdic q r => exact ⟨_, rfl, .inr ⟨_, q, r⟩⟩
  · cases h with
    | dic q k r => exact ⟨_, e, .inl ⟨_, q, k, r⟩⟩
theorem TZ.int {n : Int} (h : TZ G W p (.int n) v) : v = .int n := by
  rcases h with h | ⟨a, e, h⟩ <;> cases h; rfl
theorem TZ.bl {n : Bool} (h : TZ G W p (.bl n) v) : v = .bl n := by
  rcases h with h | ⟨a, e, h⟩ <;> cases h; rfl
theorem TZ.str {n : Str} (h : TZ G W p (.str n) v) : v = .str n := by
  rcases h with h | ⟨a, e, h⟩ <;> cases h; rfl
theorem TZ.non (h : TZ G W p .non v) : v = .non := by
  rcases h with h | ⟨a, e, h⟩ <;> cases h; rfl
end
end Lk

namespace Lk
open PySem L2

section
variable {G : Gm} {W W0 W' W'' : Wd} {S : Sto} {s s' : Stt} {t : L2.St} {p : Bool} {d : D} {v : V} {a : Addr} {m : Md}
theorem M.bind_some {α β : Type} {m : M α} {k : α → M β} {s : Stt} {r : Ou β} {s' : Stt} (h : M.bind m k s = some (r, s')) :
    (∃ v s1, m s = some (.ok v, s1) ∧ k v s1 = some (r, s')) ∨ (∃ c p, m s = some (.ex c p, s') ∧ r = .ex c p) := by
  unfold M.bind at h
  cases e : m s with
  | none => rw [e] at h; cases h
  | some q =>
    obtain ⟨o, s1⟩ := q
    rw [e] at h
    cases o with
    | ok v => exact .inl ⟨v, s1, rfl, h⟩
    | ex c p =>
      cases h
      exact .inr ⟨c, p, rfl, rfl⟩
theorem Evo.hnone (x : Evo b W W') (h : W'.H a = none) : W.H a = none := by
  cases e : W.H a with
  | none => rfl
  | some o =>
    obtain ⟨o', h'⟩ := x.there a o e
    rw [h] at h'; cases h'

theorem RZs.bpv {ds : List D} {vs : List V} (h : RZs G (W.vw p) ds vs) : RZs G W.bp ds vs := by
  cases p
  · exact h.stay fz_bp
  · exact h
/-! a new list is taken up -/
theorem claim_fro (R : Fr G W s t) (h : LR G W d a) (z : W.g a = none) : Fr G (W.sg a (some .fro)) s t ∧ RZ G (W.sg a (some .fro)).fz d (.ref a) := by
  refine ⟨R.claim z h.there (fun l q => by cases q), ?_⟩
  exact (sg_LR (by rw [z]; trivial) h).rz sg_at
theorem LP.there (h : LP G W p d a) : ∃ o, W.H a = some o := by
  cases h with
  | lst q _ => exact ⟨_, q⟩
  | dic q _ _ => exact ⟨_, q⟩
theorem claim_bp (R : Fr G W s t) (h : LP G W p d a) (z : W.g a = none) : Fr G (W.sg a (some .fro)) s t ∧ RZ G (W.sg a (some .fro)).bp d (.ref a) := by
  refine ⟨R.claim z h.there (fun l q => by cases q), ?_⟩
  have y : Stay W.bp (W.sg a (some .fro)).bp := sg_bp (by rw [z]; trivial) (fun _ => trivial)
  have rd : readP ((W.sg a (some .fro)).g a) := by rw [sg_at]; trivial
  cases h with
  | lst q r =>
    exact .lst (.inl ⟨rd, .inl q⟩) ((r.bpv).stay y)
  | dic q k r =>
    exact .dic rd q k ((r.bpv).stay y)
/-! the end of a built-in: what it made becomes a cell -/
theorem fin_new {W1 : Wd} (x : Evo false W0 W1) (y : Evo false W1 W') (tr : ∀ a r, W0.g a = some r → ∃ o, W0.H a = some o) (R : Fr G W' s t) (h : NewR G W1 W' p d v) (hg : ∀ a, W1.H a = Option.none → W'.g a = Option.none) :
    ∃ W2, W2.H = W'.H ∧ Evo false W0 W2 ∧ Fr G W2 s t ∧ CelR G W0 W2 (cellNew p d) v := by
  have xy := x.trans y tr
  unfold cellNew
  rcases h with ⟨nl, h⟩ | ⟨a, e, ha, h⟩
  · have fe : flatL d = flat d := by cases d <;> first | rfl | cases nl
    rw [fe]
    cases q : (p && !flat d) with
    | true =>
      rw [if_pos rfl]
      exact ⟨W', rfl, xy, R, vw_bp h⟩
    | false =>
      rw [if_neg (by simp)]
      have hz : RZ G W'.fz d v := by
        cases p with
        | false => exact h
        | true => exact vw_flat h (by simpa using q)
      refine ⟨W', rfl, xy, R, ?_⟩
      cases d <;> first | exact hz | cases nl
  · subst e
    have hz := hg a ha
    have h0 : W0.H a = Option.none := x.hnone ha
    cases q : (p && !flatL d) with
    | true =>
      rw [if_pos rfl]
      obtain ⟨R2, z⟩ := claim_bp R h hz
      exact ⟨W'.sg a (some .fro), rfl, xy.claim h0 tr, R2, z⟩
    | false =>
      rw [if_neg (by simp)]
      have hl : LR G W' d a := by
        cases p with
        | false => exact h.lr
        | true =>
          have s0 : Same0 W'.bp W'.fz := ⟨fun l h => ⟨rfl, h⟩, fun _ _ e => e⟩
          cases h with
          | lst e r => exact .lst e (RZs.flat s0 r (by simpa [flatL] using q))
          | dic e k r => exact .dic e k (RZs.flat s0 r (by simpa [flatL] using q))
      refine ⟨W', rfl, xy, R, ?_⟩
      cases hl with
      | lst q r => exact ⟨a, rfl, hz, .lst q r, h0⟩
      | dic q k r => exact ⟨a, rfl, hz, .dic q k r, h0⟩

/-! a place's or a new thing's value, to be read -/
theorem asV_ok {vl : Vl} {q : Md × D} (x : Evo false W0 W) (tr : ∀ a r, W0.g a = some r → ∃ o, W0.H a = some o) (R : Fr G W s t) (h : VlR G W0 W t vl v) (e : asV vl s = some (.ok q, s')) :
    s' = s ∧ ∃ W2, W2.H = W.H ∧ Evo false W0 W2 ∧ Fr G W2 s t ∧ PlR G W2 t q.1 q.2 v ∧ ((∀ d, vl ≠ .nw (.own d)) → W2 = W) := by
  cases vl with
  | pl m d =>
    cases e
    exact ⟨rfl, W, rfl, x, R, h, fun _ => rfl⟩
  | nw c =>
    cases c with
    | fz d =>
      cases e
      exact ⟨rfl, W, rfl, x, R, h, fun _ => rfl⟩
    | br d =>
      cases e
      exact ⟨rfl, W, rfl, x, R, h, fun _ => rfl⟩
    | rd d => cases e
    | own d =>
      cases e
      obtain ⟨a, e, z, hl, h0⟩ := h
      subst e
      obtain ⟨R2, r2⟩ := claim_fro R hl z
      exact ⟨rfl, W.sg a (some .fro), rfl, x.claim h0 tr, R2, r2, fun q => absurd rfl (q d)⟩
theorem asV_noex {vl : Vl} {c : Nat} {p : Option D} (e : asV vl s = some (.ex c p, s')) : False := by
  cases vl with
  | pl m d => cases e
  | nw c =>
    cases c <;> cases e

/-! a slot's own list is frozen -/
theorem freeze_slot {i : Nat} (R : Fr G W s t) (e : s.r[i]? = some (some (.own d))) : ∃ a, t[i]? = some (some (.ref a)) ∧ W.g a = some (.slot i) ∧ LR G W d a ∧ Evo false W (W.sg a (some .fro)) ∧ Fr G (W.sg a (some .fro)) { s with r := s.r.set i (some (.fz d)) } t := by
  obtain ⟨v, e1, a, e2, g, l⟩ := R.slt i _ e
  subst e2
  have lo : loose (W.g a) := by rw [g]; trivial
  refine ⟨a, e1, g, l, ⟨fun _ _ => rfl, fun _ _ h => h, fun _ _ h _ => h, fun c o h q => sg_ne (fun z => by subst z; rw [g] at q; exact q), fun _ c j h => ?_, fun c o h => ⟨o, h⟩, fun _ _ _ h => h, fun c l k h => .inl ((sg_ne (fun z => by subst z; rw [g] at h; cases h)).trans h)⟩, ⟨⟨fun l o e => ?_, sg_top R.rel.top (fun l z => by cases z), sg_trk R.rel.trk l.there⟩, by simpa using R.len, fun j c h => ?_⟩⟩
  · by_cases z : c = a
    · subst z; exact .inr sg_at
    · exact .inl ((sg_ne z).trans h)
  · obtain ⟨hb, x⟩ := R.rel.box l o e
    exact ⟨sg_B lo hb, x.stay (sg_fz lo) hb rfl fun c k v q => sg_FldR lo (by rw [g]; intro z; cases z) (fun _ => by rw [g]; intro z; cases z) q⟩
  · by_cases z : j = i
    · subst z
      have hj : j < s.r.length := (List.getElem?_eq_some_iff.mp e).1
      have h : (s.r.set j (some (.fz d)))[j]? = some (some c) := h
      rw [List.getElem?_set_self hj] at h
      cases h
      exact ⟨_, e1, (sg_LR lo l).rz sg_at⟩
    · have h : (s.r.set i (some (.fz d)))[j]? = some (some c) := h
      rw [List.getElem?_set_ne (Ne.symm z)] at h
      obtain ⟨v, e3, x⟩ := R.slt j c h
      exact ⟨v, e3, sg_SltR lo (fun _ => trivial) (by rw [g]; intro q; cases q; exact z rfl) (by rw [g]; intro q; cases q) x⟩
theorem getFld_some {l k : Nat} {c : Cell} (h : getFld l k S = some c) : ∃ cl fs, S[l]? = some (.ins cl fs) ∧ fs[k]? = some c := by
  unfold getFld at h
  split at h
  · exact ⟨_, _, by assumption, h⟩
  · cases h
theorem fld_zip {l k : Nat} {C dx : Addr} {ns : List Str} {vs : List V} (h : W.H (W.i l) = some (.ins C dx (ns.zip vs))) (hk : k < ns.length) (e : vs[k]? = some v) : FldAt W l k v := by
  refine ⟨C, dx, _, h, ?_⟩
  rw [List.getElem?_zip_eq_some (z := (ns[k], v)) |>.mpr ⟨List.getElem?_eq_getElem hk, e⟩]
  rfl
theorem FldAt.uniq {l k : Nat} {v' : V} (h : FldAt W l k v) (h' : FldAt W l k v') : v = v' := by
  obtain ⟨C, dx, fs, e1, e2⟩ := h
  obtain ⟨C', dx', fs', e1', e2'⟩ := h'
  rw [e1] at e1'
  cases e1'
  rw [e2] at e2'
  exact Option.some.inj e2'
/-! a field's cell and its list's role are changed together -/
theorem fld_change {l k : Nat} {c c' : Cell} {r : Option Role} (R : Fr G W s t) (e : getFld l k s.S = some c) (ha : ∃ o, W.H a = some o) (own : W.g a = some (.fld l k) ∨ ∃ e, W.g a = some (.rdf e l k) ∧ r ≠ none)
    (rb : ∀ l, r ≠ some (.box l)) (rp : readP (W.g a) → readP r) (lk : Nat → Nat → Option Addr) (hlk : ∀ l' k', (l', k') ≠ (l, k + 1) → lk l' k' = W.k l' k')
    (new : ∀ v, FldAt W l k v → FldR G W l k c v → FldR G ⟨(W.sg a r).g, W.i, W.H, lk⟩ l k c' v) :
    Fr G ⟨(W.sg a r).g, W.i, W.H, lk⟩ { s with S := setFld l k c' s.S } t := by
  have lo : loose (W.g a) := by
    rcases own with h | ⟨_, h, _⟩ <;> (rw [h]; trivial)
  have nslot : ∀ i, W.g a ≠ some (.slot i) ∧ W.g a ≠ some (.rds i) := fun i => by
    rcases own with h | ⟨_, h, _⟩ <;> (rw [h]; exact ⟨fun z => (by cases z), fun z => (by cases z)⟩)
  obtain ⟨cl, fs, e1, e2⟩ := getFld_some e
  have hl : l < s.S.length := (List.getElem?_eq_some_iff.mp e1).1
  have hk : k < fs.length := (List.getElem?_eq_some_iff.mp e2).1
  have eS : setFld l k c' s.S = s.S.set l (.ins cl (fs.set k c')) := by unfold setFld; rw [e1]
  have yf : Stay W.fz (Wd.fz ⟨(W.sg a r).g, W.i, W.H, lk⟩) := ⟨fun l hl => ⟨rfl, sg_B lo hl⟩, fun _ _ e => e, fun c o z e => ⟨(sg_fz lo).z c o z e |>.1, e⟩⟩
  have yb : Stay W.bp (Wd.bp ⟨(W.sg a r).g, W.i, W.H, lk⟩) := ⟨fun l hl => ⟨rfl, sg_B lo hl⟩, fun _ _ e => e, fun c o z e => ⟨(sg_bp lo rp).z c o z e |>.1, e⟩⟩
  have other : ∀ l' k' c v, (l', k') ≠ (l, k) → FldR G W l' k' c v → FldR G ⟨(W.sg a r).g, W.i, W.H, lk⟩ l' k' c v := fun l' k' c v ne x => by
    have n1 : W.g a ≠ some (.fld l' k') := fun z => by
      rcases own with h | ⟨_, h, _⟩
      · rw [h] at z; cases z; exact ne rfl
      · rw [h] at z; cases z
    have n2 : ∀ e, W.g a ≠ some (.rdf e l' k') := fun e z => by
      rcases own with h | ⟨_, h, _⟩
      · rw [h] at z; cases z
      · rw [h] at z; cases z; exact ne rfl
    cases c with
    | fz d => exact RZ.stay yf x
    | own d =>
      obtain ⟨c, e, g, q⟩ := x
      exact ⟨c, e, (sg_ne (fun z => by subst z; exact n1 g)).trans g, q.stay yf rfl⟩
    | rd d =>
      obtain ⟨c, e', e, g, q, kk⟩ := x
      exact ⟨c, e', e, (sg_ne (fun z => by subst z; exact n2 _ g)).trans g, q.stay yf rfl, (hlk l' (k' + 1) (fun z => ne (by cases z; rfl))).trans kk⟩
    | br d => exact x
  refine ⟨⟨fun l' o h => ?_, fun l' h z => sg_top R.rel.top rb l' (by rw [eS, List.length_set] at h; exact h) z, sg_trk R.rel.trk ha⟩, R.len, fun i c h => ?_⟩
  · have h : (setFld l k c' s.S)[l']? = some o := h
    rw [eS] at h
    by_cases z : l' = l
    · subst z
      rw [List.getElem?_set_self hl] at h
      cases h
      obtain ⟨hb, dx, vs, h1, h2, h3, h4⟩ := R.rel.box l' _ e1
      refine ⟨sg_B lo hb, dx, vs, h1, by rw [List.length_set]; exact h2, by rw [List.length_set]; exact h3, fun k' x v e3 e4 => ?_⟩
      by_cases zk : k' = k
      · subst zk
        rw [List.getElem?_set_self hk] at e3
        cases e3
        exact new v (fld_zip h1 (by omega) e4) (h4 k' c v e2 e4)
      · rw [List.getElem?_set_ne (Ne.symm zk)] at e3
        exact other l' k' x v (fun q => zk (by cases q; rfl)) (h4 k' x v e3 e4)
    · rw [List.getElem?_set_ne (Ne.symm z)] at h
      obtain ⟨hb, x⟩ := R.rel.box l' o h
      exact ⟨sg_B lo hb, x.stay yf hb rfl fun c k' v q => other l' k' c v (fun q => z (by cases q; rfl)) q⟩
  · obtain ⟨v, e3, x⟩ := R.slt i c h
    refine ⟨v, e3, ?_⟩
    cases c with
    | fz d => exact RZ.stay yf x
    | own d =>
      obtain ⟨c, e, g, q⟩ := x
      exact ⟨c, e, (sg_ne (fun z => by subst z; exact (nslot i).1 g)).trans g, q.stay yf rfl⟩
    | rd d =>
      obtain ⟨c, e, g, q, kk⟩ := x
      exact ⟨c, e, (sg_ne (fun z => by subst z; exact (nslot i).2 g)).trans g, q.stay yf rfl, (hlk i 0 (fun z => by cases z)).trans kk⟩
    | br d => exact RZ.stay yb x

theorem fld_at {l k : Nat} {c : Cell} (R : Rel G W S) (e : getFld l k S = some c) : ∃ v, FldAt W l k v ∧ FldR G W l k c v := by
  obtain ⟨cl, fs, e1, e2⟩ := getFld_some e
  obtain ⟨hb, dx, vs, h1, h2, h3, h4⟩ := R.box l _ e1
  have hk0 : k < fs.length := (List.getElem?_eq_some_iff.mp e2).1
  have hk : k < vs.length := by rw [h2]; exact hk0
  exact ⟨vs[k], fld_zip h1 (by omega) (List.getElem?_eq_getElem hk), h4 k c _ e2 (List.getElem?_eq_getElem hk)⟩
theorem fld_val {l k : Nat} {c : Cell} (R : Rel G W S) (e : getFld l k S = some c) (h : FldAt W l k v) : FldR G W l k c v := by
  obtain ⟨v', h', r⟩ := fld_at R e
  rw [h.uniq h']; exact r

theorem fld_evo {l k : Nat} (g : W.g a = some (.fld l k)) : Evo false W (W.sg a (some .fro)) :=
  ⟨fun _ _ => rfl, fun _ _ h => h, fun _ _ h _ => h, fun c o h q => sg_ne (fun z => by subst z; rw [g] at q; exact q), fun _ c j h => .inl ((sg_ne (fun z => by subst z; rw [g] at h; cases h)).trans h), fun c o h => ⟨o, h⟩, fun _ _ _ h => h, fun c l k h => by
    by_cases z : c = a
    · subst z; exact .inr sg_at
    · exact .inl ((sg_ne z).trans h)⟩
/-! to be kept -/
theorem settle_ok {q : Md × D} {c : Cell} (x : Evo false W0 W) (tr : ∀ a r, W0.g a = some r → ∃ o, W0.H a = some o) (R : Fr G W s t) (h : PlR G W t q.1 q.2 v) (e : settle q s = some (.ok c, s')) :
    ∃ W2, W2.H = W.H ∧ Evo false W0 W2 ∧ Fr G W2 s' t ∧ CelR G W0 W2 c v := by
  obtain ⟨m, d⟩ := q
  cases m with
  | fz => cases e; exact ⟨W, rfl, x, R, h⟩
  | bp =>
    unfold settle at e
    cases e
    refine ⟨W, rfl, x, R, ?_⟩
    cases f : flat d with
    | true => exact vw_flat (p := true) h f
    | false => exact h
  | sl i =>
    unfold settle at e
    simp only at e
    split at e
    · rename_i d' hd
      cases e
      obtain ⟨a, e1, g, l, y, R2⟩ := freeze_slot R hd
      obtain ⟨e2, _⟩ := h
      rw [e1] at e2
      cases e2
      exact ⟨W.sg a (some .fro), rfl, x.trans y tr, R2, (sg_LR (by rw [g]; trivial) l).rz sg_at⟩
    · cases e
  | fl l k =>
    unfold settle at e
    simp only at e
    split at e
    · rename_i d' hd
      cases e
      obtain ⟨a, e1, g, l⟩ := fld_val R.rel hd h.1
      subst e1
      have lo : loose (W.g a) := by rw [g]; trivial
      refine ⟨W.sg a (some .fro), rfl, x.trans (fld_evo g) tr, fld_change (r := some .fro) R hd l.there (.inl g) (fun _ q => by cases q) (fun _ => trivial) W.k (fun _ _ _ => rfl) fun v f r => ?_, (sg_LR lo l).rz sg_at⟩
      rw [f.uniq h.1]
      exact (sg_LR lo l).rz sg_at
    · cases e
/-! a field's own list is locked -/
theorem lock_ok {l k : Nat} (R : Fr G W s t) (e : getFld l k s.S = some (.own d)) : ∃ a W1, FldAt W l k (.ref a) ∧ W1.H = W.H ∧ W1.i = W.i ∧ W1.g a = some (.rdf false l k) ∧ W.g a = some (.fld l k) ∧ LR G W d a ∧ LR G W1 d a ∧ W1.k l (k + 1) = some a ∧
    Fr G W1 { s with S := setFld l k (.rd d) s.S } t ∧ Stay W.fz W1.fz ∧ Stay W.bp W1.bp ∧ (∀ c, c ≠ a → W1.g c = W.g c) ∧ ∀ l' k', (l', k') ≠ (l, k + 1) → W1.k l' k' = W.k l' k' := by
  obtain ⟨v, f, a, e1, g, l1⟩ := fld_at R.rel e
  subst e1
  have lo : loose (W.g a) := by rw [g]; trivial
  obtain ⟨lk, hlk⟩ : ∃ lk : Nat → Nat → Option Addr, lk l (k + 1) = some a ∧ ∀ l' k', (l', k') ≠ (l, k + 1) → lk l' k' = W.k l' k' :=
    ⟨fun l' k' => if (l', k') = (l, k + 1) then some a else W.k l' k', if_pos rfl, fun l' k' h => if_neg h⟩
  have yf : Stay W.fz (Wd.fz ⟨(W.sg a (some (.rdf false l k))).g, W.i, W.H, lk⟩) := ⟨fun l hl => ⟨rfl, sg_B lo hl⟩, fun _ _ e => e, fun c o z e => ⟨(sg_fz lo).z c o z e |>.1, e⟩⟩
  have yb : Stay W.bp (Wd.bp ⟨(W.sg a (some (.rdf false l k))).g, W.i, W.H, lk⟩) := ⟨fun l hl => ⟨rfl, sg_B lo hl⟩, fun _ _ e => e, fun c o z e => ⟨(sg_bp lo (by rw [g]; exact False.elim)).z c o z e |>.1, e⟩⟩
  refine ⟨a, ⟨(W.sg a (some (.rdf false l k))).g, W.i, W.H, lk⟩, f, rfl, rfl, sg_at, g, l1, l1.stay yf rfl, hlk.1, ?_, yf, yb, fun c h => sg_ne h, hlk.2⟩
  refine fld_change (r := some (.rdf false l k)) R e l1.there (.inl g) (fun _ q => by cases q) (by rw [g]; exact False.elim) lk hlk.2 fun v f' r => ?_
  rw [f'.uniq f]
  exact ⟨a, false, rfl, sg_at, l1.stay yf rfl, hlk.1⟩
/-! .. and unlocked -/
theorem unlock_ok {l k : Nat} {W1 W2 : Wd} {d' : D} (tr : ∀ a r, W.g a = some r → ∃ o, W.H a = some o) (g0 : W.g a = some (.fld l k)) (hH : W1.H = W.H) (hi : W1.i = W.i) (g1 : W1.g a = some (.rdf false l k)) (k1 : W1.k l (k + 1) = some a) (go : ∀ c, c ≠ a → W1.g c = W.g c) (ko : ∀ l' k', (l', k') ≠ (l, k + 1) → W1.k l' k' = W.k l' k')
    {b : Bool} (x : Evo b W1 W2) (R : Fr G W2 s t) (e : getFld l k s.S = some (.rd d')) :
    ∃ W3, W3.H = W2.H ∧ W3.i = W2.i ∧ Evo b W W3 ∧ Fr G W3 { s with S := setFld l k (.own d') s.S } t ∧ Stay W2.fz W3.fz ∧ Stay W2.bp W3.bp ∧ (∀ c r, W2.g c = r → (∀ e l k, r ≠ some (.rdf e l k)) → W3.g c = r) ∧ FldAt W3 l k (.ref a) ∧ LR G W3 d' a := by
  obtain ⟨v, f, a2, ex, e1, g, l1, kk⟩ := fld_at R.rel e
  have ea : a2 = a := by
    have := x.lk _ _ _ k1
    rw [kk] at this; exact Option.some.inj this
  subst ea
  subst e1
  obtain ⟨o, ho⟩ := tr _ _ g0
  have g2 : W2.g a2 = some (.rdf false l k) := (x.role a2 o (by rw [hH]; exact ho) (by rw [g1]; trivial)).trans g1
  rw [g2] at g
  have lo : loose (W2.g a2) := by rw [g2]; trivial
  obtain ⟨lk, hl1, hl2⟩ : ∃ lk : Nat → Nat → Option Addr, lk l (k + 1) = W.k l (k + 1) ∧ ∀ l' k', (l', k') ≠ (l, k + 1) → lk l' k' = W2.k l' k' :=
    ⟨fun l' k' => if (l', k') = (l, k + 1) then W.k l (k + 1) else W2.k l' k', if_pos rfl, fun l' k' h => if_neg h⟩
  have yf : Stay W2.fz (Wd.fz ⟨(W2.sg a2 (some (.fld l k))).g, W2.i, W2.H, lk⟩) := ⟨fun l hl => ⟨rfl, sg_B lo hl⟩, fun _ _ e => e, fun c o z e => ⟨(sg_fz lo).z c o z e |>.1, e⟩⟩
  have yb : Stay W2.bp (Wd.bp ⟨(W2.sg a2 (some (.fld l k))).g, W2.i, W2.H, lk⟩) := ⟨fun l hl => ⟨rfl, sg_B lo hl⟩, fun _ _ e => e, fun c o z e => ⟨(sg_bp lo (by rw [g2]; exact False.elim)).z c o z e |>.1, e⟩⟩
  refine ⟨⟨(W2.sg a2 (some (.fld l k))).g, W2.i, W2.H, lk⟩, rfl, rfl, ?_, fld_change (r := some (.fld l k)) R e l1.there (.inr ⟨false, g2, fun z => by cases z⟩) (fun _ q => by cases q) (by rw [g2]; exact False.elim) lk hl2 fun v f' r => ?_, yf, yb,
    fun c r h hr => (sg_ne (fun z => by subst z; rw [g2] at h; exact hr _ _ _ h.symm)).trans h, f, l1.stay yf rfl⟩
  · have bx : ∀ l, W.B l → W1.B l := fun l h => by
      show W1.g (W1.i l) = _
      rw [hi, go _ (fun z => by have h : W.g (W.i l) = _ := h; rw [z, g0] at h; cases h)]; exact h
    refine ⟨fun l h => (x.io l (bx l h)).trans (by rw [hi]), fun c vs h => x.tup c vs (by rw [hH]; exact h), fun c o h m => ?_, fun c o h q => ?_, fun hb c j h => ?_, fun c o h => x.there c o (by rw [hH]; exact h), fun l' k' b h => ?_, fun c l' k' h => ?_⟩
    · have hc : c ≠ a2 := fun z => by subst z; rw [g0] at m; exact m trivial
      exact x.keep c o (by rw [hH]; exact h) (by rw [go c hc]; exact m)
    · have hc : c ≠ a2 := fun z => by subst z; rw [g0] at q; exact q
      exact (sg_ne hc).trans ((x.role c o (by rw [hH]; exact h) (by rw [go c hc]; exact q)).trans (go c hc))
    · have hc : c ≠ a2 := fun z => by subst z; rw [g0] at h; cases h
      rw [show (Wd.g ⟨(W2.sg a2 (some (.fld l k))).g, W2.i, W2.H, lk⟩ c) = W2.g c from sg_ne hc]
      exact x.slot hb c j (by rw [go c hc]; exact h)
    · show lk l' k' = _
      by_cases z : (l', k') = (l, k + 1)
      · cases z
        rw [hl1]; exact h
      · rw [hl2 _ _ z]
        exact x.lk _ _ _ (by rw [ko _ _ z]; exact h)
    · by_cases z : c = a2
      · subst z
        rw [g0] at h
        cases h
        exact .inl sg_at
      · have e3 : (Wd.g ⟨(W2.sg a2 (some (.fld l k))).g, W2.i, W2.H, lk⟩ c) = W2.g c := sg_ne z
        rw [e3]
        exact x.fld c l' k' (by rw [go c z]; exact h)
  · rw [f'.uniq f]
    exact ⟨a2, rfl, sg_at, l1.stay yf rfl⟩
end
end Lk

namespace Lk
open PySem L2

section
variable {G : Gm} {W W0 W' W'' : Wd} {S : Sto} {s s' : Stt} {t : L2.St} {p : Bool} {d : D} {v : V} {a : Addr} {m : Md}
/-! what was read stays readable while others run -/
theorem LR.sl {i : Nat} (x : Evo false W W') (tr : ∀ a r, W.g a = some r → ∃ o, W.H a = some o) (h : LR G W d a) (r : slR i (W.g a)) : LR G W' d a ∧ slR i (W'.g a) := by
  obtain ⟨o, ho⟩ := h.there
  cases e : W.g a with
  | none => rw [e] at r; exact r.elim
  | some q =>
    refine ⟨h.evo x tr (by rw [e] at r ⊢; cases q <;> first | exact r.elim | (intro z; exact z) | (intro z; cases z)), ?_⟩
    rw [e] at r
    cases q with
    | slot j =>
      rcases x.slot rfl a j e with z | z
      · rw [z]; exact r
      · rw [z]; trivial
    | rds j => rw [x.role a o ho (by rw [e]; trivial), e]; exact r
    | fro => rw [x.role a o ho (by rw [e]; trivial), e]; trivial
    | _ => exact r.elim
theorem PlR.stay (x : Evo false W W') (tr : ∀ a r, W.g a = some r → ∃ o, W.H a = some o) (h : PlR G W t m d v) (nf : isFl m = false) : PlR G W' t m d v := by
  cases m with
  | fz => exact RZ.stay (x.fz tr) h
  | bp => exact RZ.stay (x.bp tr) h
  | sl i =>
    obtain ⟨e, a, e2, r, l⟩ := h
    obtain ⟨l', r'⟩ := l.sl x tr r
    exact ⟨e, a, e2, r', l'⟩
  | fl l k => cases nf
/-! the caller's things are the callee's arguments -/
def rmR : Option Role → Option Role
  | some (.slot _) => some .brw
  | some (.rds _) => some .brw
  | some (.rdf _ l k) => some (.rdf true l k)
  | r => r
/-! an argument, till the call -/
def ArgT (G : Gm) (W : Wd) (q : Md × D) (v : V) : Prop :=
  match q.1 with
  | .fz => RZ G W.fz q.2 v
  | .bp => RZ G W.bp q.2 v
  | _ => ∃ a, v = .ref a ∧ LR G W q.2 a ∧ readP (rmR (W.g a))
theorem slR_readP {i : Nat} {r : Option Role} (h : slR i r) : readP (rmR r) := by
  cases r with
  | none => exact h.elim
  | some r => cases r <;> first | exact h.elim | trivial
theorem PlR.arg (h : PlR G W t m d v) (nf : isFl m = false) : ArgT G W (m, d) v := by
  cases m with
  | fz => exact h
  | bp => exact h
  | sl i =>
    obtain ⟨_, a, e2, r, l⟩ := h
    exact ⟨a, e2, l, slR_readP r⟩
  | fl l k => cases nf
theorem ArgT.stay {q : Md × D} (x : Evo false W W') (tr : ∀ a r, W.g a = some r → ∃ o, W.H a = some o) (h : ArgT G W q v) : ArgT G W' q v := by
  have own : (∃ a, v = .ref a ∧ LR G W q.2 a ∧ readP (rmR (W.g a))) → ∃ a, v = .ref a ∧ LR G W' q.2 a ∧ readP (rmR (W'.g a)) := fun ⟨a, e, l, r⟩ => by
    obtain ⟨o, ho⟩ := l.there
    refine ⟨a, e, l.evo x tr ?_, ?_⟩
    · cases e : W.g a with
      | none => exact id
      | some z =>
        rw [e] at r
        cases z <;> first | exact id | exact r.elim | (intro z; cases z)
    · cases e : W.g a with
      | none => rw [e] at r; exact r.elim
      | some z =>
        rw [e] at r
        cases z with
        | slot j =>
          rcases x.slot rfl a j e with z | z <;> (rw [z]; trivial)
        | fld l k => exact r.elim
        | box l => exact r.elim
        | _ => rw [x.role a o ho (by rw [e]; trivial), e]; exact r
  obtain ⟨m, d⟩ := q
  cases m with
  | fz => exact RZ.stay (x.fz tr) h
  | bp => exact RZ.stay (x.bp tr) h
  | sl i => exact own h
  | fl l k => exact own h
theorem Stay.trans {U U' U'' : Vw} (x : Stay U U') (y : Stay U' U'') : Stay U U'' :=
  ⟨fun l h => ⟨((y.io l (x.io l h).2).1).trans (x.io l h).1, (y.io l (x.io l h).2).2⟩, fun a vs h => y.tup a vs (x.tup a vs h), fun a o z h => y.z a o (x.z a o z h).1 (x.z a o z h).2⟩
/-! what is left to do behind a guard -/
structure Unl (G : Gm) (W W2 W3 : Wd) : Prop where
  H : W3.H = W2.H
  i : W3.i = W2.i
  evo : Evo false W W3
  fz : Stay W2.fz W3.fz
  bp : Stay W2.bp W3.bp
  free : ∀ c, W2.g c = none → W3.g c = none
theorem guardL_ok {α : Type} {x : M α} {r : Ou α} (R : Fr G W s t) (hp : PlR G W t m d v) (e : guardL m x s = some (r, s')) :
    ∃ W1 s1 s2, W1.H = W.H ∧ Fr G W1 s1 t ∧ (ArgT G W1 (m, d) v ∧ (∀ q z, ArgT G W q z → ArgT G W1 q z) ∧ ∀ m' d' z, PlR G W t m' d' z → PlR G W1 t m' d' z) ∧ x s1 = some (r, s2) ∧
      ∀ W2, Evo false W1 W2 → Fr G W2 s2 t → TZ G W2 (isBp (m, d)) d v ∧ ∃ W3, Unl G W W2 W3 ∧ Fr G W3 s' t ∧
        (∀ l k, m = .fl l k → ∀ d2, getFld l k s.S = some (.own d2) → FldAt W3 l k v) := by
  have triv : ∀ (e : x s = some (r, s')), isFl m = false → ∃ W1 s1 s2, W1.H = W.H ∧ Fr G W1 s1 t ∧ (ArgT G W1 (m, d) v ∧ (∀ q z, ArgT G W q z → ArgT G W1 q z) ∧ ∀ m' d' z, PlR G W t m' d' z → PlR G W1 t m' d' z) ∧ x s1 = some (r, s2) ∧
      ∀ W2, Evo false W1 W2 → Fr G W2 s2 t → TZ G W2 (isBp (m, d)) d v ∧ ∃ W3, Unl G W W2 W3 ∧ Fr G W3 s' t ∧
        (∀ l k, m = .fl l k → ∀ d2, getFld l k s.S = some (.own d2) → FldAt W3 l k v) := fun e nf =>
    ⟨W, s, s', rfl, R, ⟨hp.arg nf, fun _ _ h => h, fun _ _ _ h => h⟩, e, fun W2 y R2 => ⟨(hp.stay y R.rel.trk nf).tz, W2, ⟨rfl, rfl, y, .refl, .refl, fun _ h => h⟩, R2, fun l k q => by rw [q] at nf; cases nf⟩⟩
  cases m with
  | fz => exact triv e rfl
  | bp => exact triv e rfl
  | sl i => exact triv e rfl
  | fl l k =>
    unfold guardL guardF at e
    simp only at e
    split at e
    · rename_i d0 hd
      obtain ⟨a, W1, f, hH, hi, g1, g0, l0, l1, k1, R1, yf, yb, go, ko⟩ := lock_ok R hd
      split at e
      · rename_i r1 s2 hx
        split at e
        · rename_i d2 hd2
          cases e
          have ev : v = .ref a := hp.1.uniq f
          refine ⟨W1, _, s2, hH, R1, ⟨⟨a, ev, ?_, by rw [g1]; trivial⟩, fun q z hz => ?_, fun m' d' z hz => ?_⟩, hx, fun W2 y R2 => ?_⟩
          · obtain ⟨_, a', ea, la⟩ := hp
            rw [ev] at ea
            cases ea
            exact la.stay yf (by rw [hH])
          · have own : (∃ a, z = .ref a ∧ LR G W q.2 a ∧ readP (rmR (W.g a))) → ∃ a, z = .ref a ∧ LR G W1 q.2 a ∧ readP (rmR (W1.g a)) := fun ⟨b, e, l, r⟩ =>
              ⟨b, e, l.stay yf (by rw [hH]), by rw [go b (fun z => by subst z; rw [g0] at r; exact r)]; exact r⟩
            obtain ⟨m, d⟩ := q
            cases m with
            | fz => exact RZ.stay yf hz
            | bp => exact RZ.stay yb hz
            | sl i => exact own hz
            | fl l k => exact own hz
          · cases m' with
            | fz => exact RZ.stay yf hz
            | bp => exact RZ.stay yb hz
            | sl i =>
              obtain ⟨e1, b, e2, r, l⟩ := hz
              exact ⟨e1, b, e2, by rw [go b (fun z => by subst z; rw [g0] at r; exact r)]; exact r, l.stay yf (by rw [hH])⟩
            | fl l' k' =>
              obtain ⟨⟨C', dx', fs', e1, e2⟩, b, e3, l⟩ := hz
              exact ⟨⟨C', dx', fs', by rw [hH, hi]; exact e1, e2⟩, b, e3, l.stay yf (by rw [hH])⟩
          obtain ⟨W3, h1, h2, h3, h4, h5, h6, h7, h8, h9⟩ := unlock_ok R.rel.trk g0 hH hi g1 k1 go ko y R2 hd2
          refine ⟨.inr ⟨a, ev, ?_⟩, W3, ⟨h1, h2, h3, h5, h6, fun c h => h7 c _ h fun _ _ _ z => by cases z⟩, h4, fun l' k' q _ _ => by cases q; rw [ev]; exact h8⟩
          obtain ⟨_, a', ea, la⟩ := hp
          rw [ev] at ea
          cases ea
          exact ((la.stay yf (by rw [hH])).evo y R1.rel.trk (by rw [g1]; exact id)).lp
        · cases e
      · cases e
    · rename_i d0 hd
      obtain ⟨a, ex, ea, g, l0, kk⟩ := fld_val R.rel hd hp.1
      refine ⟨W, s, s', rfl, R, ⟨⟨a, ea, ?_, by rw [g]; trivial⟩, fun _ _ h => h, fun _ _ _ h => h⟩, e, fun W2 y R2 => ⟨.inr ⟨a, ea, ?_⟩, W2, ⟨rfl, rfl, y, .refl, .refl, fun _ h => h⟩, R2, fun l' k' q d2 h2 => by cases q; rw [hd] at h2; cases h2⟩⟩
      · obtain ⟨_, a', ea', la⟩ := hp
        rw [ea] at ea'
        cases ea'
        exact la
      obtain ⟨_, a', ea', la⟩ := hp
      rw [ea] at ea'
      cases ea'
      exact (la.evo y R.rel.trk (by rw [g]; exact id)).lp
    · cases e

/-! ### what an expression asks, and gives -/
abbrev WXo := Option D → Nat → L2.St → Wd → Prop
/-! an exception's own dict -/
def ExR (G : Gm) (W : Wd) : Option D → Option Addr → Prop
  | none, none => True
  | some d, some a => ∃ v, W.g a = some .fro ∧ W.H a = some (.xd [(("row" : Str), v)]) ∧ RZ G W.fz d v
  | _, _ => False
/-! an exception leaves -/
def ExQ (G : Gm) (Wx : WX) (W : Wd) (s' : Stt) (t : L2.St) (c : Nat) (p : Option D) : Prop :=
  ∀ W' dx, Evo false W W' → Fr G W' s' t → ExR G W' p dx → Wx (.ref (G.E c)) dx t W'.H
def EndV (G : Gm) (Wx : WX) (sx : Bool) (W : Wd) (s' : Stt) (t : L2.St) (Q : VK) : Ou Vl → Prop
  | .ok vl => ∀ W' v, Evo false W W' → Fr G W' s' t → VlR G W W' t vl v → (sx = true → W' = W) → Q v W'.H
  | .ex c p => ExQ G Wx W s' t c p
def EndE (G : Gm) (Wx : WX) (sx : Bool) (W : Wd) (s' : Stt) (t : L2.St) (Q : VK) : Ou (Md × D) → Prop
  | .ok q => ∀ W' v, Evo false W W' → Fr G W' s' t → PlR G W' t q.1 q.2 v → (sx = true → W' = W) → Q v W'.H
  | .ex c p => ExQ G Wx W s' t c p
def EndR (G : Gm) (Wx : WX) (W : Wd) (s' : Stt) (t : L2.St) (Q : VK) : Ou Cell → Prop
  | .ok c => ∀ W' v, Evo false W W' → Fr G W' s' t → CelR G W W' c v → Q v W'.H
  | .ex c p => ExQ G Wx W s' t c p
def EndT (G : Gm) (Wx : WX) (W : Wd) (s' : Stt) (t : L2.St) (Q : Bool → Hp → Prop) : Ou Bool → Prop
  | .ok b => ∀ W', Evo false W W' → Fr G W' s' t → Q b W'.H
  | .ex c p => ExQ G Wx W s' t c p
def tV (G : Gm) (Wx : WX) (P : Pg) (b : Bool) (ex : Ex) : TE := fun t H Q => ∃ W s r s', W.H = H ∧ Fr G W s t ∧ evV P b ex s = some (r, s') ∧ EndV G Wx (simple ex) W s' t Q r
def tE (G : Gm) (Wx : WX) (P : Pg) (ex : Ex) : TE := fun t H Q => ∃ W s r s', W.H = H ∧ Fr G W s t ∧ ev P ex s = some (r, s') ∧ EndE G Wx (simple ex) W s' t Q r
def tR (G : Gm) (Wx : WX) (P : Pg) (ex : Ex) : TE := fun t H Q => ∃ W s r s', W.H = H ∧ Fr G W s t ∧ evR P ex s = some (r, s') ∧ EndR G Wx W s' t Q r
def tT (G : Gm) (Wx : WX) (P : Pg) (ex : Ex) : TT := fun t H Q => ∃ W s r s', W.H = H ∧ Fr G W s t ∧ evT P ex s = some (r, s') ∧ EndT G Wx W s' t Q r
theorem peImp {X : Cx} {e : Expr} {t t' : TE} (h : PE X e t) (i : ∀ σ H Q, t' σ H Q → t σ H Q) : PE X e t' := ⟨fun pins s σ H Q I q => h.run pins s σ H Q I (i _ _ _ q)⟩
theorem ptImp {X : Cx} {e : Expr} {t t' : TT} (h : PT X e t) (i : ∀ σ H Q, t' σ H Q → t σ H Q) : PT X e t' := ⟨fun pins s σ H Q I q => h.run pins s σ H Q I (i _ _ _ q)⟩
/-! an own list comes of nothing simple -/
theorem cellIn_own {q : Bool} {d d' : D} : cellIn q d ≠ .own d' := by
  unfold cellIn
  split <;> exact fun z => by cases z
theorem cellNew_own {q : Bool} {d d' : D} (h : isL d = false) : cellNew q d ≠ .own d' := by
  unfold cellNew
  split
  · exact fun z => by cases z
  · cases d <;> first | (cases h; done) | (exact fun z => by cases z)
theorem guardF_in {α : Type} {l k : Nat} {x : M α} {q : Ou α × Stt} (h : guardF l k x s = some q) : ∃ s1 s2, x s1 = some (q.1, s2) := by
  unfold guardF at h
  split at h
  · split at h
    · split at h
      · cases h; exact ⟨_, _, by assumption⟩
      · cases h
    · cases h
  · exact ⟨_, _, h⟩
  · cases h
theorem guardL_in {α : Type} {x : M α} {q : Ou α × Stt} (h : guardL m x s = some q) : ∃ s1 s2, x s1 = some (q.1, s2) := by
  unfold guardL at h
  split at h
  · exact guardF_in h
  · exact ⟨_, _, h⟩
theorem guardX_in {α : Type} {b : Ex} {x : M α} {q : Ou α × Stt} (h : guardX b m x s = some q) : ∃ s1 s2, x s1 = some (q.1, s2) := by
  unfold guardX at h
  split at h
  · exact ⟨_, _, h⟩
  · exact guardL_in h
theorem cell_some {o : Option Cell} {r : Ou Vl} (h : M.cell o s = some (r, s')) : ∃ c, o = some c ∧ r = .ok (.nw c) ∧ s' = s := by
  unfold M.cell M.of at h
  cases o with
  | none => cases h
  | some c => cases h; exact ⟨c, rfl, rfl, rfl⟩
theorem binD_int {op : BOp} {x y z : D} (h : binD op x y = some z) (hop : op = .sub ∨ op = .mod ∨ op = .fdiv ∨ (op = .add ∧ ∃ n, y = .int n)) : ∃ n, z = .int n := by
  rcases hop with rfl | rfl | rfl | ⟨rfl, n, rfl⟩ <;> cases x <;> (try cases y) <;> simp [binD] at h <;> first | exact ⟨_, h.symm⟩ | exact ⟨_, h.2.symm⟩
theorem simple_own {P : Pg} {b : Bool} {ex : Ex} (h : simple ex = true) {d : D} : evV P b ex s ≠ some (.ok (.nw (.own d)), s') := by
  intro e
  have bin : ∀ {op : BOp} {a b : Ex}, (op = .sub ∨ op = .mod ∨ op = .fdiv ∨ (op = .add ∧ ∃ n, b = .int n)) → evV P false (.bin op a b) s = some (.ok (.nw (.own d)), s') → False := fun {op a b} hop e => by
    unfold evV at e
    rcases M.bind_some e with ⟨va, s1, e1, e⟩ | ⟨_, _, _, e⟩
    · obtain ⟨s2, s3, e⟩ := guardX_in e
      rcases M.bind_some e with ⟨vb, s4, e2, e⟩ | ⟨_, _, _, e⟩
      · obtain ⟨c, e3, e4, _⟩ := cell_some e
        cases e4
        obtain ⟨z, e5, e6⟩ := Option.map_eq_some_iff.mp e3
        obtain ⟨n, rfl⟩ := binD_int e5 (by
          rcases hop with h | h | h | ⟨h, n, rfl⟩
          · exact .inl h
          · exact .inr (.inl h)
          · exact .inr (.inr (.inl h))
          · refine .inr (.inr (.inr ⟨h, n, ?_⟩))
            cases e2
            rfl)
        exact cellNew_own (by rfl) e6
      · cases e
    · cases e
  cases ex with
  | bin op a b =>
    have e : evV P false (.bin op a b) s = some (.ok (.nw (.own d)), s') := by
      rw [evV] at e ⊢; exact e
    cases op with
    | add =>
      cases b <;> first | exact bin (op := .add) (a := a) (.inr (.inr (.inr ⟨rfl, _, rfl⟩))) e | simp [simple] at h
    | sub => exact bin (op := .sub) (a := a) (b := b) (.inl rfl) e
    | mod => exact bin (op := .mod) (a := a) (b := b) (.inr (.inl rfl)) e
    | fdiv => exact bin (op := .fdiv) (a := a) (b := b) (.inr (.inr (.inl rfl))) e
    | _ => simp [simple] at h
  | var i =>
    unfold evV at e
    split at e <;> cases e
  | con j => cases e
  | int i => cases e
  | str i => cases e
  | bl i => cases e
  | non => cases e
  | neg a =>
    unfold evV at e
    rcases M.bind_some e with ⟨va, s1, e1, e⟩ | ⟨_, _, _, e⟩
    · obtain ⟨c, e3, e4, _⟩ := cell_some e
      cases e4
      split at e3 <;> cases e3
    · cases e
  | idx a b =>
    unfold evV at e
    rcases M.bind_some e with ⟨va, s1, e1, e⟩ | ⟨_, _, _, e⟩
    · obtain ⟨s2, s3, e⟩ := guardX_in e
      rcases M.bind_some e with ⟨vb, s4, e2, e⟩ | ⟨_, _, _, e⟩
      · split at e
        · split at e
          · injection e with e
            injection e with e _
            injection e with e
            injection e with e
            exact cellIn_own e
          · cases e
        · cases e
      · cases e
    · cases e
  | fld c k a =>
    unfold evV at e
    rcases M.bind_some e with ⟨va, s1, e1, e⟩ | ⟨_, _, _, e⟩
    · split at e
      · split at e
        · split at e
          · split at e <;> cases e
          · cases e
        · cases e
      · cases e
    · cases e
  | _ => simp [simple] at h

section
variable {X : Cx} {e : Expr} {ex : Ex} {Wx : WX} {P : Pg}
theorem peE (h : PE X e (tV G Wx P false ex)) : PE X e (tE G Wx P ex) := by
  refine peImp h fun t H Q ⟨W, s, r, s', hH, R, ee, q⟩ => ?_
  unfold ev at ee
  rcases M.bind_some ee with ⟨vl, s1, e1, e2⟩ | ⟨c, p, e1, e2⟩
  · refine ⟨W, s, _, s1, hH, R, e1, fun W' v x R' hv hs => ?_⟩
    cases r with
    | ex c p => exact (asV_noex e2).elim
    | ok q0 =>
      obtain ⟨rfl, W2, h2, x2, R2, p2, hs2⟩ := asV_ok x R.rel.trk R' hv e2
      rw [← h2]
      refine q W2 v x2 R2 p2 fun sm => ?_
      rw [hs2 (fun d z => by subst z; exact simple_own sm e1), hs sm]
  · subst e2
    exact ⟨W, s, _, s', hH, R, e1, q⟩
theorem settle_noex {q : Md × D} {c : Nat} {p : Option D} (e : settle q s = some (.ex c p, s')) : False := by
  obtain ⟨m, d⟩ := q
  cases m <;> simp [settle] at e <;> split at e <;> simp at e
theorem peR (h : PE X e (tV G Wx P false ex)) : PE X e (tR G Wx P ex) := by
  refine peImp h fun t H Q ⟨W, s, r, s', hH, R, ee, q⟩ => ?_
  unfold evR at ee
  rcases M.bind_some ee with ⟨vl, s1, e1, e2⟩ | ⟨c, p, e1, e2⟩
  · refine ⟨W, s, _, s1, hH, R, e1, fun W' v x R' hv hs => ?_⟩
    cases vl with
    | pl m d =>
      cases r with
      | ex c p => exact (settle_noex e2).elim
      | ok c =>
        obtain ⟨W2, h2, x2, R2, p2⟩ := settle_ok (q := (m, d)) x R.rel.trk R' hv e2
        rw [← h2]
        exact q W2 v x2 R2 p2
    | nw c =>
      cases e2
      exact q W' v x R' hv
  · subst e2
    exact ⟨W, s, _, s', hH, R, e1, q⟩
end
end
end Lk

namespace Lk
open PySem L2 PySem.Spec PyProof.Rows

/-! ### lists and tuples, of the script or the module, too, by a number -/
theorem list_mulW (l : Addr) (items : Array Value) (n : Nat) (dd : Option Addr) (sl : Array (Option Value)) (x : Int) (u : Tok) (hc0 : ¬(!Builtin.List.listFitsIndex x) = true) (hc1 : ¬items.size * x.toNat > (2 ^ 63 - 1) / 8) (hc2 : ¬Builtin.List.listTooLong (items.size * x.toNat) = true) :
    Meets (Builtin.«list.__mul__» ⟨[.ref l, .int x u], []⟩) (fun _ R s => s.heap.get? l = some { cls := .type "list", dict := dd, data := .seq items n, slots := sl } ∧ R (.ok (.ret (Value.ref s.heap.objs.size))) { s with heap := s.heap.push { cls := Value.type "list", data := Data.seq (List.foldl (fun x1 x2 => x1 ++ x2) #[] (List.replicate (if items.isEmpty = true then 0 else x.toNat) items)) }, toks := s.toks }) :=
  .of_wp fun prog w A R s h => by
    obtain ⟨hp, g, d, tk, os⟩ := s
    obtain ⟨hl, h⟩ := h
    have hsz := PySem.AutoListH.joined_fits hc2
    have f1 := AutoSeq1.idx_int
    wp_walk using wpAny_loadPart' hl
    refine wpAny_ite_false (decide_eq_false (Nat.not_lt.mpr hsz)) ?_
    wp_walk using wpAny_loadPart' hl
    exact ⟨_, rfl, h⟩
theorem int_rmul_listW (a : Int) (t : Tok) (l : Addr) (items : Array Value) (n : Nat) (dd : Option Addr) (sl : Array (Option Value)) :
    Meets (Builtin.«int.__rmul__» ⟨[.int a t, .ref l], []⟩) (fun _ R s => s.heap.get? l = some { cls := .type "list", dict := dd, data := .seq items n, slots := sl } ∧ R (.ok (.ret Value.notImplemented)) s) :=
  .of_wp fun prog w A R s h => by obtain ⟨hp, g, d, tk, os⟩ := s; obtain ⟨hl, h⟩ := h; wp_walk using wpAny_loadPart' hl; exact ⟨_, rfl, h⟩
theorem tuple_mulW1 (l : Addr) (items : Array Value) (n : Nat) (dd : Option Addr) (sl : Array (Option Value)) (x : Int) (u : Tok) (c0 : (decide (x < -(2 ^ 63)) || decide (x ≥ 2 ^ 63)) = false) (c1 : (items.isEmpty || x == 1) = true) :
    Meets (Builtin.«tuple.__mul__» ⟨[.ref l, .int x u], []⟩) (fun _ R s => s.heap.get? l = some { cls := .type "tuple", dict := dd, data := .seq items n, slots := sl } ∧ R (.ok (.ret (Value.ref l))) s) :=
  .of_wp fun prog w A R s h => by
    obtain ⟨hp, g, d, tk, os⟩ := s
    obtain ⟨hl, h⟩ := h
    have f1 := AutoSeq1.idx_int
    wp_walk using wpAny_loadPart' hl
    repeat (first
      | (refine wpAny_ite_false (decide_eq_false (by rw [c0]; exact Bool.false_ne_true)) ?_; wp_walk using wpAny_loadPart' hl)
      | (refine wpAny_ite_true (decide_eq_true (by rw [c1])) ?_; wp_walk using wpAny_loadPart' hl))
    exact ⟨_, rfl, h⟩
theorem tuple_mulW0 (l : Addr) (items : Array Value) (n : Nat) (dd : Option Addr) (sl : Array (Option Value)) (x : Int) (u : Tok) (c0 : (decide (x < -(2 ^ 63)) || decide (x ≥ 2 ^ 63)) = false) (c1 : (items.isEmpty || x == 1) = false) (c2 : (decide (x ≤ 0) || items.isEmpty) = true) :
    Meets (Builtin.«tuple.__mul__» ⟨[.ref l, .int x u], []⟩) (fun _ R s => s.heap.get? l = some { cls := .type "tuple", dict := dd, data := .seq items n, slots := sl } ∧
      R (.ok (.ret (Value.ref s.heap.objs.size))) { s with heap := s.heap.push { cls := Value.type "tuple", data := Data.seq #[] }, toks := s.toks }) :=
  .of_wp fun prog w A R s h => by
    obtain ⟨hp, g, d, tk, os⟩ := s
    obtain ⟨hl, h⟩ := h
    have f1 := AutoSeq1.idx_int
    wp_walk using wpAny_loadPart' hl
    repeat (first
      | (refine wpAny_ite_false (decide_eq_false (by rw [c0]; exact Bool.false_ne_true)) ?_; wp_walk using wpAny_loadPart' hl)
      | (refine wpAny_ite_false (decide_eq_false (by rw [c1]; exact Bool.false_ne_true)) ?_; wp_walk using wpAny_loadPart' hl)
      | (refine wpAny_ite_true (decide_eq_true (by rw [c2])) ?_; wp_walk using wpAny_loadPart' hl))
    exact ⟨_, rfl, h⟩
def rRepS (K : PySem.W.Frag) : R2 := fun x y H Q => ∃ l k xs, x = .ref l ∧ y = .int k ∧ SqL K H l xs ∧ 0 ≤ k ∧ k < 1000000 ∧ xs.length * k.toNat ≤ sizeLine ∧
  ∀ p, H p = none → Q (.ref p) (upd H p (.lst (List.replicate k.toNat xs).flatten))
def rRepA (K : PySem.W.Frag) : R2 := fun x y H Q => ∃ l k xs, x = .ref l ∧ y = .int k ∧ SqT K H l xs ∧ 0 ≤ k ∧ k < 1000000 ∧ xs.length * k.toNat ≤ sizeLine ∧
  (xs = [] ∨ k = 1 → Q (.ref l) H) ∧ (∀ p, H p = none → Q (.ref p) (upd H p (.tup (List.replicate k.toNat xs).flatten)))
section
variable {X : Cx}
theorem op_repS : OpR X (binaryOp .Mult) (rRepS X.K) := by
  intro pins s σ H x y v u Q I rx ry h
  obtain ⟨l, k, xs, rfl, rfl, hH, h1, h2, hz, q⟩ := h
  cases rx
  obtain ⟨t, rfl⟩ := ry
  obtain ⟨its, r, ⟨⟨cls, dd, data, sl⟩, n, ho, hc, hd, hs⟩, z⟩ := I.list hH
  simp only at hc hd hs
  subst hc hd hs
  have hl : its.length = xs.length := r.length.symm
  have hlen : its.toArray.size * k.toNat ≤ sizeLine := by rw [List.size_toArray, hl]; exact hz
  have hcap : ¬ its.toArray.size * k.toNat > (2 ^ 63 - 1) / 8 := by
    have : (sizeLine : Nat) ≤ (2 ^ 63 - 1) / 8 := by decide
    omega
  have hfit : ¬ (!Builtin.List.listFitsIndex k) = true := by
    rw [fitsIndex_both (by omega) (by omega)]
    exact Bool.false_ne_true
  have hlong : ¬ Builtin.List.listTooLong (its.toArray.size * k.toNat) = true := by
    rw [notLongL hlen]
    exact Bool.false_ne_true
  have hnew : List.foldl (fun x1 x2 => x1 ++ x2) #[] (List.replicate (if its.toArray.isEmpty = true then 0 else k.toNat) its.toArray) = (List.replicate k.toNat its).flatten.toArray := by
    have f0 : ∀ m : Nat, List.foldl (fun x1 x2 => x1 ++ x2) #[] (List.replicate m its.toArray) = (List.replicate m its).flatten.toArray := fun m => by
      have := foldl_rep its m []
      rw [List.nil_append] at this
      exact this
    rw [f0]
    cases its with
    | nil => simp
    | cons a r' => rw [if_neg (by simp)]
  refine wpAny_binaryOp_repeat_ref (T := "list") (U := "int") (by decide) ⟨_, ho, rfl⟩ (fun s' => typeIs_int s' k t) noFill_list_mul F.fills_int_mul F.slot_int_rmul repeat_list F.slot_int_index.lookup
    (call_meets F.slot_int_rmul (typeIs_int s k t) F.entry_int_rmul (F.args_int_rmul_2 _ _) (int_rmul_listW k t l its.toArray n none sl)
      ⟨ho, rfl, ⟨_, ho, rfl⟩, call_meets F.slot_list_mul ⟨_, ho, rfl⟩ F.entry_list_mul (F.args_list_mul_2 _ _) (list_mulW l its.toArray n none sl k t hfit hcap hlong) ⟨ho, ?_⟩⟩)
  rw [hnew]
  exact ⟨.ref _, _, I.lnew (t' := s.toks) (r.rep k.toNat) (by rw [PyProof.Rows.lm_len_rep_flat, Nat.mul_comm]; exact hz), rfl, q _ I.fresh⟩
theorem op_repA : OpR X (binaryOp .Mult) (rRepA X.K) := by
  intro pins s σ H x y v u Q I rx ry h
  obtain ⟨l, k, xs, rfl, rfl, hT, h1, h2, hz, q1, q2⟩ := h
  cases rx
  obtain ⟨t, rfl⟩ := ry
  obtain ⟨its, r, ⟨⟨cls, dd, data, sl⟩, ho, hc, n, hd⟩, hs⟩ := I.tuple hT
  simp only at hc hd
  subst hc hd
  have hle : its.length = xs.length := r.length.symm
  have c0 : (decide (k < -(2 ^ 63)) || decide (k ≥ 2 ^ 63)) = false := by
    rw [decide_eq_false (by omega), decide_eq_false (by omega)] <;> rfl
  have go := fun (R : (Value → Shared → Prop)) hc => wpAny_binaryOp_repeat_ref (M := model X.prog X.w) (A := X.A) (E := X.xe) (Q := R) (s := s) (a := .ref l) (n := .int k t) (T := "tuple") (U := "int") (by decide) ⟨_, ho, rfl⟩ (fun s' => typeIs_int s' k t) noFill_tuple_mul F.fills_int_mul F.slot_int_rmul repeat_tuple F.slot_int_index.lookup
    (call_meets F.slot_int_rmul (typeIs_int s k t) F.entry_int_rmul (F.args_int_rmul_2 _ _) (int_rmul_tuple k t l its.toArray n dd sl)
      ⟨ho, rfl, ⟨_, ho, rfl⟩, hc⟩)
  by_cases hw : xs = [] ∨ k = 1
  · have c1 : (its.toArray.isEmpty || k == 1) = true := by
      rcases hw with hw | hw
      · subst hw
        cases its with
        | nil => rfl
        | cons => simp at hle
      · subst hw
        rw [Bool.or_eq_true]
        exact .inr rfl
    refine go _ (call_meets F.slot_tuple_mul ⟨_, ho, rfl⟩ F.entry_tuple_mul (F.args_tuple_mul_2 _ _) (tuple_mulW1 l its.toArray n dd sl k t c0 c1) ⟨ho, ?_⟩)
    exact ⟨.ref l, H, I, rfl, q1 hw⟩
  · have hne : xs ≠ [] := fun e => hw (.inl e)
    have hk : k ≠ 1 := fun e => hw (.inr e)
    have hi : its.toArray.isEmpty = false := by
      cases its with
      | nil => exact absurd (List.eq_nil_of_length_eq_zero hle.symm) hne
      | cons a b => rfl
    have c1 : (its.toArray.isEmpty || k == 1) = false := by
      rw [hi, Bool.false_or]
      exact beq_eq_false_iff_ne.mpr hk
    by_cases h0 : k ≤ 0
    · have k0 : k = 0 := by omega
      have c2 : (decide (k ≤ 0) || its.toArray.isEmpty) = true := by
        rw [decide_eq_true h0]
        rfl
      refine go _ (call_meets F.slot_tuple_mul ⟨_, ho, rfl⟩ F.entry_tuple_mul (F.args_tuple_mul_2 _ _) (tuple_mulW0 l its.toArray n dd sl k t c0 c1 c2) ⟨ho, ?_⟩)
      refine ⟨.ref s.heap.objs.size, _, I.laid (t' := s.toks) (o := .tup (List.replicate k.toNat xs).flatten) (fun b ob q => Heap.get?_push_of_some _ q) (Nat.le_refl _) ?_, rfl, q2 _ (I.hok.fresh (Nat.le_refl _))⟩
      subst k0
      exact ⟨Nat.zero_le _, [], .nil, IsTup.new _ _⟩
    · have flen : (List.replicate k.toNat its).flatten.length ≤ sizeLine := by
        rw [PyProof.Rows.lm_len_rep_flat, hle, Nat.mul_comm]
        exact hz
      have hm : ((its.toArray.size : Nat) : Int) * k ≤ (sizeLine : Int) := by
        rw [List.size_toArray, hle]
        have : ((xs.length * k.toNat : Nat) : Int) = (xs.length : Int) * k := by rw [Int.natCast_mul]; congr 1; omega
        omega
      have hs : (sizeLine : Int) ≤ (2 ^ 63 - 1) / 8 := by decide
      have c2 : (decide (k ≤ 0) || its.toArray.isEmpty) = false := by
        rw [hi, Bool.or_false]
        exact decide_eq_false h0
      have c4 : Builtin.Tuple.tupleTooMany (((its.toArray.size : Nat) : Int) * k) = false := by
        unfold Builtin.Tuple.tupleTooMany
        exact decide_eq_false (by omega)
      refine go _ (call_meets F.slot_tuple_mul ⟨_, ho, rfl⟩ F.entry_tuple_mul (F.args_tuple_mul_2 _ _) (tuple_mulW l its.toArray n dd sl k t c0 c1 c2 (by omega) c4 (by rw [size_rep, List.size_toArray]; exact flen)) ⟨ho, ?_⟩)
      rw [size_rep]
      refine ⟨.ref s.heap.objs.size, _, I.laid (t' := s.toks) (o := .tup (List.replicate k.toNat xs).flatten) (fun b ob q => Heap.get?_push_of_some _ q) (Nat.le_refl _) ?_, rfl, q2 _ (I.hok.fresh (Nat.le_refl _))⟩
      exact ⟨by rw [PyProof.Rows.lm_len_rep_flat, Nat.mul_comm]; exact hz, _, r.rep k.toNat, IsTup.new _ _⟩
end
end Lk

namespace Lk
open PySem L2 PyProof.Rows

/-! ### operators -/
/-! nothing but new objects -/
structure Grow (W W' : Wd) : Prop where
  g : W'.g = W.g
  i : W'.i = W.i
  k : W'.k = W.k
  H : ∀ a o, W.H a = some o → W'.H a = some o
theorem Grow.refl {W : Wd} : Grow W W := ⟨rfl, rfl, rfl, fun _ _ h => h⟩
theorem Grow.evo {b : Bool} {W W' : Wd} (x : Grow W W') : Evo b W W' :=
  ⟨fun _ _ => by rw [x.i], fun a vs h => x.H a _ h, fun a o h _ => x.H a o h, fun _ _ _ _ => by rw [x.g], fun _ a i h => .inl (by rw [x.g]; exact h), fun a o h => ⟨o, x.H a o h⟩, fun _ _ _ h => by rw [x.k]; exact h, fun _ _ _ h => .inl (by rw [x.g]; exact h)⟩
theorem Grow.vw {W W' : Wd} {p : Bool} (x : Grow W W') : Stay (W.vw p) (W'.vw p) := by
  have hB : ∀ l, W.B l → W'.B l := fun l h => by show W'.g (W'.i l) = _; rw [x.g, x.i]; exact h
  cases p
  · exact ⟨fun l h => ⟨by show W'.i l = W.i l; rw [x.i], hB l h⟩, fun a vs h => x.H a _ h, fun a o z h => ⟨by show W'.g a = _; rw [x.g]; exact z, x.H a o h⟩⟩
  · exact ⟨fun l h => ⟨by show W'.i l = W.i l; rw [x.i], hB l h⟩, fun a vs h => x.H a _ h, fun a o z h => ⟨by show readP (W'.g a); rw [x.g]; exact z, x.H a o h⟩⟩
theorem Grow.nw {W : Wd} {a : Addr} {o : HO} (h : W.H a = none) : Grow W (W.nw a o) := ⟨rfl, rfl, rfl, nw_keep h⟩
theorem Grow.fr {G : Gm} {W W' : Wd} {s : Stt} {t : L2.St} (x : Grow W W') (R : Fr G W s t) : Fr G W' s t := R.evo (b := false) x.evo x.g x.i x.H
theorem Grow.trans {W W' W'' : Wd} (x : Grow W W') (y : Grow W' W'') : Grow W W'' := ⟨y.g.trans x.g, y.i.trans x.i, y.k.trans x.k, fun a o h => y.H a o (x.H a o h)⟩

section
variable {G : Gm} {W W' : Wd} {p : Bool} {d : D} {v : V} {a : Addr}
theorem new_lst {ds : List D} {vs : List V} (h : W.H a = none) (r : RZs G (W.vw p) ds vs) : NewR G W (W.nw a (.lst vs)) p (.lst ds) (.ref a) :=
  .inr ⟨a, rfl, h, .lst upd_same (r.stay (Grow.nw h).vw)⟩
theorem new_tup {ds : List D} {vs : List V} (h : W.H a = none) (r : RZs G (W.vw p) ds vs) : NewR G W (W.nw a (.tup vs)) p (.tup ds) (.ref a) := by
  refine .inl ⟨rfl, .tup (.inl ?_) (r.stay (Grow.nw h).vw)⟩
  have : ((W.nw a (.tup vs)).vw p).H = (W.nw a (.tup vs)).H := by cases p <;> rfl
  rw [this]; exact upd_same
theorem new_same {ds : List D} (h : TZ G W p (.tup ds) v) : NewR G W W p (.tup ds) v := by
  rcases h with h | ⟨a, e, h⟩
  · exact .inl ⟨rfl, h⟩
  · cases h
theorem new_int {n : Int} : NewR G W W p (.int n) (.int n) := .inl ⟨rfl, .int n⟩
theorem new_bl {n : Bool} : NewR G W W p (.bl n) (.bl n) := .inl ⟨rfl, .bl n⟩
theorem new_str {n : Str} : NewR G W W p (.str n) (.str n) := .inl ⟨rfl, .str n⟩
end

/-! the end that an operator's rule asks -/
def isI : D → Bool
  | .int _ => true
  | _ => false
def Fin (G : Gm) (W : Wd) (p : Bool) (d : D) (Q : VK) : Prop := ∀ W' v, Grow W W' → NewR G W W' p d v → (isI d = true → W' = W) → Q v W'.H
def bOp : BOp → Operator
  | .add => .Add | .sub => .Sub | .mul => .Mult | .fdiv => .FloorDiv | .mod => .Mod | .pow => .Pow | .band => .BitAnd | .bxor => .BitXor | .shr => .RShift
def rBin (G : Gm) (op : BOp) : R2 := fun x y H Q => ∃ W p da db d, W.H = H ∧ TZ G W p da x ∧ TZ G W p db y ∧ binD op da db = some d ∧ Fin G W p d Q
/-! lists, of the script or the module, too -/
def rCatS (K : PySem.W.Frag) : R2 := fun x y H Q => ∃ l b xs zs, x = .ref l ∧ y = .ref b ∧ SqL K H l xs ∧ SqL K H b zs ∧ xs.length + zs.length ≤ sizeLine ∧ ∀ p, H p = none → Q (.ref p) (upd H p (.lst (xs ++ zs)))
section
variable {X : Cx}
theorem op_catS : OpR X (binaryOp .Add) (rCatS X.K) := by
  intro pins s σ H x y v u Q I rx ry h
  obtain ⟨l, b, xs, zs, rfl, rfl, hH, hB, hz, q⟩ := h
  cases rx
  cases ry
  obtain ⟨its, r, ⟨⟨cls, dd, data, sl⟩, n, ho, hc, hd, hs⟩, z⟩ := I.list hH
  obtain ⟨its2, r2, ⟨⟨cls2, dd2, data2, sl2⟩, n2, ho2, hc2, hd2, hs2⟩, z2⟩ := I.list hB
  simp only at hc hd hs hc2 hd2 hs2
  subst hc hd hs hc2 hd2 hs2
  have e1 := r.length
  have e2 := r2.length
  refine concat_meets ⟨_, ho, rfl⟩ ⟨_, ho2, rfl⟩ noFill_list_add seq_list_add PySem.F.slot_list_add PySem.F.entry_list_add (PySem.F.args_list_add_2 _ _) (list_addW l b its.toArray its2.toArray n n2 none none sl sl2 (by simp only [List.size_toArray]; omega)) ⟨ho, ho2, ?_⟩
  have ea : its.toArray ++ its2.toArray = (its ++ its2).toArray := by simp
  rw [ea]
  exact ⟨.ref _, _, I.lnew (t' := s.toks) (r.append r2) (by rw [List.length_append]; omega), rfl, q _ I.fresh⟩
theorem line_size {n : Nat} (h : n ≤ line) : n ≤ sizeLine := by rw [sizeLine_eq]; unfold line at h; omega
theorem opBin {G : Gm} (hK : X.K = G.K) (op : BOp) : OpR X (binaryOp (bOp op)) (rBin G op) := by
  intro pins s σ H x y v u Q I rx ry ⟨W, p, da, db, d, hH, ta, tb, e, q⟩
  subst hH
  have int2 : ∀ {i j : Int} {r : R2} {k : Int}, da = .int i → db = .int j → OpR X (binaryOp (bOp op)) r → r (.int i) (.int j) W.H Q → wpAny (model X.prog X.w) X.A (binaryOp (bOp op) v u) (EP X pins σ Q) X.xe s := fun {i j r k} e1 e2 o h => by
    subst e1 e2
    rw [ta.int] at rx
    rw [tb.int] at ry
    exact o pins s σ W.H _ _ v u Q I rx ry h
  cases op with
  | add =>
    cases da with
    | int i =>
      cases db with
      | int j => cases e; exact int2 (k := 0) rfl rfl op_add ⟨i, j, rfl, rfl, q W _ .refl new_int fun _ => rfl⟩
      | _ => cases e
    | lst xs =>
      cases db with
      | lst ys =>
        simp only [binD] at e
        split at e
        · rename_i hz
          cases e
          obtain ⟨a, vs, rfl, h1, r1⟩ := ta.list
          obtain ⟨b, ws, rfl, h2, r2⟩ := tb.list
          exact op_catS pins s σ W.H _ _ v u Q I rx ry ⟨a, b, vs, ws, rfl, rfl, hK ▸ h1, hK ▸ h2, by rw [← r1.length, ← r2.length]; exact line_size hz, fun c hc => q (W.nw c _) _ (.nw hc) (new_lst hc (r1.append r2)) fun z => by cases z⟩
        · cases e
      | _ => cases e
    | tup xs =>
      cases db with
      | tup ys =>
        simp only [binD] at e
        split at e
        · rename_i hz
          cases e
          obtain ⟨a, vs, ea, h1, r1⟩ := ta.tuple
          obtain ⟨b, ws, eb, h2, r2⟩ := tb.tuple
          subst ea eb
          refine op_catA pins s σ W.H _ _ v u Q I rx ry ⟨a, b, vs, ws, rfl, rfl, hK ▸ h1, hK ▸ h2, by rw [← r1.length, ← r2.length]; exact line_size hz, fun hx => ?_, fun _ hy => ?_, fun _ _ c hc => q (W.nw c _) _ (.nw hc) (new_tup hc (r1.append r2)) fun z => by cases z⟩
          · subst hx
            cases r1
            exact q W _ .refl (new_same tb) fun _ => rfl
          · subst hy
            cases r2
            rw [List.append_nil] at q
            exact q W _ .refl (new_same ta) fun _ => rfl
        · cases e
      | _ => cases e
    | str xs =>
      cases db with
      | str ys =>
        simp only [binD] at e
        split at e
        · rename_i hz
          cases e
          rw [ta.str] at rx
          rw [tb.str] at ry
          exact op_add_str pins s σ W.H _ _ v u Q I rx ry ⟨_, _, rfl, rfl, line_size hz, q W _ .refl new_str fun _ => rfl⟩
        · cases e
      | _ => cases e
    | _ => cases e
  | sub =>
    cases da with
    | int i =>
      cases db with
      | int j => cases e; exact int2 (k := 0) rfl rfl op_sub ⟨i, j, rfl, rfl, q W _ .refl new_int fun _ => rfl⟩
      | _ => cases e
    | _ => cases e
  | mul =>
    cases da with
    | int i =>
      cases db with
      | int j =>
        simp only [binD] at e
        split at e
        · rename_i hz
          cases e
          unfold okMul at hz
          rw [Bool.or_eq_true] at hz
          rcases hz with hz | hz
          · refine int2 (k := 0) rfl rfl op_mul ⟨i, j, rfl, rfl, ?_, q W _ .refl new_int fun _ => rfl⟩
            simpa [CMul] using hz
          · exact int2 (k := 0) rfl rfl op_mulW ⟨i, j, rfl, rfl, (of_decide_eq_true hz : i.natAbs.log2 + j.natAbs.log2 < 1000000), q W _ .refl new_int fun _ => rfl⟩
        · cases e
      | _ => cases e
    | lst xs =>
      cases db with
      | int k =>
        simp only [binD] at e
        split at e
        · rename_i hz
          cases e
          obtain ⟨a, vs, rfl, h1, r1⟩ := ta.list
          rw [tb.int] at ry
          exact op_repS pins s σ W.H _ _ v u Q I rx ry ⟨a, k, vs, rfl, rfl, hK ▸ h1, hz.1, hz.2.1, by rw [← r1.length, Nat.mul_comm]; exact line_size hz.2.2, fun c hc => q (W.nw c _) _ (.nw hc) (new_lst hc (r1.rep k.toNat)) fun z => by cases z⟩
        · cases e
      | _ => cases e
    | tup xs =>
      cases db with
      | int k =>
        simp only [binD] at e
        split at e
        · rename_i hz
          cases e
          obtain ⟨a, vs, ea, h1, r1⟩ := ta.tuple
          subst ea
          rw [tb.int] at ry
          refine op_repA pins s σ W.H _ _ v u Q I rx ry ⟨a, k, vs, rfl, rfl, hK ▸ h1, hz.1, hz.2.1, by rw [← r1.length, Nat.mul_comm]; exact line_size hz.2.2, fun hx => ?_, fun c hc => q (W.nw c _) _ (.nw hc) (new_tup hc (r1.rep k.toNat)) fun z => by cases z⟩
          have e2 : (List.replicate k.toNat xs).flatten = xs := by
            rcases hx with hx | hx
            · subst hx
              cases r1
              simp
            · subst hx
              simp
          rw [e2] at q
          exact q W _ .refl (new_same ta) fun _ => rfl
        · cases e
      | _ => cases e
    | _ => cases e
  | fdiv =>
    cases da with
    | int i =>
      cases db with
      | int j =>
        simp only [binD] at e
        split at e
        · rename_i hz
          cases e
          rcases hz.2 with hz2 | hz2
          · exact int2 (k := 0) rfl rfl op_fdivN ⟨i, j, rfl, rfl, ⟨hz.1, hz2⟩, q W _ .refl new_int fun _ => rfl⟩
          · rw [Int.fdiv_eq_ediv_of_nonneg _ (by omega)] at q
            exact int2 (k := 0) rfl rfl op_fdivW ⟨i, j, rfl, rfl, hz2, q W _ .refl new_int fun _ => rfl⟩
        · cases e
      | _ => cases e
    | _ => cases e
  | mod =>
    cases da with
    | int i =>
      cases db with
      | int j =>
        simp only [binD] at e
        split at e
        · rename_i hz
          cases e
          exact int2 (k := 0) rfl rfl op_modN ⟨i, j, rfl, rfl, hz, q W _ .refl new_int fun _ => rfl⟩
        · cases e
      | _ => cases e
    | _ => cases e
  | pow =>
    cases da with
    | int i =>
      cases db with
      | int j =>
        simp only [binD] at e
        split at e
        · rename_i hz
          cases e
          exact int2 (k := 0) rfl rfl op_pow ⟨i, j, rfl, rfl, hz, q W _ .refl new_int fun _ => rfl⟩
        · cases e
      | _ => cases e
    | _ => cases e
  | band =>
    cases da with
    | int i =>
      cases db with
      | int j => cases e; exact int2 (k := 0) rfl rfl op_and ⟨i, j, rfl, rfl, q W _ .refl new_int fun _ => rfl⟩
      | _ => cases e
    | _ => cases e
  | bxor =>
    cases da with
    | int i =>
      cases db with
      | int j => cases e; exact int2 (k := 0) rfl rfl op_xor ⟨i, j, rfl, rfl, q W _ .refl new_int fun _ => rfl⟩
      | _ => cases e
    | _ => cases e
  | shr =>
    cases da with
    | int i =>
      cases db with
      | int j =>
        simp only [binD] at e
        split at e
        · rename_i hz
          cases e
          exact int2 (k := 0) rfl rfl op_shr ⟨i, j, rfl, rfl, hz, q W _ .refl new_int fun _ => rfl⟩
        · cases e
      | _ => cases e
    | _ => cases e
end
end Lk

namespace Lk
open PySem L2

/-! ### a def's promise -/
def ArgR (G : Gm) (W : Wd) : Cell → V → Prop
  | .fz d, v => RZ G W.fz d v
  | .br d, v => RZ G W.bp d v
  | _, _ => False
def ResR (G : Gm) (W W' : Wd) : Cell → V → Prop
  | .fz d, v => RZ G W'.fz d v
  | .own d, v => ∃ a, v = .ref a ∧ W'.g a = none ∧ LR G W' d a ∧ W.H a = none
  | _, _ => False
def frameR : Option Role → Prop
  | some (.slot _) => True
  | some (.rds _) => True
  | _ => False
def spD (G : Gm) (f : Den) : Sp := fun vs H Q E => ∃ W S cs r S', W.H = H ∧ Rel G W S ∧ (∀ a, ¬ frameR (W.g a)) ∧ Paired (ArgR G W) cs vs ∧ f cs S = some (r, S') ∧
  match r with
  | .ok c => ∀ W' v, Evo true W W' → Rel G W' S' → (∀ a, ¬ frameR (W'.g a)) → ResR G W W' c v → Q v W'.H
  | .ex c p => ∀ W' dx, Evo true W W' → Rel G W' S' → (∀ a, ¬ frameR (W'.g a)) → ExR G W' p dx → E (.ref (G.E c)) dx W'.H
theorem spD_len {G : Gm} {f : Den} {n : Nat} (h : ∀ cs S r, f cs S = some r → cs.length = n) (vs : List V) (H : Hp) (Q : VK) (E : XK) (q : spD G f vs H Q E) : vs.length = n := by
  obtain ⟨W, S, cs, r, S', _, _, _, pa, e, _⟩ := q
  rw [← h _ _ _ e]
  exact (Paired.length pa).symm

def Wd.rm (W : Wd) : Wd := ⟨fun a => rmR (W.g a), W.i, W.H, W.k⟩
section
variable {G : Gm} {W W0 W' W'' : Wd} {S : Sto} {s s' : Stt} {t : L2.St} {p : Bool} {d : D} {v : V} {a : Addr} {m : Md}
theorem rm_fro : rmR (W.g a) = some .fro ↔ W.g a = some .fro := by
  cases e : W.g a with
  | none => simp [rmR]
  | some r => cases r <;> simp [rmR]
theorem rm_box {l : Nat} : rmR (W.g a) = some (.box l) ↔ W.g a = some (.box l) := by
  cases e : W.g a with
  | none => simp [rmR]
  | some r => cases r <;> simp [rmR]
theorem rm_fz : Stay W.fz W.rm.fz := ⟨fun l h => ⟨rfl, rm_box.mpr h⟩, fun _ _ e => e, fun a o z e => ⟨rm_fro.mpr z, e⟩⟩
theorem rm_bp : Stay W.bp W.rm.bp := by
  refine ⟨fun l h => ⟨rfl, rm_box.mpr h⟩, fun _ _ e => e, fun a o z e => ⟨?_, e⟩⟩
  have z : readP (W.g a) := z
  show readP (rmR (W.g a))
  cases q : W.g a with
  | none => rw [q] at z; exact z.elim
  | some r => rw [q] at z; cases r <;> first | exact z.elim | trivial
theorem Rel.rm (R : Rel G W S) : Rel G W.rm S := by
  refine ⟨fun l o e => ?_, fun l hl z => R.top l hl (rm_box.mp z), fun a r e => ?_⟩
  · obtain ⟨hb, x⟩ := R.box l o e
    refine ⟨rm_box.mpr hb, x.stay rm_fz hb rfl fun c k v q => ?_⟩
    cases c with
    | fz d => exact RZ.stay rm_fz q
    | own d =>
      obtain ⟨a, e, g, l⟩ := q
      exact ⟨a, e, by show rmR _ = _; rw [g]; rfl, l.stay rm_fz rfl⟩
    | rd d =>
      obtain ⟨a, e', e, g, l, kk⟩ := q
      exact ⟨a, true, e, by show rmR _ = _; rw [g]; rfl, l.stay rm_fz rfl, kk⟩
    | br d => exact q
  · have e : rmR (W.g a) = some r := e
    cases q : W.g a with
    | none => rw [q] at e; cases e
    | some r' => exact R.trk a r' q
theorem rm_nf : ∀ a, ¬ frameR (W.rm.g a) := fun a => by
  show ¬ frameR (rmR (W.g a))
  cases q : W.g a with
  | none => exact id
  | some r => cases r <;> exact id
/-! readable now, whoever looks -/
theorem LR.rmz (l : LR G W d a) (z : readP (rmR (W.g a))) : RZ G W.rm.bp d (.ref a) := by
  have y : Stay W.fz W.rm.bp := ⟨fun l h => ⟨rfl, rm_box.mpr h⟩, fun _ _ e => e, fun c o q e => ⟨by show readP (rmR (W.g c)); rw [show W.g c = _ from q]; trivial, e⟩⟩
  cases l with
  | lst e r => exact .lst (.inl ⟨z, .inl e⟩) (r.stay y)
  | dic e k r => exact .dic z e k (r.stay y)
theorem slR_read {i : Nat} (h : slR i (W.g a)) : readP (rmR (W.g a)) := by
  cases q : W.g a with
  | none => rw [q] at h; exact h.elim
  | some r => rw [q] at h; cases r <;> first | exact h.elim | trivial

/-! back from a call -/
def backR : Option Role → Prop
  | some (.slot _) => True
  | some (.rds _) => True
  | some (.rdf _ _ _) => True
  | some .brw => True
  | _ => False
instance (r : Option Role) : Decidable (backR r) := by
  cases r with
  | none => exact .isFalse id
  | some r => cases r <;> first | exact .isTrue trivial | exact .isFalse id
def Wd.bk (W W' : Wd) : Wd := ⟨fun a => if backR (W.g a) then W.g a else W'.g a, W'.i, W'.H, W'.k⟩
theorem bk_yes (h : backR (W.g a)) : (W.bk W').g a = W.g a := by
  show (if backR (W.g a) then W.g a else W'.g a) = _
  rw [if_pos h]
theorem bk_no (h : ¬ backR (W.g a)) : (W.bk W').g a = W'.g a := by
  show (if backR (W.g a) then W.g a else W'.g a) = _
  rw [if_neg h]
theorem back_there (tr : ∀ a r, W.g a = some r → ∃ o, W.H a = some o) (h : backR (W.g a)) : ∃ o, W.H a = some o := by
  cases e : W.g a with
  | none => rw [e] at h; exact h.elim
  | some r => exact tr a r e
theorem back_role (tr : ∀ a r, W.g a = some r → ∃ o, W.H a = some o) (x : Evo true W.rm W') (h : backR (W.g a)) : W'.g a = rmR (W.g a) := by
  obtain ⟨o, ho⟩ := back_there tr h
  refine x.role a o ho ?_
  show stabR (rmR (W.g a))
  cases e : W.g a with
  | none => rw [e] at h; exact h.elim
  | some r => rw [e] at h; cases r <;> first | exact h.elim | trivial
theorem bk_keep (tr : ∀ a r, W.g a = some r → ∃ o, W.H a = some o) (x : Evo true W.rm W') {r : Option Role} (h : W'.g a = r) (n1 : r ≠ some .brw) (n2 : ∀ l k, r ≠ some (.rdf true l k)) : (W.bk W').g a = r := by
  by_cases q : backR (W.g a)
  · have e := back_role tr x q
    rw [h] at e
    exfalso
    cases z : W.g a with
    | none => rw [z] at q; exact q.elim
    | some r' =>
      rw [z] at q e
      cases r' <;> first | exact q.elim | exact n1 e | exact n2 _ _ e
  · rw [bk_no q]; exact h
theorem bk_fz (tr : ∀ a r, W.g a = some r → ∃ o, W.H a = some o) (x : Evo true W.rm W') : Stay W'.fz (W.bk W').fz :=
  ⟨fun l h => ⟨rfl, bk_keep tr x h (fun z => by cases z) (fun _ _ z => by cases z)⟩, fun _ _ e => e, fun a o z e => ⟨bk_keep tr x z (fun z => by cases z) (fun _ _ z => by cases z), e⟩⟩
theorem bk_evo (tr : ∀ a r, W.g a = some r → ∃ o, W.H a = some o) (x : Evo true W.rm W') : Evo false W (W.bk W') := by
  refine ⟨fun l h => x.io l (rm_box.mpr h), x.tup, fun a o h m => x.keep a o h ?_, fun a o h q => ?_, fun _ a i h => .inl ?_, x.there, x.lk, fun a l k h => ?_⟩
  · show ¬ mutR true (rmR (W.g a))
    cases e : W.g a with
    | none => exact id
    | some r =>
      rw [e] at m
      cases r <;> first | exact m | exact id
  · by_cases b : backR (W.g a)
    · exact bk_yes b
    · rw [bk_no b]
      have e : rmR (W.g a) = W.g a := by
        cases z : W.g a with
        | none => rfl
        | some r => rw [z] at b; cases r <;> first | rfl | exact absurd trivial b
      have := x.role a o h (by show stabR (rmR (W.g a)); rw [e]; exact q)
      rw [this]; exact e
  · rw [bk_yes (by rw [h]; trivial)]; exact h
  · rw [bk_no (by rw [h]; exact id)]
    exact x.fld a l k (by show rmR (W.g a) = _; rw [h]; rfl)
theorem bk_rel (tr : ∀ a r, W.g a = some r → ∃ o, W.H a = some o) (x : Evo true W.rm W') (R : Rel G W' S) : Rel G (W.bk W') S := by
  refine ⟨fun l o e => ?_, fun l hl z => R.top l hl ?_, fun a r e => ?_⟩
  · obtain ⟨hb, q⟩ := R.box l o e
    refine ⟨bk_keep tr x hb (fun z => by cases z) (fun _ _ z => by cases z), q.stay (bk_fz tr x) hb rfl fun c k v q => ?_⟩
    cases c with
    | fz d => exact RZ.stay (bk_fz tr x) q
    | own d =>
      obtain ⟨a, e, g, l⟩ := q
      exact ⟨a, e, bk_keep tr x g (fun z => by cases z) (fun _ _ z => by cases z), l.stay (bk_fz tr x) rfl⟩
    | rd d =>
      obtain ⟨a, e', e, g, l, kk⟩ := q
      by_cases b : backR (W.g a)
      · have z := back_role tr x b
        rw [g] at z
        cases y : W.g a with
        | none => rw [y] at b; exact b.elim
        | some r =>
          rw [y] at z
          cases r with
          | rdf e2 l2 k2 => cases z; exact ⟨a, e2, e, by rw [bk_yes b, y], l.stay (bk_fz tr x) rfl, kk⟩
          | _ => cases z
      · exact ⟨a, e', e, by rw [bk_no b]; exact g, l.stay (bk_fz tr x) rfl, kk⟩
    | br d => exact q
  · have z : (W.bk W').g (W'.i l) = some (.box l) := z
    by_cases b : backR (W.g (W'.i l))
    · rw [bk_yes b] at z
      rw [z] at b; exact b.elim
    · rw [bk_no b] at z; exact z
  · by_cases b : backR (W.g a)
    · obtain ⟨o, ho⟩ := back_there tr b
      exact x.there a o ho
    · rw [bk_no b] at e; exact R.trk a r e
theorem bk_fr {s' : Sto} (R : Fr G W s t) (x : Evo true W.rm W') (R' : Rel G W' s') : Fr G (W.bk W') { s with S := s' } t := by
  have tr := R.rel.trk
  have y := bk_evo tr x
  refine ⟨bk_rel tr x R', R.len, fun i c e => ?_⟩
  obtain ⟨v, e1, q⟩ := R.slt i c e
  refine ⟨v, e1, ?_⟩
  cases c with
  | fz d => exact RZ.stay (y.fz tr) q
  | br d => exact RZ.stay (y.bp tr) q
  | own d =>
    obtain ⟨a, e, g, l⟩ := q
    exact ⟨a, e, by rw [bk_yes (by rw [g]; trivial)]; exact g, l.evo y tr (by rw [g]; intro z; cases z)⟩
  | rd d =>
    obtain ⟨a, e, g, l, kk⟩ := q
    exact ⟨a, e, by rw [bk_yes (by rw [g]; trivial)]; exact g, l.evo y tr (by rw [g]; exact id), y.lk _ _ _ kk⟩

/-! a call: what its arguments, its def promise -/
theorem call_ok {f : Den} {cs : List Cell} {vs : List V} {r : Ou Cell} {Q : VK} {E : XK} (R : Fr G W s t) (hc : Paired (ArgR G W.rm) cs vs) (e : runD f cs s = some (r, s'))
    (h : match r with
      | .ok c => ∀ W' v, Evo false W W' → Fr G W' s' t → CelR G W W' c v → Q v W'.H
      | .ex c p => ∀ W' dx, Evo false W W' → Fr G W' s' t → ExR G W' p dx → E (.ref (G.E c)) dx W'.H) : spD G f vs W.H Q E := by
  have tr := R.rel.trk
  unfold runD at e
  have ex_stay : ∀ {W'} {p : Option D} {dx : Option Addr}, Evo true W.rm W' → ExR G W' p dx → ExR G (W.bk W') p dx := fun {W' p dx} x h => by
    cases p <;> cases dx <;> first | exact h | exact h.elim | skip
    obtain ⟨v, g1, h1, h2⟩ := h
    exact ⟨v, ((bk_fz tr x).z _ _ g1 h1).1, h1, h2.stay (bk_fz tr x)⟩
  split at e
  · rename_i d S' hf
    cases e
    refine ⟨W.rm, s.S, cs, _, S', rfl, R.rel.rm, rm_nf, hc, hf, fun W' v x R' _ q => ?_⟩
    exact h (W.bk W') v (bk_evo tr x) (bk_fr R x R') (RZ.stay (bk_fz tr x) q)
  · rename_i d S' hf
    cases e
    refine ⟨W.rm, s.S, cs, _, S', rfl, R.rel.rm, rm_nf, hc, hf, fun W' v x R' _ q => ?_⟩
    obtain ⟨a, e, g, l, h0⟩ := q
    exact h (W.bk W') v (bk_evo tr x) (bk_fr R x R') ⟨a, e, bk_keep tr x g (fun z => by cases z) (fun _ _ z => by cases z), l.stay (bk_fz tr x) rfl, h0⟩
  · rename_i c p S' hf
    cases e
    refine ⟨W.rm, s.S, cs, _, S', rfl, R.rel.rm, rm_nf, hc, hf, fun W' dx x R' _ q => ?_⟩
    exact h (W.bk W') dx (bk_evo tr x) (bk_fr R x R') (ex_stay x q)
  · cases e
end
end Lk

namespace Lk
open PySem L2

/-! ### two expressions in a row, then an answer -/
/-! the answer as the operator's rule leaves it -/
def PreR (G : Gm) (W W' : Wd) : Cell → V → Prop
  | .fz d, v => RZ G W'.fz d v
  | .own d, v => ∃ a, v = .ref a ∧ W.H a = none ∧ LR G W' d a
  | .br d, v => RZ G W'.bp d v ∨ ∃ a, v = .ref a ∧ W.H a = none ∧ LP G W' true d a
  | .rd _, _ => False
section
variable {G : Gm} {W W0 W1 W2 W3 W4 W' : Wd} {S : Sto} {s s' : Stt} {t : L2.St} {p : Bool} {d : D} {v : V} {a : Addr} {m : Md} {c : Cell}
theorem LP.own_ (h : LP G W p d a) (q : (p && !flatL d) = false) : LR G W d a := by
  cases p with
  | false => exact h.lr
  | true =>
    have s0 : Same0 W.bp W.fz := ⟨fun l h => ⟨rfl, h⟩, fun _ _ e => e⟩
    cases h with
    | lst e r => exact .lst e (RZs.flat s0 r (by simpa [flatL] using q))
    | dic e k r => exact .dic e k (RZs.flat s0 r (by simpa [flatL] using q))
theorem new_pre (h : NewR G W W' p d v) : PreR G W W' (cellNew p d) v := by
  unfold cellNew
  rcases h with ⟨nl, h⟩ | ⟨a, e, ha, h⟩
  · have fe : flatL d = flat d := by cases d <;> first | rfl | cases nl
    rw [fe]
    cases q : (p && !flat d) with
    | true => rw [if_pos rfl]; exact .inl (vw_bp h)
    | false =>
      rw [if_neg (by simp)]
      have hz : RZ G W'.fz d v := by
        cases p with
        | false => exact h
        | true => exact vw_flat h (by simpa using q)
      cases d <;> first | exact hz | cases nl
  · subst e
    cases q : (p && !flatL d) with
    | true =>
      rw [if_pos rfl]
      have hp : p = true := by cases p <;> first | rfl | simp at q
      subst hp
      exact .inr ⟨a, rfl, ha, h⟩
    | false =>
      rw [if_neg (by simp)]
      have hl := h.own_ q
      cases hl with
      | lst q r => exact ⟨a, rfl, ha, .lst q r⟩
      | dic q k r => exact ⟨a, rfl, ha, .dic q k r⟩
theorem in_pre (h : RZ G (W'.vw p) d v) : PreR G W W' (cellIn p d) v := by
  unfold cellIn
  cases q : (p && !flat d) with
  | true => rw [if_pos rfl]; exact .inl (vw_bp h)
  | false =>
    rw [if_neg (by simp)]
    cases p with
    | false => exact h
    | true => exact vw_flat h (by simpa using q)
theorem LP.tr (h : LP G W true d a) (y : Stay W.bp W'.bp) (e : W'.H = W.H) : LP G W' true d a := by
  cases h with
  | lst q r => exact .lst (by rw [e]; exact q) (r.stay y)
  | dic q k r => exact .dic (by rw [e]; exact q) k (r.stay y)
theorem pre_fin (x : Evo false W0 W3) (tr : ∀ a r, W0.g a = some r → ∃ o, W0.H a = some o) (hH : W3.H = W4.H) (yf : Stay W4.fz W3.fz) (yb : Stay W4.bp W3.bp) (free : ∀ a, W2.H a = none → W3.g a = none ∧ W0.H a = none)
    (R : Fr G W3 s t) (h : PreR G W2 W4 c v) : ∃ W5, W5.H = W4.H ∧ Evo false W0 W5 ∧ Fr G W5 s t ∧ CelR G W0 W5 c v ∧ (W4 = W2 → W5 = W3) := by
  cases c with
  | fz d => exact ⟨W3, hH, x, R, RZ.stay yf h, fun _ => rfl⟩
  | own d =>
    obtain ⟨a, e, ha, l⟩ := h
    obtain ⟨f1, f2⟩ := free a ha
    exact ⟨W3, hH, x, R, ⟨a, e, f1, l.stay yf (by rw [hH]), f2⟩, fun _ => rfl⟩
  | br d =>
    rcases h with h | ⟨a, e, ha, l⟩
    · exact ⟨W3, hH, x, R, RZ.stay yb h, fun _ => rfl⟩
    · subst e
      obtain ⟨f1, f2⟩ := free a ha
      obtain ⟨R2, z⟩ := claim_bp R (l.tr yb hH) f1
      refine ⟨W3.sg a (some .fro), hH, x.claim f2 tr, R2, z, fun ez => ?_⟩
      obtain ⟨o, ho⟩ := l.there
      rw [ez, ha] at ho; cases ho
  | rd d => exact h.elim
/-! what is wanted behind: an answer c, left by the rule -/
def FinC (G : Gm) (sx : Bool) (W2 : Wd) (c : Cell) (Q : VK) : Prop := ∀ W4 v, Grow W2 W4 → PreR G W2 W4 c v → (sx = true → W4 = W2) → Q v W4.H
theorem Fin.of {Q : VK} {sx : Bool} (h : FinC G sx W (cellNew p d) Q) (hs : sx = true → isI d = true) : Fin G W p d Q := fun W4 v g n i => h W4 v g (new_pre n) fun z => i (hs z)
end

section
variable {G : Gm} {Wx : WX} {P : Pg} {a b : Ex}
/-! k: pure in the state -/
def PureK (k : Md × D → Md × D → M Vl) : Prop := ∀ va vb s1 r s2, k va vb s1 = some (r, s2) → s2 = s1 ∧ ∃ c, r = .ok (.nw c)
theorem two {W : Wd} {sx : Bool} {s s' : Stt} {r : Ou Vl} {t : L2.St} {Q : VK} {R : V → V → Hp → Prop} {k : Md × D → Md × D → M Vl}
    (F : Fr G W s t) (e : ((ev P a).bind fun va => guardX b va.1 ((ev P b).bind fun vb => k va vb)) s = some (r, s')) (pk : PureK k) (hs : sx = true → simple a = true ∧ simple b = true)
    (q : EndV G Wx sx W s' t Q r)
    (h : ∀ va vb s3 c W2 x y, k va vb s3 = some (.ok (.nw c), s3) → Fr G W2 s3 t → TZ G W2 (isBp va) va.2 x → TZ G W2 (isBp vb) vb.2 y → PlR G W2 t vb.1 vb.2 y → (∃ s2, ev P b s2 = some (.ok vb, s3)) → FinC G sx W2 c Q → R x y W2.H) :
    tE G Wx P a t W.H fun x H1 => tE G Wx P b t H1 fun y H2 => R x y H2 := by
  rcases M.bind_some e with ⟨va, s1, e1, e2⟩ | ⟨c, p, e1, e2⟩
  · refine ⟨W, s, _, s1, rfl, F, e1, fun W1 x x1 F1 p1 sm1 => ?_⟩
    have tr := F.rel.trk
    have tr1 := F1.rel.trk
    by_cases nf : isFl va.1 = false
    · have e2 : ((ev P b).bind fun vb => k va vb) s1 = some (r, s') := by
        unfold guardX at e2
        obtain ⟨m, d⟩ := va
        split at e2
        · exact e2
        · cases m <;> first | exact e2 | cases nf
      rcases M.bind_some e2 with ⟨vb, s2, e3, e4⟩ | ⟨c, p, e3, e4⟩
      · obtain ⟨es, c, er⟩ := pk _ _ _ _ _ e4
        subst es er
        refine ⟨W1, s1, _, s', rfl, F1, e3, fun W2 y x2 F2 p2 sm2 => ?_⟩
        have p1' := p1.stay x2 tr1 nf
        refine h va vb s' c W2 x y e4 F2 p1'.tz p2.tz p2 ⟨_, e3⟩ fun W4 v g n en => ?_
        have F4 := g.fr F2
        have x12 := x1.trans x2 tr
        obtain ⟨W5, h5, x5, F5, c5, e5⟩ := pre_fin (x12.trans g.evo tr) tr rfl .refl .refl (fun a ha => ⟨by rw [g.g]; exact F2.rel.free ha, x12.hnone ha⟩) F4 n
        rw [← h5]
        exact q W5 v x5 F5 c5 fun z => (e5 (en z)).trans ((en z).trans ((sm2 (hs z).2).trans (sm1 (hs z).1)))
      · subst e4
        exact ⟨W1, s1, _, s', rfl, F1, e3, fun W2 dx x2 F2 hx => q W2 dx (x1.trans x2 tr) F2 hx⟩
    have nz : va.1 ≠ .fz := fun z => nf (by rw [z]; rfl)
    unfold guardX at e2
    split at e2
    · rename_i sb
      rcases M.bind_some e2 with ⟨vb, s2, e3, e4⟩ | ⟨c, p, e3, e4⟩
      · obtain ⟨es, c, er⟩ := pk _ _ _ _ _ e4
        subst es er
        refine ⟨W1, s1, _, s', rfl, F1, e3, fun W2 y x2 F2 p2 sm2 => ?_⟩
        have ew := sm2 sb
        subst ew
        refine h va vb s' c W2 x y e4 F2 p1.tz p2.tz p2 ⟨_, e3⟩ fun W4 v g n en => ?_
        have F4 := g.fr F2
        obtain ⟨W5, h5, x5, F5, c5, e5⟩ := pre_fin (x1.trans g.evo tr) tr rfl .refl .refl (fun a ha => ⟨by rw [g.g]; exact F2.rel.free ha, x1.hnone ha⟩) F4 n
        rw [← h5]
        exact q W5 v x5 F5 c5 fun z => (e5 (en z)).trans ((en z).trans (sm1 (hs z).1))
      · subst e4
        exact ⟨W1, s1, _, s', rfl, F1, e3, fun W2 dx x2 F2 hx => q W2 dx (x1.trans x2 tr) F2 hx⟩
    · rename_i nsb
      obtain ⟨Wg, sg, s2, hgH, Fg, _, eg, back⟩ := guardL_ok F1 p1 e2
      rw [← hgH]
      rcases M.bind_some eg with ⟨vb, s3, e3, e4⟩ | ⟨c, p, e3, e4⟩
      · obtain ⟨es, c, er⟩ := pk _ _ _ _ _ e4
        subst es er
        refine ⟨Wg, sg, _, s2, rfl, Fg, e3, fun W2 y x2 F2 p2 sm2 => ?_⟩
        obtain ⟨tza, W3', un', F3', _⟩ := back W2 x2 F2
        refine h va vb s2 c W2 x y e4 F2 tza p2.tz p2 ⟨_, e3⟩ fun W4 v g n en => ?_
        obtain ⟨_, W3, un, F3, _⟩ := back W4 (x2.trans g.evo Fg.rel.trk) (g.fr F2)
        obtain ⟨W5, h5, x5, F5, c5, e5⟩ := pre_fin (x1.trans un.evo tr) tr un.H un.fz un.bp (fun a ha => ⟨un.free a (by rw [g.g]; exact F2.rel.free ha), (x1.trans un'.evo tr).hnone (by rw [un'.H]; exact ha)⟩) F3 n
        rw [← h5]
        exact q W5 v x5 F5 c5 fun z => absurd (hs z).2 nsb
      · subst e4
        refine ⟨Wg, sg, _, s2, rfl, Fg, e3, fun W2 dx x2 F2 hx => ?_⟩
        obtain ⟨_, W3, un, F3, _⟩ := back W2 x2 F2
        rw [← un.H]
        refine q W3 dx (x1.trans un.evo tr) F3 ?_
        cases p with
        | none => cases dx <;> first | exact hx | exact hx.elim
        | some d =>
          cases dx with
          | none => exact hx.elim
          | some a =>
            obtain ⟨v, g1, h1, h2⟩ := hx
            exact ⟨v, (un.fz.z _ _ g1 h1).1, by rw [un.H]; exact h1, RZ.stay un.fz h2⟩
  · subst e2
    exact ⟨W, s, _, s', rfl, F, e1, q⟩
end
end Lk

namespace Lk
open PySem L2 PyProof.Rows

/-! ### data as the library compares it -/
mutual
def toP : D → PyData
  | .non => .none
  | .bl b => .bool b
  | .int i => .int i
  | .str x => .str x
  | .tup xs => .tuple (toPs xs)
  | .lst xs => .list (toPs xs)
  | .dic _ _ => .none
  | .ref _ => .none
  | .cls _ => .none
  | .exo _ _ => .none
def toPs : List D → List PyData
  | [] => []
  | x :: xs => toP x :: toPs xs
end
theorem okD_and {x : D} {xs : List D} (h : okDs (x :: xs) = true) : okD x = true ∧ okDs xs = true := by
  rw [okDs, Bool.and_eq_true] at h; exact h
mutual
theorem deq_toP : ∀ x y : D, okD x = true → okD y = true → deq x y = PyData.eqv (toP x) (toP y)
  | .non, y, _, hy => by cases y <;> first | (cases hy; done) | simp [deq, toP, PyData.eqv]
  | .bl _, y, _, hy => by cases y <;> first | (cases hy; done) | simp [deq, toP, PyData.eqv]
  | .int _, y, _, hy => by cases y <;> first | (cases hy; done) | simp [deq, toP, PyData.eqv]
  | .str _, y, _, hy => by cases y <;> first | (cases hy; done) | simp [deq, toP, PyData.eqv]
  | .tup xs, y, hx, hy => by
    cases y with
    | tup ys => simp only [deq, toP, PyData.eqv]; exact deqs_toP xs ys (by simpa [okD] using hx) (by simpa [okD] using hy)
    | _ => first | (cases hy; done) | simp [deq, toP, PyData.eqv]
  | .lst xs, y, hx, hy => by
    cases y with
    | lst ys => simp only [deq, toP, PyData.eqv]; exact deqs_toP xs ys (by simpa [okD] using hx) (by simpa [okD] using hy)
    | _ => first | (cases hy; done) | simp [deq, toP, PyData.eqv]
  | .dic _ _, _, hx, _ => by cases hx
  | .ref _, _, hx, _ => by cases hx
  | .cls _, _, hx, _ => by cases hx
  | .exo _ _, _, hx, _ => by cases hx
theorem deqs_toP : ∀ xs ys : List D, okDs xs = true → okDs ys = true → deqs xs ys = PyData.eqvAll (toPs xs) (toPs ys)
  | [], [], _, _ => by simp [deqs, toPs, PyData.eqvAll]
  | [], _ :: _, _, _ => by simp [deqs, toPs, PyData.eqvAll]
  | _ :: _, [], _, _ => by simp [deqs, toPs, PyData.eqvAll]
  | x :: xs, y :: ys, hx, hy => by
    simp only [deqs, toPs, PyData.eqvAll]
    rw [deq_toP x y (okD_and hx).1 (okD_and hy).1, deqs_toP xs ys (okD_and hx).2 (okD_and hy).2]
end
mutual
theorem toP_lay : ∀ x : D, okD x = true → PyData.canLay0 (toP x) = true
  | .non, _ => by simp [toP, PyData.canLay0]
  | .bl _, _ => by simp [toP, PyData.canLay0]
  | .int _, _ => by simp [toP, PyData.canLay0]
  | .str x, h => by simpa [toP, PyData.canLay0, okD] using h
  | .tup xs, h => by simp only [toP, PyData.canLay0]; exact toPs_lay xs (by simpa [okD] using h)
  | .lst xs, h => by simp only [toP, PyData.canLay0]; exact toPs_lay xs (by simpa [okD] using h)
  | .dic _ _, h => by cases h
  | .ref _, h => by cases h
  | .cls _, h => by cases h
  | .exo _ _, h => by cases h
theorem toPs_lay : ∀ xs : List D, okDs xs = true → PyData.canLayAll0 (toPs xs) = true
  | [], _ => by simp [toPs, PyData.canLayAll0]
  | x :: xs, h => by simp [toPs, PyData.canLayAll0, toP_lay x (okD_and h).1, toPs_lay xs (okD_and h).2]
end
mutual
theorem toP_depth : ∀ x : D, okD x = true → (toP x).depth = dep x
  | .non, _ => by simp [toP, PyData.depth, dep]
  | .bl _, _ => by simp [toP, PyData.depth, dep]
  | .int _, _ => by simp [toP, PyData.depth, dep]
  | .str x, h => by simp [toP, PyData.depth, dep]
  | .tup xs, h => by simp only [toP, PyData.depth, dep]; rw [toPs_depth xs (by simpa [okD] using h)]
  | .lst xs, h => by simp only [toP, PyData.depth, dep]; rw [toPs_depth xs (by simpa [okD] using h)]
  | .dic _ _, h => by cases h
  | .ref _, h => by cases h
  | .cls _, h => by cases h
  | .exo _ _, h => by cases h
theorem toPs_depth : ∀ xs : List D, okDs xs = true → PyData.depthAll (toPs xs) = deps xs
  | [], _ => by simp [toPs, PyData.depthAll, deps]
  | x :: xs, h => by simp [toPs, PyData.depthAll, deps, toP_depth x (okD_and h).1, toPs_depth xs (okD_and h).2]
end
theorem sane_shaped {x : D} (h : sane x = true) : SeqAt.shaped (toP x) = true := by
  unfold sane at h
  rw [Bool.and_eq_true] at h
  unfold SeqAt.shaped
  rw [Bool.and_eq_true]
  refine ⟨toP_lay x h.1, decide_eq_true ?_⟩
  rw [toP_depth x h.1]
  have := of_decide_eq_true h.2
  omega
theorem sane_ok {x : D} (h : sane x = true) : okD x = true := by
  unfold sane at h
  rw [Bool.and_eq_true] at h; exact h.1

section
variable {G : Gm} {W : Wd} {U : Vw} {p q : Bool} {d : D} {v : V}
mutual
theorem RZ.dp : ∀ {d : D} {v : V}, RZ G U d v → okD d = true → Dp G.K U.H v (toP d)
  | _, _, .non, _ => by simp only [toP]; exact .non
  | _, _, .bl b, _ => by simp only [toP]; exact .bl b
  | _, _, .int n, _ => by simp only [toP]; exact .int n
  | _, _, .str x, _ => by simp only [toP]; exact .str x
  | _, _, .tup h r, k => by
    simp only [toP]
    exact .tup (h.imp (fun e => .inl e) KT.nd) (RZs.dp r (by simpa [okD] using k))
  | _, _, .lst h r, k => by
    simp only [toP]
    exact .lst (h.imp (fun e => e.2) id) (RZs.dp r (by simpa [okD] using k))
  | _, _, .ref _ _, k => by cases k
  | _, _, .cls _, k => by cases k
  | _, _, .dic _ _ _ _, k => by cases k
  | _, _, .kdic _ _, k => by cases k
theorem RZs.dp : ∀ {ds : List D} {vs : List V}, RZs G U ds vs → okDs ds = true → DpAll G.K U.H vs (toPs ds)
  | _, _, .nil, _ => by simp only [toPs]; exact .nil
  | _, _, .cons r t, k => by
    simp only [toPs]
    exact .cons (RZ.dp r (okD_and k).1) (RZs.dp t (okD_and k).2)
end
theorem vw_H : (W.vw p).H = W.H := by cases p <;> rfl
theorem TZ.dp (h : TZ G W p d v) (k : okD d = true) : Dp G.K W.H v (toP d) := by
  rcases h with h | ⟨a, e, h⟩
  · have := h.dp k
    rw [vw_H] at this; exact this
  · subst e
    cases h with
    | lst q r =>
      have := r.dp (by simpa [okD] using k)
      rw [vw_H] at this
      simp only [toP]
      exact .lst (.inl (.inl q)) this
    | dic q k' r => cases k

/-! ### comparisons by data -/
variable {X : Cx}
theorem scal_eq (x y : Str) : deq (.str x) (.str y) = decide (V.str x = V.str y) := by
  simp only [deq]
  by_cases h : x = y
  · subst h; simp
  · have : ¬ (V.str x = V.str y) := fun e => h (by cases e; rfl)
    rw [decide_eq_false this]; simpa using h
theorem scal_eqI (x y : Int) : deq (.int x) (.int y) = decide (V.int x = V.int y) := by
  simp only [deq]
  exact (dec_int).symm
def rEqT (G : Gm) : R2 := fun x y H Q => ∃ W p q da db b, W.H = H ∧ TZ G W p da x ∧ TZ G W q db y ∧ deqT da db = some b ∧ Q (.bl b) H
def rNeT (G : Gm) : R2 := fun x y H Q => ∃ W p q da db b, W.H = H ∧ TZ G W p da x ∧ TZ G W q db y ∧ deqT da db = some b ∧ Q (.bl (!b)) H
theorem deqT_cases {da db : D} {b : Bool} (e : deqT da db = some b) : deq da db = b ∧ ((∃ x y, da = .str x ∧ db = .str y) ∨ (∃ x y, da = .int x ∧ db = .int y) ∨ (sane da = true ∧ sane db = true)) := by
  unfold deqT at e
  split at e
  · rename_i h
    injection e with e
    refine ⟨e, ?_⟩
    rw [Bool.or_eq_true, Bool.and_eq_true] at h
    rcases h with h | h
    · cases da <;> cases db <;> first | exact .inl ⟨_, _, rfl, rfl⟩ | exact .inr (.inl ⟨_, _, rfl, rfl⟩) | (cases h; done)
    · exact .inr (.inr h)
  · cases e
theorem opEq (hK : X.K = G.K) (hu : X.A.units + 64 < cLine) : OpR X (compareOp .Eq) (rEqT G) := by
  intro pins s σ H x y v u Q I rx ry ⟨W, p, q, da, db, b, hH, ta, tb, e, k⟩
  subst hH
  obtain ⟨eb, h⟩ := deqT_cases e
  rcases h with ⟨i, j, rfl, rfl⟩ | ⟨i, j, rfl, rfl⟩ | ⟨sa, sb⟩
  · rw [ta.str] at rx
    rw [tb.str] at ry
    refine op_eq pins s σ W.H _ _ v u Q I rx ry ⟨rfl, ?_⟩
    rw [← scal_eq, eb]; exact k
  · rw [ta.int] at rx
    rw [tb.int] at ry
    refine op_eq pins s σ W.H _ _ v u Q I rx ry ⟨rfl, ?_⟩
    rw [← scal_eqI, eb]; exact k
  · refine op_eqD hu pins s σ W.H _ _ v u Q I rx ry ⟨_, _, hK ▸ ta.dp (sane_ok sa), hK ▸ tb.dp (sane_ok sb), sane_shaped sa, sane_shaped sb, ?_⟩
    rw [← deq_toP da db (sane_ok sa) (sane_ok sb), eb]; exact k
theorem opNe (hK : X.K = G.K) (hu : X.A.units + 64 < cLine) : OpR X (compareOp .NotEq) (rNeT G) := by
  intro pins s σ H x y v u Q I rx ry ⟨W, p, q, da, db, b, hH, ta, tb, e, k⟩
  subst hH
  obtain ⟨eb, h⟩ := deqT_cases e
  rcases h with ⟨i, j, rfl, rfl⟩ | ⟨i, j, rfl, rfl⟩ | ⟨sa, sb⟩
  · rw [ta.str] at rx
    rw [tb.str] at ry
    refine op_ne pins s σ W.H _ _ v u Q I rx ry ⟨rfl, ?_⟩
    rw [← scal_eq, eb]; exact k
  · rw [ta.int] at rx
    rw [tb.int] at ry
    refine op_ne pins s σ W.H _ _ v u Q I rx ry ⟨rfl, ?_⟩
    rw [← scal_eqI, eb]; exact k
  · refine op_neD hu pins s σ W.H _ _ v u Q I rx ry ⟨_, _, hK ▸ ta.dp (sane_ok sa), hK ▸ tb.dp (sane_ok sb), sane_shaped sa, sane_shaped sb, ?_⟩
    rw [← deq_toP da db (sane_ok sa) (sane_ok sb), eb]; exact k
/-! in -/
def kV' : D → Option Key
  | .int i => some (.inl i)
  | .str x => some (.inr x)
  | _ => none
theorem kV_TZ {k : D} {key : Key} (e : kV' k = some key) (h : TZ G W p k v) : v = kV key ∧ k = keyD key := by
  cases k <;> simp [kV'] at e
  · subst e; exact ⟨h.int, rfl⟩
  · subst e; exact ⟨h.str, rfl⟩
theorem keq_key {a b : Key} {c : Bool} (e : keq (keyD a) (keyD b) = some c) : c = decide (a = b) := by
  cases a <;> cases b <;> simp [keyD, keq] at e
  · subst e
    rename_i i j
    by_cases h : i = j
    · subst h; simp
    · rw [decide_eq_false (fun z => h (by cases z; rfl))]; simpa using h
  · subst e
    rename_i i j
    by_cases h : i = j
    · subst h; simp
    · rw [decide_eq_false (fun z => h (by cases z; rfl))]; simpa using h
theorem kfind_key {key : Key} : ∀ {kvs : List (Key × V)} {o : Option Nat}, kfind (keyD key) (kvs.map fun p => keyD p.1) = some o →
    match o with
    | none => valV kvs key = none
    | some j => ∃ p, kvs[j]? = some p ∧ p.1 = key ∧ valV kvs key = some p.2
  | [], o, e => by
    have : o = none := by cases key <;> simp [kfind, keyD] at e <;> exact e.symm
    subst this
    exact valV_nil
  | p :: kvs, o, e => by
    rw [List.map_cons] at e
    unfold kfind at e
    cases ek : keq (keyD p.1) (keyD key) with
    | none => rw [ek] at e; cases e
    | some c =>
    have ec := keq_key ek
    rw [ek] at e
    by_cases h : key = p.1
    · rw [ec, decide_eq_true h.symm] at e
      simp at e
      subst e
      exact ⟨p, rfl, h.symm, valV_pos h.symm⟩
    · rw [ec, decide_eq_false (fun z => h z.symm)] at e
      simp at e
      obtain ⟨o', e1, e2⟩ := e
      have := kfind_key e1
      cases o' with
      | none =>
        simp at e2; subst e2
        show valV (p :: kvs) key = none
        rw [valV_neg (fun q => h q.symm)]; exact this
      | some j =>
        simp at e2; subst e2
        obtain ⟨q, h1, h2, h3⟩ := this
        exact ⟨q, by simpa using h1, h2, by rw [valV_neg (fun q => h q.symm)]; exact h3⟩
theorem kfind_isk {k : D} {ks : List D} {o : Option Nat} (e : kfind k ks = some o) : ∃ key, kV' k = some key := by
  cases k with
  | int i => exact ⟨_, rfl⟩
  | str x => exact ⟨_, rfl⟩
  | _ =>
    exfalso
    cases ks with
    | nil => simp [kfind] at e
    | cons a b => unfold kfind at e; cases a <;> simp [keq] at e
theorem kfind_str {x : Str} : ∀ {ks : List D} {o : Option Nat}, (∀ (j : Nat) k, ks[j]? = some k → ∃ y, k = .str y) → kfind (.str x) ks = some o →
    match o with
    | none => ∀ k ∈ ks, k ≠ .str x
    | some j => ks[j]? = some (.str x)
  | [], o, _, e => by
    have : o = none := by simp [kfind] at e; exact e.symm
    subst this
    intro k hk; cases hk
  | a :: ks, o, hk, e => by
    obtain ⟨y, rfl⟩ := hk 0 a rfl
    unfold kfind at e
    by_cases h : x = y
    · subst h
      simp [keq] at e
      subst e; rfl
    · have hb : (y == x) = false := by simpa using fun z : y = x => h z.symm
      simp only [keq, hb] at e
      rw [Option.map_eq_some_iff] at e
      obtain ⟨o', e1, e2⟩ := e
      have := kfind_str (fun j k q => hk (j + 1) k (by simpa using q)) e1
      cases o' with
      | none =>
        simp at e2; subst e2
        intro k hk'
        rcases List.mem_cons.mp hk' with rfl | hk'
        · intro z; cases z; exact h rfl
        · exact this k hk'
      | some j => simp at e2; subst e2; simpa using this
theorem scal_flat {d : D} (h : TZ G W p d v) (s : scalD d = true) : flatV v = true := by
  cases d <;> first | (cases s; done) | skip
  · rw [h.non]; rfl
  · rw [h.bl]; rfl
  · rw [h.int]; rfl
  · rw [h.str]; rfl
theorem scal_deq {x y : D} {a b : V} (hx : TZ G W p x a) (hy : TZ G W q y b) (sx : scalD x = true) (sy : scalD y = true) : deq x y = eqV a b := by
  cases x <;> first | (cases sx; done) | skip
  all_goals (first | rw [hx.non] | rw [hx.bl] | rw [hx.int] | rw [hx.str])
  all_goals (cases y <;> first | (cases sy; done) | skip)
  all_goals (first | rw [hy.non] | rw [hy.bl] | rw [hy.int] | rw [hy.str])
  all_goals simp [deq, eqV]
theorem scal_all : ∀ {ds : List D} {vs : List V}, RZs G (W.vw p) ds vs → ds.all scalD = true → vs.all flatV = true
  | _, _, .nil, _ => rfl
  | _, _, .cons r t, h => by
    rw [List.all_cons, Bool.and_eq_true] at h ⊢
    exact ⟨scal_flat (.inl r) h.1, scal_all t h.2⟩
theorem scal_any {x : D} {a : V} (hx : TZ G W q x a) (sx : scalD x = true) : ∀ {ds : List D} {vs : List V}, RZs G (W.vw p) ds vs → ds.all scalD = true → (ds.any fun y => deq y x) = inV a vs
  | _, _, .nil, _ => rfl
  | _, _, .cons r t, h => by
    rw [List.all_cons, Bool.and_eq_true] at h
    unfold inV
    rw [List.any_cons, List.any_cons, scal_deq (.inl r) hx h.1 sx, scal_any hx sx t h.2]
    rfl
theorem any_toP {x : D} (hx : okD x = true) : ∀ {ds : List D}, okDs ds = true → (ds.any fun y => deq y x) = (toPs ds).any fun z => PyData.eqv z (toP x)
  | [], _ => by simp [toPs]
  | y :: ds, h => by
    simp only [toPs, List.any_cons]
    rw [deq_toP y x (okD_and h).1 hx, any_toP hx (okD_and h).2]
/-! neg: not in -/
def rInT (G : Gm) (neg : Bool) : R2 := fun x y H Q => ∃ W p q da db b, W.H = H ∧ TZ G W p da x ∧ TZ G W q db y ∧ cmpD .isin da db = some b ∧ Q (.bl (if neg then !b else b)) H
theorem opIn (hK : X.K = G.K) (hw : X.w = G.w) (hu : X.A.units + 65 < cLine) (neg : Bool) : OpR X (compareOp (if neg then .NotIn else .In)) (rInT G neg) := by
  intro pins s σ H x y v u Q I rx ry ⟨W, p, q, da, db, b, hH, ta, tb, e, k⟩
  subst hH
  have seq : ∀ {ys : List D} {a : Addr} {ws : List V} {bt : Bool}, y = .ref a → RZs G (W.vw q) ys ws → (if bt then SqL G.K W.H a ws else SqT G.K W.H a ws) → Dp G.K W.H y (toP (if bt then .lst ys else .tup ys)) ∨ sane (.lst ys) = false → anyEq da ys = some b →
      wpAny (model X.prog X.w) X.A (compareOp (if neg then .NotIn else .In) v u) (EP X pins σ Q) X.xe s := fun {ys a ws bt} ey r hs hd e => by
    subst ey
    unfold anyEq at e
    split at e
    · rename_i h
      injection e with e
      rw [Bool.or_eq_true, Bool.and_eq_true, Bool.and_eq_true] at h
      rcases h with ⟨h1, h2⟩ | ⟨h1, h2⟩
      · have hsq : SqL X.K W.H a ws ∨ SqT X.K W.H a ws := by
          rw [hK]
          cases bt
          · exact .inr hs
          · exact .inl hs
        have ein := scal_any ta h1 r h2
        rw [e] at ein
        cases neg with
        | true => exact op_notIn_seq pins s σ W.H _ _ v u Q I rx ry ⟨a, ws, rfl, hsq, scal_flat ta h1, scal_all r h2, by rw [if_pos rfl, ← ein]; exact k⟩
        | false => exact op_in_seq pins s σ W.H _ _ v u Q I rx ry ⟨a, ws, rfl, hsq, scal_flat ta h1, scal_all r h2, by rw [if_neg (by decide), ← ein]; exact k⟩
      · have okys : okDs ys = true := by have := sane_ok h2; simpa [okD] using this
        have ein := any_toP (sane_ok h1) okys
        rw [e] at ein
        rcases hd with hd | hd
        · obtain ⟨as, r1⟩ := Dp.reads I _ _ _ (hK ▸ ta.dp (sane_ok h1)) rx
          obtain ⟨bs, r2⟩ := Dp.reads I _ _ _ (hK ▸ hd) ry
          have room := room_in_shaped (A := X.A) (xs := toPs ys) (sane_shaped h1) hu
          have l1 := SeqAt.canLay_of_shaped (sane_shaped h1)
          have l2 := toPs_lay ys okys
          have fin : EP X pins σ Q (.bool (if neg then !b else b)) s := ⟨.bl _, W.H, I, rfl, k⟩
          cases bt <;> simp only [toP, if_true, if_false, Bool.false_eq_true] at r2 <;> cases neg
          · exact SeqAt.in_tuple_reads r2 r1 l2 l1 room (by rw [← ein]; exact fin)
          · exact SeqAt.notIn_tuple_reads r2 r1 l2 l1 room (by rw [← ein]; exact fin)
          · exact SeqAt.in_list_reads r2 r1 l2 l1 room (by rw [← ein]; exact fin)
          · exact SeqAt.notIn_list_reads r2 r1 l2 l1 room (by rw [← ein]; exact fin)
        · rw [h2] at hd; cases hd
    · cases e
  cases db with
  | lst ys =>
    obtain ⟨a, ws, ey, hs, r⟩ := tb.list
    refine seq (bt := true) ey r hs ?_ (by simpa [cmpD] using e)
    cases q' : sane (.lst ys) with
    | false => exact .inr rfl
    | true => exact .inl (tb.dp (sane_ok q'))
  | tup ys =>
    obtain ⟨a, ws, ey, hs, r⟩ := tb.tuple
    refine seq (bt := false) ey r hs ?_ (by simpa [cmpD] using e)
    cases q' : sane (.lst ys) with
    | false => exact .inr rfl
    | true => exact .inl (tb.dp (by have := sane_ok q'; simpa [okD] using this))
  | str z =>
    cases da with
    | str w =>
      rw [ta.str] at rx
      rw [tb.str] at ry
      have eb : (!(Builtin.Str.occurrences z w 0 z.length 1).isEmpty) = b := by simpa [cmpD] using e
      cases neg with
      | true => exact op_notIn_str pins s σ W.H _ _ v u Q I rx ry ⟨_, _, rfl, rfl, by rw [eb]; exact k⟩
      | false => exact op_in_str pins s σ W.H _ _ v u Q I rx ry ⟨_, _, rfl, rfl, by rw [eb]; exact k⟩
    | _ => simp [cmpD] at e
  | dic ks ds =>
    have e1 : (kfind da ks).map (·.isSome) = some b := by
      cases da <;> exact e
    obtain ⟨o, e2, e3⟩ := Option.map_eq_some_iff.mp e1
    obtain ⟨key, hkey⟩ := kfind_isk e2
    obtain ⟨hv, hd⟩ := kV_TZ hkey ta
    subst hv hd
    obtain ⟨a, ey, ⟨kvs, hH, ek, r⟩ | ⟨vs, hkd, r⟩⟩ := tb.dict
    · subst ey
      subst ek
      have g : DGet W.H a (kV key) (valV kvs key) := DGet.k hH
      have es : (valV kvs key).isSome = b := by
        have := kfind_key e2
        rw [← e3]
        cases o with
        | none => rw [this]; rfl
        | some j => obtain ⟨p, _, _, h3⟩ := this; rw [h3]; rfl
      cases ry
      cases neg with
      | true => exact d_notIn (by omega) I g rx fun s3 I3 => ⟨.bl _, W.H, I3, rfl, by rw [es]; exact k⟩
      | false => exact d_in (by omega) I g rx fun s3 I3 => ⟨.bl _, W.H, I3, rfl, by rw [es]; exact k⟩
    · subst ey
      obtain ⟨es, n, hl, hk, hs, hlen, h0, h1, h2⟩ := hkd
      have KD : KDict X.K X.w a es n := by rw [hK, hw]; exact ⟨hl, hk, hs⟩
      cases key with
      | inl i =>
        exfalso
        cases ks with
        | nil => exact h0 rfl
        | cons k0 ks' =>
          obtain ⟨y, _, _, ey, _⟩ := h1 0 k0 rfl
          subst ey
          unfold kfind at e2
          simp [keyD, keq] at e2
      | inr z =>
        have := kfind_str (fun j k q => by obtain ⟨x, _, _, e, _⟩ := h1 j k q; exact ⟨x, e⟩) e2
        have nz : ∃ r, PySem.W.nsIn X.K a z = some r ∧ r.isSome = b := by
          rw [hK, ← e3]
          cases o with
          | none => exact ⟨none, h2 z this, rfl⟩
          | some j =>
            obtain ⟨x, v', u', ex, _, en, _⟩ := h1 j _ this
            cases ex
            exact ⟨_, en, rfl⟩
        obtain ⟨r', hr, er⟩ := nz
        cases neg with
        | true => exact op_notIn_kd KD pins s σ W.H _ _ v u Q I rx ry ⟨z, r', rfl, rfl, hr, by rw [er]; exact k⟩
        | false => exact op_in_kd KD pins s σ W.H _ _ v u Q I rx ry ⟨z, r', rfl, rfl, hr, by rw [er]; exact k⟩
  | _ => cases da <;> simp [cmpD] at e
end
end Lk

namespace Lk
open PySem L2 PyProof.Rows

/-! ### what a frame's text leans on -/
structure Cxt (X : Cx) (G : Gm) : Prop where
  K : X.K = G.K
  w : X.w = G.w
  nd : X.N.Nodup
  hu : X.A.units + 65 < cLine

section
variable {G : Gm} {W : Wd} {s : Stt} {t : L2.St} {p q : Bool} {d : D} {v x : V} {va va' : Md × D}
theorem unbox_ok (F : Fr G W s t) (h : PlR G W t va.1 va.2 x) (e : unbox s.S va = some va') : TZ G W (isBp va') va'.2 x := by
  obtain ⟨m, d⟩ := va
  have other : unbox s.S (m, d) = some (m, d) → TZ G W (isBp va') va'.2 x := fun e' => by
    rw [e] at e'
    cases e'
    exact h.tz
  cases m with
  | fz =>
    cases d with
    | ref l =>
      unfold unbox at e
      simp only at e
      have h : RZ G W.fz (.ref l) x := h
      cases h with
      | ref _ hb =>
        split at e
        · rename_i xs hs
          cases e
          obtain ⟨_, vs, h1, h2⟩ := F.rel.box l _ hs
          exact .inr ⟨_, rfl, .lst h1 h2⟩
        · rename_i ks vs hs
          cases e
          obtain ⟨_, kvs, h1, h2, h3⟩ := F.rel.box l _ hs
          exact .inr ⟨_, rfl, .dic h1 h2 h3⟩
        · cases e
          exact .inl (.ref l hb)
    | _ => exact other rfl
  | _ => exact other rfl
theorem tru_ok' {b : Bool} (h : TZ G W p d x) (e : truD d = some b) : TruV G.K x W.H b := by
  cases d with
  | non => rw [h.non]; cases e; rfl
  | bl c => rw [h.bl]; cases e; rfl
  | int i => rw [h.int]; cases e; rfl
  | lst xs =>
    obtain ⟨a, vs, rfl, h1, r⟩ := h.list
    cases e
    refine .inl ⟨vs, h1, ?_⟩
    cases r <;> rfl
  | tup xs =>
    obtain ⟨a, vs, rfl, h1, r⟩ := h.tuple
    cases e
    refine .inr (.inl ⟨vs, h1, ?_⟩)
    cases r <;> rfl
  | _ => cases e

/-! ### x[i] by data -/
variable {X : Cx}
def rIxT' (G : Gm) : R2 := fun x y H Q => ∃ W p q da di d, W.H = H ∧ TZ G W p da x ∧ TZ G W q di y ∧ idxD da di = some d ∧ ∀ v, RZ G (W.vw p) d v → Q v H
theorem ixAt {ds : List D} {vs : List V} {U : Vw} (r : RZs G U ds vs) {i : Int} (e : ((ixD ds.length i).bind fun j => ds[j]?) = some d) : ∃ v, atI vs i = some v ∧ RZ G U d v := by
  obtain ⟨j, e1, e2⟩ := Option.bind_eq_some_iff.mp e
  obtain ⟨v, h1, h2⟩ := r.get e2
  refine ⟨v, ?_, h2⟩
  unfold atI
  rw [← r.length]
  show (ixD ds.length i).bind _ = _
  rw [e1]
  exact h1
theorem ixAll (c : Cxt X G) : IxR X (rIxT' G) := by
  intro value slice pins s σ H x y v u Q I rx ry ⟨W, p, q, da, di, d, hH, ta, ti, e, k⟩ hs
  subst hH
  cases da with
  | lst xs =>
    cases di with
    | int i =>
      obtain ⟨a, vs, rfl, h1, r⟩ := ta.list
      obtain ⟨z, h2, h3⟩ := ixAt r e
      rw [ti.int] at ry
      exact ix_list value slice pins s σ W.H _ _ v u Q I rx ry ⟨a, vs, i, z, rfl, rfl, c.K ▸ h1, h2, k z h3⟩ hs
    | _ => cases e
  | tup xs =>
    cases di with
    | int i =>
      obtain ⟨a, vs, rfl, h1, r⟩ := ta.tuple
      obtain ⟨z, h2, h3⟩ := ixAt r e
      rw [ti.int] at ry
      exact ix_tup value slice pins s σ W.H _ _ v u Q I rx ry ⟨a, vs, i, z, rfl, rfl, c.K ▸ h1, h2, k z h3⟩ hs
    | _ => cases e
  | str z =>
    cases di with
    | int i =>
      rw [ta.str] at rx
      rw [ti.int] at ry
      simp only [idxD] at e
      split at e
      · rename_i hz
        obtain ⟨j, e1, e2⟩ := Option.bind_eq_some_iff.mp e
        obtain ⟨cc, e3, e4⟩ := Option.map_eq_some_iff.mp e2
        subst e4
        refine ix_str value slice pins s σ W.H _ _ v u Q I rx ry ⟨z, i, cc, rfl, rfl, line_size hz, ?_, k _ (.str _)⟩ hs
        unfold atI
        rw [Array.length_toList]
        show (ixD z.cps.size i).bind _ = _
        rw [e1]
        simpa using e3
      · cases e
    | _ => cases e
  | dic ks ds =>
    have e1 : dget di ks ds = some d := by cases di <;> exact e
    unfold dget at e1
    split at e1
    · rename_i j hj
      obtain ⟨key, hkey⟩ := kfind_isk hj
      obtain ⟨hv, hd⟩ := kV_TZ hkey ti
      subst hv hd
      obtain ⟨a, ey, ⟨kvs, hH, ek, r⟩ | ⟨vs, hkd, r⟩⟩ := ta.dict
      · subst ey ek
        obtain ⟨pr, h1, h2, h3⟩ := kfind_key hj
        obtain ⟨z, h4, h5⟩ := r.get e1
        have ez : pr.2 = z := by rw [List.getElem?_map, h1] at h4; exact Option.some.inj h4
        have g : DGet W.H a (kV key) (some z) := by rw [← ez, ← h3]; exact DGet.k hH
        cases rx
        exact tail_any (dict_typeIs I g) slot_dict_getitem.lookup (d_getItem (by have := c.hu; omega) I g ry fun w' s3 I3 rw' => ⟨z, W.H, I3, rw', k z h5⟩) hs
      · subst ey
        obtain ⟨es, n, hl, hk, hs', hlen, h0, h1, h2⟩ := hkd
        cases key with
        | inl i =>
          exfalso
          cases ks with
          | nil => exact h0 rfl
          | cons k0 ks' =>
            obtain ⟨y, _, _, ey, _⟩ := h1 0 k0 rfl
            subst ey
            unfold kfind at hj
            simp [keyD, keq] at hj
        | inr z =>
          have := kfind_str (fun j k q => by obtain ⟨x, _, _, e, _⟩ := h1 j k q; exact ⟨x, e⟩) hj
          obtain ⟨x, v', u', ex, ev, en, ru⟩ := h1 j _ this
          cases ex
          obtain ⟨z', h4, h5⟩ := r.get e1
          rw [ev] at h4
          cases h4
          exact ix_kdict value slice pins s σ W.H _ _ v u Q I rx ry ⟨a, z, _, rfl, rfl, by rw [c.K, c.w]; exact ⟨es, n, u', hl, hk, en, ru⟩, k _ h5⟩ hs
    · cases e1
  | _ => cases di <;> cases e

/-! ### order of ints, is None -/
def rOrd (G : Gm) (f : Int → Int → Bool) : R2 := fun x y H Q => ∃ i j, x = .int i ∧ y = .int j ∧ Q (.bl (f i j)) H
def cOp : COp → CmpOp
  | .eq => .Eq | .ne => .NotEq | .lt => .Lt | .le => .LtE | .gt => .Gt | .ge => .GtE | .isin => .In | .nin => .NotIn | .is_ => .Is | .isn => .IsNot
def rCmp (G : Gm) (op : COp) : R2 := fun x y H Q => ∃ W p q da db b, W.H = H ∧ TZ G W p da x ∧ TZ G W q db y ∧ cmpD op da db = some b ∧ Q (.bl b) H
theorem TZ.isNon (h : TZ G W p d x) : decide (x = .non) = (match d with | .non => true | _ => false) := by
  rcases h with h | ⟨a, e, h⟩
  · cases h <;> rfl
  · subst e; cases h <;> rfl
theorem opCmp (c : Cxt X G) (op : COp) : OpR X (compareOp (cOp op)) (rCmp G op) := by
  intro pins s σ H x y v u Q I rx ry ⟨W, p, q, da, db, b, hH, ta, tb, e, k⟩
  have hu64 : X.A.units + 64 < cLine := by have := c.hu; omega
  have intz : ∀ {r : R2}, (∀ i j, da = .int i → db = .int j → r (.int i) (.int j) H Q) → (∃ i j, da = .int i ∧ db = .int j) → OpR X (compareOp (cOp op)) r → wpAny (model X.prog X.w) X.A (compareOp (cOp op) v u) (EP X pins σ Q) X.xe s := fun {r} h1 h2 o => by
    obtain ⟨i, j, rfl, rfl⟩ := h2
    rw [ta.int] at rx
    rw [tb.int] at ry
    exact o pins s σ H _ _ v u Q I rx ry (h1 i j rfl rfl)
  cases op with
  | eq => exact opEq c.K hu64 pins s σ H x y v u Q I rx ry ⟨W, p, q, da, db, b, hH, ta, tb, e, k⟩
  | ne =>
    obtain ⟨b', e1, e2⟩ := Option.map_eq_some_iff.mp (show (deqT da db).map (!·) = some b from e)
    subst e2
    exact opNe c.K hu64 pins s σ H x y v u Q I rx ry ⟨W, p, q, da, db, b', hH, ta, tb, e1, k⟩
  | lt =>
    cases da <;> first | (cases db <;> cases e; done) | skip
    cases db <;> first | (cases e; done) | skip
    cases e
    exact intz (fun i j e1 e2 => by cases e1; cases e2; exact ⟨_, _, rfl, rfl, k⟩) ⟨_, _, rfl, rfl⟩ op_lt
  | le =>
    cases da <;> first | (cases db <;> cases e; done) | skip
    cases db <;> first | (cases e; done) | skip
    cases e
    exact intz (fun i j e1 e2 => by cases e1; cases e2; exact ⟨_, _, rfl, rfl, k⟩) ⟨_, _, rfl, rfl⟩ op_le
  | gt =>
    cases da <;> first | (cases db <;> cases e; done) | skip
    cases db <;> first | (cases e; done) | skip
    cases e
    exact intz (fun i j e1 e2 => by cases e1; cases e2; exact ⟨_, _, rfl, rfl, k⟩) ⟨_, _, rfl, rfl⟩ op_gt
  | ge =>
    cases da <;> first | (cases db <;> cases e; done) | skip
    cases db <;> first | (cases e; done) | skip
    cases e
    exact intz (fun i j e1 e2 => by cases e1; cases e2; exact ⟨_, _, rfl, rfl, k⟩) ⟨_, _, rfl, rfl⟩ op_ge
  | isin => exact opIn c.K c.w c.hu false pins s σ H x y v u Q I rx ry ⟨W, p, q, da, db, b, hH, ta, tb, e, k⟩
  | nin =>
    have e' : ∃ b', cmpD .isin da db = some b' ∧ b = !b' := by
      cases db with
      | lst ys =>
        obtain ⟨b', e1, e2⟩ := Option.map_eq_some_iff.mp (show (anyEq da ys).map (!·) = some b by cases da <;> exact e)
        exact ⟨b', by cases da <;> exact e1, e2.symm⟩
      | tup ys =>
        obtain ⟨b', e1, e2⟩ := Option.map_eq_some_iff.mp (show (anyEq da ys).map (!·) = some b by cases da <;> exact e)
        exact ⟨b', by cases da <;> exact e1, e2.symm⟩
      | dic ks vs =>
        have : (kfind da ks).map (fun o => !o.isSome) = some b := by cases da <;> exact e
        obtain ⟨o, e1, e2⟩ := Option.map_eq_some_iff.mp this
        refine ⟨o.isSome, ?_, e2.symm⟩
        have : cmpD .isin da (.dic ks vs) = (kfind da ks).map (·.isSome) := by cases da <;> rfl
        rw [this, e1]; rfl
      | str z =>
        cases da <;> first | (cases e; done) | skip
        cases e
        exact ⟨_, rfl, rfl⟩
      | _ => cases da <;> cases e
    obtain ⟨b', e1, e2⟩ := e'
    subst e2
    exact opIn c.K c.w c.hu true pins s σ H x y v u Q I rx ry ⟨W, p, q, da, db, b', hH, ta, tb, e1, k⟩
  | is_ =>
    cases db <;> first | (cases da <;> cases e; done) | skip
    rw [tb.non] at ry
    refine op_isN pins s σ H _ _ v u Q I rx ry ⟨rfl, ?_⟩
    rw [ta.isNon]
    cases da <;> (cases e; exact k)
  | isn =>
    cases db <;> first | (cases da <;> cases e; done) | skip
    rw [tb.non] at ry
    refine op_notN pins s σ H _ _ v u Q I rx ry ⟨rfl, ?_⟩
    rw [ta.isNon]
    cases da <;> (cases e; exact k)
end
end Lk

namespace Lk
open PySem L2 PyProof.Rows

/-! ### expressions, one rule a construct -/
/-! one expression, then an answer -/
section
variable {G : Gm} {Wx : WX} {P : Pg} {ea eb ec : Ex}
def PureK1 (k : Md × D → M Vl) : Prop := ∀ va s1 r s2, k va s1 = some (r, s2) → s2 = s1 ∧ ∃ c, r = .ok (.nw c)
theorem one {W : Wd} {sx : Bool} {s s' : Stt} {r : Ou Vl} {t : L2.St} {Q : VK} {R : V → Hp → Prop} {k : Md × D → M Vl}
    (F : Fr G W s t) (e : ((ev P ea).bind fun va => k va) s = some (r, s')) (pk : PureK1 k) (hs : sx = true → simple ea = true)
    (q : EndV G Wx sx W s' t Q r)
    (h : ∀ va s3 c W2 x, k va s3 = some (.ok (.nw c), s3) → Fr G W2 s3 t → PlR G W2 t va.1 va.2 x → FinC G sx W2 c Q → R x W2.H) :
    tE G Wx P ea t W.H R := by
  rcases M.bind_some e with ⟨va, s1, e1, e2⟩ | ⟨c, p, e1, e2⟩
  · refine ⟨W, s, _, s1, rfl, F, e1, fun W1 x x1 F1 p1 sm1 => ?_⟩
    obtain ⟨es, c, er⟩ := pk _ _ _ _ e2
    subst es er
    refine h va s' c W1 x e2 F1 p1 fun W4 v g n en => ?_
    obtain ⟨W5, h5, x5, F5, c5, e5⟩ := pre_fin (x1.trans g.evo F.rel.trk) F.rel.trk rfl .refl .refl (fun a ha => ⟨by rw [g.g]; exact F1.rel.free ha, x1.hnone ha⟩) (g.fr F1) n
    rw [← h5]
    exact q W5 v x5 F5 c5 fun z => (e5 (en z)).trans ((en z).trans (sm1 (hs z)))
  · subst e2
    exact ⟨W, s, _, s', rfl, F, e1, q⟩
end

theorem zip_look {ns : List Str} {vs : List V} {k : Nat} {f : Str} {v : V} : ns.Nodup → ns[k]? = some f → vs[k]? = some v → (ns.zip vs).lookup f = some v := by
  intro nd h1 h2
  induction ns generalizing vs k with
  | nil => simp at h1
  | cons n ns ih =>
    cases vs with
    | nil => simp at h2
    | cons w vs =>
      cases k with
      | zero =>
        simp at h1 h2
        subst h1 h2
        simp [List.lookup]
      | succ k =>
        simp at h1 h2
        have hn : f ≠ n := fun z => (List.nodup_cons.mp nd).1 (by rw [← z]; exact List.mem_of_getElem? h1)
        have hb : (f == n) = false := by simpa using hn
        rw [List.zip_cons_cons, List.lookup, hb]
        exact ih (List.nodup_cons.mp nd).2 h1 h2

section
variable {X : Cx} {G : Gm} {Wx : WX} {P : Pg} {a b c : Expr} {ea eb ec : Ex} {pos : Pos} {f : Bool}
theorem v_var {i : Nat} {x : Str} (hN : X.N[i]? = some x) (hv : Vis X.env.scope x) (hd : (x == ("__debug__" : Str)) = false) (hcd : (x == ("__classdict__" : Str)) = false) : PE X (.Name x pos) (tV G Wx P f (.var i)) := by
  refine peImp (pe_var hN hv hd hcd) fun t H Q ⟨W, s, r, s', hH, F, e, q⟩ => ?_
  subst hH
  unfold evV at e
  split at e
  · rename_i d hs
    cases e
    obtain ⟨v, e1, h⟩ := F.slt i _ hs
    exact ⟨v, e1, q W v .refl F h fun _ => rfl⟩
  · rename_i d hs
    cases e
    obtain ⟨v, e1, a, e2, g, l⟩ := F.slt i _ hs
    exact ⟨v, e1, q W v .refl F ⟨e1, a, e2, by rw [g]; rfl, l⟩ fun _ => rfl⟩
  · rename_i d hs
    cases e
    obtain ⟨v, e1, a, e2, g, l, _⟩ := F.slt i _ hs
    exact ⟨v, e1, q W v .refl F ⟨e1, a, e2, by rw [g]; rfl, l⟩ fun _ => rfl⟩
  · rename_i d hs
    cases e
    obtain ⟨v, e1, h⟩ := F.slt i _ hs
    exact ⟨v, e1, q W v .refl F h fun _ => rfl⟩
  · cases e
theorem v_con {j : Nat} {x : Str} {v : V} {u : Value} (hg : Gl X x) (hm : X.mg x = some u) (hr : RelV v u) (hz : ∀ U, RZ G U (P.con j) v) (hd : (x == ("__debug__" : Str)) = false) : PE X (.Name x pos) (tV G Wx P f (.con j)) := by
  refine peImp (pe_glob hg hm hr hd) fun t H Q ⟨W, s, r, s', hH, F, e, q⟩ => ?_
  subst hH
  unfold evV at e
  cases e
  exact q W v .refl F (hz _) fun _ => rfl
theorem v_int {i : Int} {j : Nat} : PE X (.Constant (.int i) j pos) (tV G Wx P f (.int i)) := by
  refine peImp pe_int fun t H Q ⟨W, s, r, s', hH, F, e, q⟩ => ?_
  subst hH
  unfold evV at e
  cases e
  exact q W _ .refl F (.int i) fun _ => rfl
theorem v_str {x : Str} {j : Nat} : PE X (.Constant (.str x) j pos) (tV G Wx P f (.str x)) := by
  refine peImp pe_str fun t H Q ⟨W, s, r, s', hH, F, e, q⟩ => ?_
  subst hH
  unfold evV at e
  cases e
  exact q W _ .refl F (.str x) fun _ => rfl
theorem v_bl {b : Bool} {j : Nat} : PE X (.Constant (.bool b) j pos) (tV G Wx P f (.bl b)) := by
  refine peImp pe_bl fun t H Q ⟨W, s, r, s', hH, F, e, q⟩ => ?_
  subst hH
  unfold evV at e
  cases e
  exact q W _ .refl F (.bl b) fun _ => rfl
theorem v_non {j : Nat} : PE X (.Constant .none j pos) (tV G Wx P f .non) := by
  refine peImp pe_non fun t H Q ⟨W, s, r, s', hH, F, e, q⟩ => ?_
  subst hH
  unfold evV at e
  cases e
  exact q W _ .refl F .non fun _ => rfl
theorem v_fld {cl k : Nat} {fn : Str} (ha : PE X a (tV G Wx P false ea)) (hb : attributeBase a fn X.env (eval a X.env) = eval a X.env) (C : Cxt X G) (hf : (G.fl cl)[k]? = some fn) (nd : (G.fl cl).Nodup) (cls : Cls X.K (G.C cl)) (na : NoAttr X.K (G.C cl) fn) :
    PE X (.Attribute a fn pos) (tV G Wx P f (.fld cl k ea)) := by
  refine peImp (pe_fld (peE ha) hb) fun t H Q ⟨W, s, r, s', hH, F, e, q⟩ => ?_
  subst hH
  unfold evV at e
  rcases M.bind_some e with ⟨va, s1, e1, e2⟩ | ⟨c, p, e1, e2⟩
  · refine ⟨W, s, _, s1, rfl, F, e1, fun W1 x x1 F1 p1 sm1 => ?_⟩
    split at e2
    · rename_i l
      split at e2
      · rename_i c' fs hS
        split at e2
        · rename_i ec
          subst ec
          have p1 : RZ G W1.fz (.ref l) x := p1
          cases p1 with
          | ref _ hb =>
            obtain ⟨_, dx, vs, h1, h2, h3, h4⟩ := F1.rel.box l _ hS
            have fin : ∀ {cc : Cell}, fs[k]? = some cc → ∃ v, vs[k]? = some v ∧ FldR G W1 l k cc v ∧ FldAt W1 l k v ∧ ((G.fl c').zip vs).lookup fn = some v := fun {cc} hc => by
              have hk : k < vs.length := by rw [h2]; exact (List.getElem?_eq_some_iff.mp hc).1
              have hv := List.getElem?_eq_getElem hk
              exact ⟨vs[k], hv, h4 k cc _ hc hv, fld_zip h1 (List.getElem?_eq_some_iff.mp hf).1 hv, zip_look nd hf hv⟩
            have out : ∀ {vl : Vl} {v : V}, r = .ok vl → s' = s1 → ((G.fl c').zip vs).lookup fn = some v → VlR G W W1 t vl v →
                ∃ a C dx fs v, (V.ref (W1.i l)) = .ref a ∧ W1.H a = some (.ins C dx fs) ∧ Cls X.K C ∧ NoAttr X.K C fn ∧ fs.lookup fn = some v ∧ Q v W1.H := fun {vl v} er es hl hv => by
              subst er es
              exact ⟨_, _, dx, _, v, rfl, h1, cls, na, hl, q W1 v x1 F1 hv sm1⟩
            split at e2
            · rename_i d hd
              obtain ⟨v, _, h5, h6, h7⟩ := fin hd
              cases e2
              exact out rfl rfl h7 h5
            · rename_i d hd
              obtain ⟨v, _, ⟨a, h8, _, h9⟩, h6, h7⟩ := fin hd
              cases e2
              exact out rfl rfl h7 ⟨h6, a, h8, h9⟩
            · rename_i d hd
              obtain ⟨v, _, ⟨a, _, h8, _, h9, _⟩, h6, h7⟩ := fin hd
              cases e2
              exact out rfl rfl h7 ⟨h6, a, h8, h9⟩
            · cases e2
        · cases e2
      · cases e2
    · cases e2
  · subst e2
    exact ⟨W, s, _, s', rfl, F, e1, q⟩

theorem cell_pure {g : Md × D → Md × D → Option Cell} : PureK fun va vb => M.cell (g va vb) := fun va vb s1 r s2 e => by
  obtain ⟨c, _, er, es⟩ := cell_some e
  exact ⟨es, c, er⟩
theorem cell_pure1 {g : Md × D → Option Cell} : PureK1 fun va => M.cell (g va) := fun va s1 r s2 e => by
  obtain ⟨c, _, er, es⟩ := cell_some e
  exact ⟨es, c, er⟩
theorem simple_bin {op : BOp} {a b : Ex} (h : simple (.bin op a b) = true) : (simple a = true ∧ simple b = true) ∧ (op = .sub ∨ op = .mod ∨ op = .fdiv ∨ (op = .add ∧ ∃ n, b = .int n)) := by
  cases op with
  | add =>
    cases b <;> first | (simp [simple] at h; done) | skip
    exact ⟨⟨by simpa [simple] using h, rfl⟩, .inr (.inr (.inr ⟨rfl, _, rfl⟩))⟩
  | sub => simp [simple] at h; exact ⟨h, .inl rfl⟩
  | mod => simp [simple] at h; exact ⟨h, .inr (.inl rfl)⟩
  | fdiv => simp [simple] at h; exact ⟨h, .inr (.inr (.inl rfl))⟩
  | _ => simp [simple] at h
theorem tzb_l {W : Wd} {p q : Bool} {d : D} {v : V} (h : TZ G W p d v) : TZ G W (p || q) d v := h.l
theorem v_bin (C : Cxt X G) {op : BOp} (ha : PE X a (tV G Wx P false ea)) (hb : PE X b (tV G Wx P false eb)) : PE X (.BinOp a (bOp op) b pos) (tV G Wx P f (.bin op ea eb)) := by
  refine peImp (pe_op (opBin C.K op) (peE ha) (peE hb)) fun t H Q ⟨W, s, r, s', hH, F, e, q⟩ => ?_
  subst hH
  unfold evV at e
  refine two (sx := simple (.bin op ea eb)) (R := fun x y H2 => rBin G op x y H2 Q) F e cell_pure (fun z => (simple_bin z).1) q fun va vb s3 c W2 x y e1 F2 ta tb pb evb fin => ?_
  obtain ⟨c', e2, e3, _⟩ := cell_some e1
  cases e3
  obtain ⟨d, e4, e5⟩ := Option.map_eq_some_iff.mp e2
  subst e5
  refine ⟨W2, _, _, _, d, rfl, ta.l (q := isBp vb), tb.r, e4, Fin.of fin fun z => ?_⟩
  obtain ⟨_, hop⟩ := simple_bin z
  by_cases hadd : op = .add ∧ ∃ n, eb = .int n
  · obtain ⟨rfl, n, rfl⟩ := hadd
    obtain ⟨s2, ev2⟩ := evb
    cases ev2
    cases h1 : va.2 <;> rw [h1] at e4 <;> simp [binD] at e4
    subst e4; rfl
  · obtain ⟨n, rfl⟩ := binD_int e4 (by
      rcases hop with h | h | h | h
      · exact .inl h
      · exact .inr (.inl h)
      · exact .inr (.inr (.inl h))
      · exact absurd h hadd)
    rfl
end
end Lk

namespace Lk
open PySem L2 PyProof.Rows

/-! ### lists of expressions -/
def noStar : Expr → Bool
  | .Starred _ _ => false
  | _ => true
theorem star_cons {e : Expr} {es : List Expr} {env : PySem.Env} (h : noStar e = true) : starEach (e :: es) env = (false, eval e env) :: starEach es env := by
  cases e <;> first | rfl | cases h
theorem star_none {pos : Pos} {env : PySem.Env} : ∀ {es : List Expr}, es.all noStar = true → (backTo pos (starEach es env)).any (·.1) = false
  | [], _ => rfl
  | e :: es, h => by
    rw [List.all_cons, Bool.and_eq_true] at h
    rw [star_cons h.1]
    have ih := star_none (pos := pos) (env := env) h.2
    revert ih
    cases es with
    | nil => intro _; rfl
    | cons e2 es2 =>
      rw [List.all_cons, Bool.and_eq_true] at h
      rw [star_cons h.2.1]
      intro ih
      exact ih
theorem paImp {X : Cx} {es : List Expr} {t t' : TA} (h : PA X es t) (i : ∀ σ H Q, t' σ H Q → t σ H Q) : PA X es t' := ⟨fun pos pins s σ H Q I q => h.run pos pins s σ H Q I (i _ _ _ q)⟩

section
variable {X : Cx} {G : Gm} {Wx : WX} {P : Pg} {a b c : Expr} {ea eb ec : Ex} {pos : Pos} {f : Bool} {es : List Expr} {xs : List Ex}
/-! arguments, as they come; k: what is done with them -/
def tAs (G : Gm) (Wx : WX) (P : Pg) (xs : List Ex) : TA := fun t H Q => ∃ W s r s' k, W.H = H ∧ Fr G W s t ∧ evA P xs k s = some (r, s') ∧ (∀ c p, r = .ex c p → ExQ G Wx W s' t c p) ∧
  ∀ Wn sn sn' vs vals, ((∀ q v, ArgT G W q v → ArgT G Wn q v) ∧ ∀ a, Wn.H a = none → W.H a = none) → Fr G Wn sn t → Paired (ArgT G Wn) vs vals → k vs sn = some (r, sn') →
    (∀ W4, Evo false Wn W4 → Fr G W4 sn' t → ∃ W3, Unl G W W4 W3 ∧ Fr G W3 s' t) → Q vals Wn.H
theorem unl_ex {W W4 W3 : Wd} (u : Unl G W W4 W3) {p : Option D} {dx : Option Addr} (h : ExR G W4 p dx) : ExR G W3 p dx := by
  cases p with
  | none => cases dx <;> first | exact h | exact h.elim
  | some d =>
    cases dx with
    | none => exact h.elim
    | some a =>
      obtain ⟨v, g1, h1, h2⟩ := h
      exact ⟨v, (u.fz.z _ _ g1 h1).1, by rw [u.H]; exact h1, RZ.stay u.fz h2⟩
theorem args_nil : PA X [] (tAs G Wx P []) := paImp pa_nil fun t H Q ⟨W, s, r, s', k, hH, F, e, _, q⟩ => by
  subst hH
  unfold evA at e
  exact q W s s' [] [] ⟨fun _ _ h => h, fun _ h => h⟩ F .nil e fun W4 x F4 => ⟨W4, ⟨rfl, rfl, x, .refl, .refl, fun _ h => h⟩, F4⟩
theorem args_cons (ns : noStar a = true) (ha : PE X a (tV G Wx P false ea)) (hs : PA X es (tAs G Wx P xs)) : PA X (a :: es) (tAs G Wx P (ea :: xs)) := by
  refine paImp (pa_cons (peE ha) hs (star_cons ns)) fun t H Q ⟨W, s, r, s', k, hH, F, e, qx, q⟩ => ?_
  subst hH
  unfold evA at e
  rcases M.bind_some e with ⟨va, s1, e1, e2⟩ | ⟨c, p, e1, e2⟩
  · refine ⟨W, s, _, s1, rfl, F, e1, fun W1 x x1 F1 p1 _ => ?_⟩
    obtain ⟨Wg, sg, s2, hgH, Fg, ag, eg, back⟩ := guardL_ok F1 p1 e2
    have tr := F.rel.trk
    rw [← hgH]
    refine ⟨Wg, sg, r, s2, fun vs => k (va :: vs), rfl, Fg, eg, fun c p er => ?_, fun Wn sn sn' vs vals pr Fn pv ek bk => ?_⟩
    · intro W2 dx x2 F2 hx
      obtain ⟨_, W3, un, F3, _⟩ := back W2 x2 F2
      rw [← un.H]
      exact qx c p er W3 dx (x1.trans un.evo tr) F3 (unl_ex un hx)
    · refine q Wn sn sn' (va :: vs) (x :: vals) ⟨fun z v h => pr.1 z v (ag.2.1 z v (h.stay x1 tr)), fun a h => x1.hnone (by rw [← hgH]; exact pr.2 a h)⟩ Fn (.cons (pr.1 va x ag.1) pv) ek fun W4 x4 F4 => ?_
      obtain ⟨W3, u, F3⟩ := bk W4 x4 F4
      obtain ⟨_, W5, un, F5, _⟩ := back W3 u.evo F3
      exact ⟨W5, ⟨un.H.trans u.H, un.i.trans u.i, x1.trans un.evo tr, u.fz.trans un.fz, u.bp.trans un.bp, fun c h => un.free c (u.free c h)⟩, F5⟩
  · subst e2
    exact ⟨W, s, _, s', rfl, F, e1, qx c p rfl⟩
end
end Lk

namespace Lk
open PySem L2 PyProof.Rows

section
variable {X : Cx} {G : Gm} {Wx : WX} {P : Pg} {a b c : Expr} {ea eb ec : Ex} {pos : Pos} {f : Bool} {es : List Expr} {xs : List Ex}
/-! items, kept -/
def EndS (G : Gm) (Wx : WX) (W : Wd) (s' : Stt) (t : L2.St) (Q : List V → Hp → Prop) : Ou (Bool × List D) → Prop
  | .ok q => ∀ W' vs, Evo false W W' → Fr G W' s' t → RZs G (W'.vw q.1) q.2 vs → Q vs W'.H
  | .ex c p => ExQ G Wx W s' t c p
def tSs (G : Gm) (Wx : WX) (P : Pg) (xs : List Ex) : TA := fun t H Q => ∃ W s r s', W.H = H ∧ Fr G W s t ∧ evS P xs s = some (r, s') ∧ EndS G Wx W s' t Q r
theorem items_nil : PA X [] (tSs G Wx P []) := paImp pa_nil fun t H Q ⟨W, s, r, s', hH, F, e, q⟩ => by
  subst hH
  unfold evS at e
  cases e
  exact q W [] .refl F .nil
theorem items_cons (ns : noStar a = true) (ha : PE X a (tV G Wx P false ea)) (hs : PA X es (tSs G Wx P xs)) : PA X (a :: es) (tSs G Wx P (ea :: xs)) := by
  refine paImp (pa_cons (peR ha) hs (star_cons ns)) fun t H Q ⟨W, s, r, s', hH, F, e, q⟩ => ?_
  subst hH
  unfold evS at e
  rcases M.bind_some e with ⟨c, s1, e1, e2⟩ | ⟨c, p, e1, e2⟩
  · refine ⟨W, s, _, s1, rfl, F, e1, fun W1 x x1 F1 c1 => ?_⟩
    have tr := F.rel.trk
    -- the first item as it is kept, in W2
    have go : ∀ {W2 : Wd} {p : Bool} {d : D}, W2.H = W1.H → Evo false W W2 → Fr G W2 s1 t → RZ G (W2.vw p) d x →
        ((evS P xs).bind fun q => M.ok (p || q.1, d :: q.2)) s1 = some (r, s') → tSs G Wx P xs t W1.H fun vs H2 => Q (x :: vs) H2 := fun {W2 p d} h2 x2 F2 rz e3 => by
      rcases M.bind_some e3 with ⟨qq, s2, e4, e5⟩ | ⟨c, p, e4, e5⟩
      · cases e5
        refine ⟨W2, s1, _, s', h2, F2, e4, fun W3 vs x3 F3 r3 => ?_⟩
        refine q W3 (x :: vs) (x2.trans x3 tr) F3 (.cons ?_ (vws_or_r r3))
        refine vw_or_l ?_
        cases p
        · exact RZ.stay (x3.fz F2.rel.trk) rz
        · exact RZ.stay (x3.bp F2.rel.trk) rz
      · subst e5
        exact ⟨W2, s1, _, s', h2, F2, e4, fun W3 dx x3 F3 hx => q W3 dx (x2.trans x3 tr) F3 hx⟩
    cases c with
    | fz d => exact go (p := false) rfl x1 F1 c1 (by simpa using e2)
    | own d =>
      obtain ⟨a, ea, z, l, h0⟩ := c1
      subst ea
      obtain ⟨R2, r2⟩ := claim_fro F1 l z
      exact go (W2 := W1.sg a (some .fro)) (p := false) rfl (x1.claim h0 tr) R2 r2 (by simpa using e2)
    | br d => exact go (p := true) rfl x1 F1 c1 (by simpa using e2)
    | rd d => exact c1.elim
  · subst e2
    exact ⟨W, s, _, s', rfl, F, e1, q⟩

/-! what is walked, as it comes -/
def EndI (G : Gm) (Wx : WX) (sx : Bool) (W : Wd) (s' : Stt) (t : L2.St) (Q : List V → Hp → Prop) : Ou (List (Md × D)) → Prop
  | .ok q => ∀ W' vs, Evo false W W' → Fr G W' s' t → Paired (fun q v => PlR G W' t q.1 q.2 v) q vs → (sx = true → W' = W) → Q vs W'.H
  | .ex c p => ExQ G Wx W s' t c p
def tIs (G : Gm) (Wx : WX) (P : Pg) (xs : List Ex) : TA := fun t H Q => ∃ W s r s', W.H = H ∧ Fr G W s t ∧ evI P xs s = some (r, s') ∧ EndI G Wx (xs.all simple) W s' t Q r
theorem walked_nil : PA X [] (tIs G Wx P []) := paImp pa_nil fun t H Q ⟨W, s, r, s', hH, F, e, q⟩ => by
  subst hH
  unfold evI at e
  cases e
  exact q W [] .refl F .nil fun _ => rfl
theorem walked_cons (ns : noStar a = true) (ha : PE X a (tV G Wx P false ea)) (hs : PA X es (tIs G Wx P xs)) : PA X (a :: es) (tIs G Wx P (ea :: xs)) := by
  refine paImp (pa_cons (peE ha) hs (star_cons ns)) fun t H Q ⟨W, s, r, s', hH, F, e, q⟩ => ?_
  subst hH
  unfold evI at e
  rcases M.bind_some e with ⟨va, s1, e1, e2⟩ | ⟨c, p, e1, e2⟩
  · refine ⟨W, s, _, s1, rfl, F, e1, fun W1 x x1 F1 p1 sm1 => ?_⟩
    have tr := F.rel.trk
    split at e2
    · cases e2
    · rename_i hn
      rcases M.bind_some e2 with ⟨qq, s2, e4, e5⟩ | ⟨c, p, e4, e5⟩
      · cases e5
        refine ⟨W1, s1, _, s', rfl, F1, e4, fun W2 vs x2 F2 r2 sm2 => ?_⟩
        refine q W2 (x :: vs) (x1.trans x2 tr) F2 (.cons ?_ r2) fun z => ?_
        · cases nf : isFl va.1 with
          | false => exact p1.stay x2 F1.rel.trk nf
          | true =>
            have : xs.all simple = true := by
              rw [nf] at hn
              simpa using hn
            rw [sm2 this]; exact p1
        · rw [List.all_cons, Bool.and_eq_true] at z
          rw [sm2 z.2, sm1 z.1]
      · subst e5
        exact ⟨W1, s1, _, s', rfl, F1, e4, fun W3 dx x3 F3 hx => q W3 dx (x1.trans x3 tr) F3 hx⟩
  · subst e2
    exact ⟨W, s, _, s', rfl, F, e1, q⟩

/-! ### displays -/
theorem lenRZ {U : Vw} {ds : List D} {vs : List V} (r : RZs G U ds vs) (h : ds.length ≤ line) : vs.length ≤ sizeLine := by
  rw [← r.length]; exact line_size h
theorem evS_len : ∀ {xs : List Ex} {s s' : Stt} {q : Bool × List D}, evS P xs s = some (.ok q, s') → q.2.length = xs.length
  | [], s, s', q, e => by
    unfold evS at e; cases e; rfl
  | x :: xs, s, s', q, e => by
    unfold evS at e
    rcases M.bind_some e with ⟨c, s1, e1, e2⟩ | ⟨c, p, e1, e2⟩
    · have go : ∀ {b : Bool} {d : D}, ((evS P xs).bind fun q => M.ok (b || q.1, d :: q.2)) s1 = some (.ok q, s') → q.2.length = (x :: xs).length := fun {b d} e3 => by
        rcases M.bind_some e3 with ⟨qq, s2, e4, e5⟩ | ⟨c, p, e4, e5⟩
        · cases e5
          show qq.2.length + 1 = _
          rw [evS_len e4]; rfl
        · cases e5
      cases c with
      | fz d => exact go (b := false) (by simpa using e2)
      | own d => exact go (b := false) (by simpa using e2)
      | br d => exact go (b := true) (by simpa using e2)
      | rd d => cases e2
    · cases e2
theorem v_tup (hs : PA X es (tSs G Wx P xs)) (hl : xs.length ≤ line) {k : Nat} : PE X (.Tuple es k pos) (tV G Wx P f (.tup xs)) := by
  refine peImp (pe_tup hs) fun t H Q ⟨W, s, r, s', hH, F, e, q⟩ => ?_
  subst hH
  unfold evV at e
  rcases M.bind_some e with ⟨qq, s1, e1, e2⟩ | ⟨c, p, e1, e2⟩
  · cases e2
    refine ⟨W, s, _, s', rfl, F, e1, fun W1 vs x1 F1 r1 => ⟨lenRZ r1 (by rw [evS_len e1]; exact hl), fun p hp => ?_⟩⟩
    have n := new_tup (G := G) (p := qq.1) hp r1
    have g : Grow W1 (W1.nw p (.tup vs)) := .nw hp
    have F2 := g.fr F1
    rcases n with ⟨_, n⟩ | ⟨a, _, _, n⟩
    · obtain ⟨W5, h5, x5, F5, c5, _⟩ := pre_fin (W2 := W1) (x1.trans g.evo F.rel.trk) F.rel.trk rfl .refl .refl (fun a ha => ⟨by rw [g.g]; exact F1.rel.free ha, x1.hnone ha⟩) F2 (in_pre n)
      show Q (.ref p) (W1.nw p (.tup vs)).H
      rw [← h5]
      exact q W5 _ x5 F5 c5 fun z => by cases z
    · cases n
  · subst e2
    exact ⟨W, s, _, s', rfl, F, e1, q⟩
theorem v_lst (hs : PA X es (tSs G Wx P xs)) (hl : xs.length ≤ line) : PE X (.List es pos) (tV G Wx P f (.lst false xs)) := by
  refine peImp (pe_lst hs) fun t H Q ⟨W, s, r, s', hH, F, e, q⟩ => ?_
  subst hH
  unfold evV at e
  rcases M.bind_some e with ⟨qq, s1, e1, e2⟩ | ⟨c, p, e1, e2⟩
  · cases e2
    refine ⟨W, s, _, s', rfl, F, e1, fun W1 vs x1 F1 r1 => ⟨lenRZ r1 (by rw [evS_len e1]; exact hl), fun p hp => ?_⟩⟩
    have n := new_lst (G := G) (p := qq.1) hp r1
    have g : Grow W1 (W1.nw p (.lst vs)) := .nw hp
    have F2 := g.fr F1
    obtain ⟨W5, h5, x5, F5, c5, _⟩ := pre_fin (W2 := W1) (x1.trans g.evo F.rel.trk) F.rel.trk rfl .refl .refl (fun a ha => ⟨by rw [g.g]; exact F1.rel.free ha, x1.hnone ha⟩) F2 (new_pre n)
    show Q (.ref p) (W1.nw p (.lst vs)).H
    rw [← h5]
    exact q W5 _ x5 F5 c5 fun z => by cases z
  · subst e2
    exact ⟨W, s, _, s', rfl, F, e1, q⟩
end
end Lk

namespace Lk
open PySem L2 PyProof.Rows

/-! ### forms of the text -/
def baseOk : Expr → Bool
  | .Call (.Name id _) [] [] _ => id != "super"
  | _ => true
theorem base_ok {o : Expr} {m : Str} {env : PySem.Env} {w : Sem Value} (h : baseOk o = true) : attributeBase o m env w = w := by
  unfold attributeBase
  cases o with
  | Call fn args kws pos =>
    cases fn with
    | Name id p =>
      cases args with
      | nil => cases kws with
        | nil =>
          have h : (id != ("super" : Str)) = true := h
          dsimp only
          rw [h]
          simp
        | cons => rfl
      | cons => rfl
    | _ => rfl
  | _ => rfl
def noSlice : Expr → Bool
  | .Slice _ _ _ _ => false
  | _ => true
theorem plain_ix {b : Expr} (h : noSlice b = true) : PlainIx b := fun o i => by
  cases b <;> first | rfl | cases h
def plainT : Expr → Bool
  | .UnaryOp _ _ _ => false
  | .BoolOp _ _ _ => false
  | .IfExp _ _ _ _ => false
  | .Compare _ _ _ _ => false
  | _ => true
theorem plain_t {e : Expr} {env : PySem.Env} (h : plainT e = true) (whole : Sem Value) : isTrue e env whole = (do let v ← whole; standAt e.pos; holding [v] (truthy v)) := by
  cases e <;> first | rfl | cases h
def noSet : Expr → Bool
  | .Set _ _ _ => false
  | _ => true
theorem no_mark {b : Expr} {op : CmpOp} (h : noSet b = true) : behindInMarks op b = false := by
  cases b <;> first | rfl | cases h
theorem no_marks {b c : Expr} {o1 o2 : CmpOp} (h : noSet c = true) : lastMarks [o1, o2] [b, c] = false := by
  show behindInMarks o2 c = false
  exact no_mark h
theorem backTo_all {pos : Pos} {env : PySem.Env} {es : List Expr} (h : es.all noStar = true) : ((backTo pos (starEach es env)).all fun p => !p.1) = true := by
  have := star_none (pos := pos) (env := env) h
  rw [List.all_eq_not_any_not]
  simpa using this
theorem meth_form {o : Expr} {m : Str} {apos pos : Pos} {args : List Expr} {env : PySem.Env} (hb : baseOk o = true) (hs : args.all noStar = true) (hn : args.length < 30) (hl : (apos.endLine == pos.line) = true) :
    eval (.Call (.Attribute o m apos) args [] pos) env = (do
      let ov ← eval o env
      standAt apos.atName
      let (f, first) ← holding [ov] (getMethod ov m (do return (← importBound o env).getD true))
      callWith pos f first (backTo pos (starEach args env)) (backToKw pos (keywordEach [] env))) := by
  have hf : methodCallForm (args.length + ([] : List Keyword).length) (backTo pos (starEach args env)) (backToKw pos (keywordEach [] env)) = true := by
    unfold methodCallForm
    rw [backTo_all hs]
    have : (backToKw pos (keywordEach [] env)) = [] := rfl
    rw [this]
    simpa using hn
  have e : eval (.Call (.Attribute o m apos) args [] pos) env = (do
      let ov ← attributeBase o m env (eval o env)
      standAt apos.atName
      methodCall o m apos pos env ov (args.length + ([] : List Keyword).length) (backTo pos (starEach args env)) (backToKw pos (keywordEach [] env))) := rfl
  rw [e, base_ok hb]
  have hm : ∀ ov, methodCall o m apos pos env ov (args.length + ([] : List Keyword).length) (backTo pos (starEach args env)) (backToKw pos (keywordEach [] env)) = (do
      let (f, first) ← holding [ov] (getMethod ov m (do return (← importBound o env).getD true))
      callWith pos f first (backTo pos (starEach args env)) (backToKw pos (keywordEach [] env))) := fun ov => by
    unfold methodCall
    rw [hf]
    unfold methodCallPos calleeOf
    rw [hl]
    rfl
  simp only [hm]

/-! ### calls, what is raised wished for at the caller's slots -/
section
variable {X : Cx} {G : Gm} {Wx : WX} {P : Pg} {a b c : Expr} {ea eb ec : Ex} {pos apos p : Pos} {f : Bool} {es : List Expr} {xs : List Ex}
variable {CT : CXT} {k : Nat} {fa C : Addr} {fd : FuncData} {ps : List Str} {sp : Sp} {E : L2.St → XK} {n : Str} {ta : TE} {tA : TA}
theorem pe_callS0 (F : FnOk X.prog X.w X.K X.mg X.base CT k fa fd ps sp) (hr : Room k X.A) (hg : Gl X n) (hm : X.mg n = some (.ref fa)) (hk : PySem.W.keepIn X.K (.ref fa) = true) (hb : Binds X.K fd ps []) (hx : ∀ σ, PassesAt CT X σ (E σ)) (hdb : (n == ("__debug__" : Str)) = false) :
    PE X (.Call (.Name n p) [] [] pos) (tCallS sp E tNil) :=
  ⟨fun pins s σ H Q I h => wpAny_Call_Name_kw (ld_glob I hg hm (PySem.W.callWith_K0 I.kIn hk (run_fnS (us := []) F hr hb (hx σ) I .nil h)) hdb)⟩
def tMethG (C : Addr) (m : Str) (sp : Sp) (E : L2.St → XK) (ta : TE) (tA : TA) : TE := fun σ H Q => ta σ H fun x H1 => ∃ a dx fs, x = .ref a ∧ H1 a = some (.ins C dx fs) ∧ fs.lookup m = none ∧ tA σ H1 fun vs H2 => sp (x :: vs) H2 Q (E σ)
theorem pe_methG {o : Expr} {m : Str} (he : PE X o ta) (cl : Cls X.K C) (hm : Meth X.K C m fa) (F : FnOk X.prog X.w X.K X.mg X.base CT k fa fd ps sp) (hr : Room k X.A) (hb : Binds X.K fd ps []) (hx : ∀ σ, PassesAt CT X σ (E σ)) (hA : PA X (a :: es) tA)
    (hbo : baseOk o = true) (ns : noStar a = true) (hs : es.all noStar = true) (hn : (a :: es).length < 30) (hl : (apos.endLine == pos.line) = true) : PE X (.Call (.Attribute o m apos) (a :: es) [] pos) (tMethG C m sp E ta tA) := by
  constructor
  intro pins s σ H Q I h
  refine PySem.W.methodCall_KW (thn (he.run pins s σ H _ I h) fun u s1 h1 => ?_) (meth_form hbo (by rw [List.all_cons, ns]; exact hs) hn hl)
  obtain ⟨x, H1, I1, rx, a, dx, fs, ex, ea, l, q⟩ := h1
  subst ex
  cases rx
  refine getmeth_ok I1 ea cl hm l ?_
  refine PySem.W.callWith_K (first := [.ref a]) (h₀ := X.base) I1.ok.mod.kin hm.kp (thn (hA.run pos pins s1 σ H1 _ I1 q) fun us s2 h2 => ?_) (star_cons ns) (star_none hs)
  obtain ⟨vs, H2, I2, r, q2⟩ := h2
  exact ⟨I2.kIn, run_fnS (us := .ref a :: us) (vs := .ref a :: vs) F hr hb (hx σ) I2 (.cons rfl r) q2⟩
theorem pe_methG0 {o : Expr} {m : Str} (he : PE X o ta) (cl : Cls X.K C) (hm : Meth X.K C m fa) (F : FnOk X.prog X.w X.K X.mg X.base CT k fa fd ps sp) (hr : Room k X.A) (hb : Binds X.K fd ps []) (hx : ∀ σ, PassesAt CT X σ (E σ))
    (hbo : baseOk o = true) (hl : (apos.endLine == pos.line) = true) : PE X (.Call (.Attribute o m apos) [] [] pos) (tMethG C m sp E ta tNil) := by
  constructor
  intro pins s σ H Q I h
  refine PySem.W.methodCall_KW (thn (he.run pins s σ H _ I h) fun u s1 h1 => ?_) (meth_form hbo rfl (by decide) hl)
  obtain ⟨x, H1, I1, rx, a, dx, fs, ex, ea, l, q⟩ := h1
  subst ex
  cases rx
  exact getmeth_ok I1 ea cl hm l (PySem.W.callWith_K0 (first := [.ref a]) I1.kIn hm.kp (run_fnS (us := [.ref a]) (vs := [.ref a]) F hr hb (hx σ) I1 (.cons rfl .nil) q))
/-! a new instance -/
def tMakeG (C : Addr) (sp : Sp) (E : L2.St → XK) (tA : TA) : TE := fun σ H Q => tA σ H fun vs H1 => ∀ x dx, H1 x = none → H1 dx = none → dx ≠ x →
  sp (.ref x :: vs) (upd (upd H1 dx (.own x)) x (.ins C dx [])) (fun v H2 => v = .non ∧ Q (.ref x) H2) (E σ)
theorem run_mk {pins : List (Addr × PySem.Obj)} {σ : L2.St} {H : Hp} {s : Shared} {Q : VK} {us : List Value} {vs : List V} (M : Mk X.K C fa) (F : FnOk X.prog X.w X.K X.mg X.base CT k fa fd ps sp) (hr : Room (k + 1) X.A) (hb : Binds X.K fd ps [])
    (hx : PassesAt CT X σ (E σ)) (I : L2.Inv X pins σ H s) (r : Vals vs us)
    (h : ∀ x dx, H x = none → H dx = none → dx ≠ x → sp (.ref x :: vs) (upd (upd H dx (.own x)) x (.ins C dx [])) (fun v H2 => v = .non ∧ Q (.ref x) H2) (E σ)) :
    wpAny (model X.prog X.w) X.A (call (.ref C) us) (EP X pins σ Q) X.xe s := by
  have now := h (s.heap.objs.size + 1) s.heap.objs.size (I.hok.fresh (Nat.le_succ _)) (I.hok.fresh (Nat.le_refl _)) (Nat.ne_of_lt (Nat.lt_succ_self _))
  have J := L2.Inv.made (C := C) I
  have rr : Vals (V.ref (s.heap.objs.size + 1) :: vs) (Value.ref (s.heap.objs.size + 1) :: us) := .cons rfl r
  have len : (Value.ref (s.heap.objs.size + 1) :: us).length = ps.length := by
    rw [← F.len _ _ _ _ now]; exact rr.length.symm
  have bd := hb _ (Value.ref (s.heap.objs.size + 1) :: us) J.kIn (by rw [List.append_nil]; exact len)
  rw [List.append_nil] at bd
  refine wpAny_call (make_map (f := fa) I.kIn M.makes M.init (beq_iff_eq.mp M.fn) (codeAny_mono (F.run _ X.stack _ _ ⟨Value.ref (s.heap.objs.size + 1) :: us, []⟩ (Value.ref (s.heap.objs.size + 1) :: us) _ _ (E σ) (hr.make C us [])
    (J.env0.make C us []) bd rr now) fun r s' done => ?_))
  cases r with
  | error e => exact hx pins _ _ e s' J done
  | ok fl =>
    cases fl with
    | ret u =>
      obtain ⟨v, H', J2, rv, ev, q3⟩ := J.after done
      subst ev
      exact ⟨rv, V.ref (s.heap.objs.size + 1), H', J2, rfl, q3⟩
    | _ => exact done.elim
theorem pe_makeG (M : Mk X.K C fa) (F : FnOk X.prog X.w X.K X.mg X.base CT k fa fd ps sp) (hr : Room (k + 1) X.A) (hg : Gl X n) (hm : X.mg n = some (.ref C)) (hb : Binds X.K fd ps []) (hx : ∀ σ, PassesAt CT X σ (E σ)) (hA : PA X (a :: es) tA)
    (hdb : (n == ("__debug__" : Str)) = false) (ns : noStar a = true) (hs : es.all noStar = true) : PE X (.Call (.Name n p) (a :: es) [] pos) (tMakeG C sp E tA) := by
  constructor
  intro pins s σ H Q I h
  refine wpAny_Call_Name_kw (ld_glob I hg hm ?_ hdb)
  refine PySem.W.callWith_K (h₀ := X.base) I.ok.mod.kin M.kp (thn (hA.run pos pins s σ H _ I h) fun us s1 h1 => ?_) (star_cons ns) (star_none hs)
  obtain ⟨vs, H1, I1, r, q⟩ := h1
  exact ⟨I1.kIn, run_mk M F hr hb (hx σ) I1 r q⟩
theorem pe_makeG0 (M : Mk X.K C fa) (F : FnOk X.prog X.w X.K X.mg X.base CT k fa fd ps sp) (hr : Room (k + 1) X.A) (hg : Gl X n) (hm : X.mg n = some (.ref C)) (hb : Binds X.K fd ps []) (hx : ∀ σ, PassesAt CT X σ (E σ))
    (hdb : (n == ("__debug__" : Str)) = false) : PE X (.Call (.Name n p) [] [] pos) (tMakeG C sp E tNil) :=
  ⟨fun pins s σ H Q I h => wpAny_Call_Name_kw (ld_glob I hg hm (PySem.W.callWith_K0 I.kIn M.kp (run_mk (us := []) M F hr hb (hx σ) I .nil h)) hdb)⟩
end
end Lk

namespace Lk
open PySem L2 PyProof.Rows

section
variable {G : Gm} {W W' Wn W4 W3 : Wd} {s s' sn sn' : Stt} {t : L2.St} {c : Cell} {v : V}
/-! arguments at the call -/
theorem toCell_arg {q : Md × D} (h : ArgT G W q v) : ArgR G W.rm (toCell q) v := by
  obtain ⟨m, d⟩ := q
  cases m with
  | fz => exact RZ.stay rm_fz h
  | bp =>
    unfold toCell
    simp only
    cases f : flat d with
    | true => exact RZ.stay rm_fz (vw_flat (p := true) h f)
    | false => exact RZ.stay rm_bp h
  | sl i => obtain ⟨a, e, l, r⟩ := h; subst e; exact l.rmz r
  | fl l k => obtain ⟨a, e, l, r⟩ := h; subst e; exact l.rmz r
theorem toCells : ∀ {qs : List (Md × D)} {vs : List V}, Paired (ArgT G W) qs vs → Paired (ArgR G W.rm) (qs.map toCell) vs
  | _, _, .nil => .nil
  | _, _, .cons r t => .cons (toCell_arg r) (toCells t)
/-! a cell, back behind the locks -/
theorem cel_back (h : CelR G Wn W4 c v) (u : Unl G W W4 W3) (h0 : ∀ a, Wn.H a = none → W.H a = none) : CelR G W W3 c v := by
  cases c with
  | fz d => exact RZ.stay u.fz h
  | br d => exact RZ.stay u.bp h
  | own d =>
    obtain ⟨a, e, g, l, n⟩ := h
    exact ⟨a, e, u.free a g, l.stay u.fz (by rw [u.H]), h0 a n⟩
  | rd d => exact h.elim
/-! an instance is made -/
def Wd.mk' (W : Wd) (n : Nat) (x dx : Addr) (o : HO) : Wd := ⟨fun a => if a = x then some (.box n) else W.g a, fun l => if l = n then x else W.i l, upd (upd W.H dx (.own x)) x o, W.k⟩
theorem mk_H {n : Nat} {x dx : Addr} {o : HO} (hx : W.H x = none) (hd : W.H dx = none) : ∀ a u, W.H a = some u → (W.mk' n x dx o).H a = some u := fun a u e => by
  show upd (upd W.H dx (.own x)) x o a = _
  rw [upd_ne (ne_of_none e hx), upd_ne (ne_of_none e hd)]; exact e
theorem mk_i {n l : Nat} {x dx : Addr} {o : HO} (hn : ¬ W.B n) (hl : W.B l) : (W.mk' n x dx o).i l = W.i l := by
  show (if l = n then x else W.i l) = _
  rw [if_neg (fun e => hn (by rw [← e]; exact hl))]
theorem mk_g {n : Nat} {a x dx : Addr} {o : HO} (h : a ≠ x) : (W.mk' n x dx o).g a = W.g a := if_neg h
theorem mk_B {n l : Nat} {x dx : Addr} {o : HO} (hn : ¬ W.B n) (gx : W.g x = none) (hl : W.B l) : (W.mk' n x dx o).B l := by
  show (W.mk' n x dx o).g ((W.mk' n x dx o).i l) = _
  rw [mk_i hn hl, mk_g (fun e => by have hl : W.g (W.i l) = _ := hl; rw [e, gx] at hl; cases hl)]; exact hl
theorem mk_evo {b : Bool} {n : Nat} {x dx : Addr} {o : HO} (tr : ∀ a r, W.g a = some r → ∃ o, W.H a = some o) (hx : W.H x = none) (hd : W.H dx = none) (hn : ¬ W.B n) (gx : W.g x = none) : Evo b W (W.mk' n x dx o) := by
  have nx : ∀ {a u}, W.H a = some u → a ≠ x := fun {a u} e => ne_of_none e hx
  refine ⟨fun l hl => mk_i hn hl, fun a vs h => mk_H hx hd a _ h, fun a o h _ => mk_H hx hd a _ h, fun a o h _ => mk_g (nx h), fun _ a i h => .inl ?_, fun a o h => ⟨o, mk_H hx hd a _ h⟩, fun _ _ _ h => h, fun a l k h => .inl ?_⟩
  · obtain ⟨u, hu⟩ := tr a _ h
    rw [mk_g (nx hu)]; exact h
  · obtain ⟨u, hu⟩ := tr a _ h
    rw [mk_g (nx hu)]; exact h
theorem mk_stay {n : Nat} {x dx : Addr} {o : HO} (tr : ∀ a r, W.g a = some r → ∃ o, W.H a = some o) (hx : W.H x = none) (hd : W.H dx = none) (hn : ¬ W.B n) (gx : W.g x = none) {S : Sto} (R : Rel G W S) (c : Nat) (hS : n = S.length) (ho : o = .ins (G.C c) dx []) :
    Rel G (W.mk' n x dx o) (S ++ [.ins c []]) := by
  have ev : Evo false W (W.mk' n x dx o) := mk_evo tr hx hd hn gx
  have yf := ev.fz tr
  have nx : ∀ {a u}, W.H a = some u → a ≠ x := fun {a u} e => ne_of_none e hx
  refine ⟨fun l u e => ?_, fun l hl z => ?_, fun a r e => ?_⟩
  · by_cases h : l < S.length
    · rw [List.getElem?_append_left h] at e
      obtain ⟨hb, q⟩ := R.box l u e
      obtain ⟨u0, hu0⟩ := tr _ _ hb
      refine ⟨mk_B hn gx hb, q.stay yf hb (by rw [mk_H hx hd _ _ hu0, hu0]) fun cc k v z => ?_⟩
      cases cc with
      | fz d => exact RZ.stay yf z
      | own d =>
        obtain ⟨a, e1, g, w⟩ := z
        obtain ⟨u2, hu2⟩ := w.there
        exact ⟨a, e1, by rw [mk_g (nx hu2)]; exact g, w.stay yf (by rw [mk_H hx hd _ _ hu2, hu2])⟩
      | rd d =>
        obtain ⟨a, e', e1, g, w, kk⟩ := z
        obtain ⟨u2, hu2⟩ := w.there
        exact ⟨a, e', e1, by rw [mk_g (nx hu2)]; exact g, w.stay yf (by rw [mk_H hx hd _ _ hu2, hu2]), kk⟩
      | br d => exact z
    · have hl : l = S.length := by
        have := (List.getElem?_eq_some_iff.mp e).1
        rw [List.length_append] at this
        simp at this; omega
      subst hl
      rw [List.getElem?_append_right (Nat.le_refl _)] at e
      simp at e
      subst e
      have ei : (W.mk' n x dx o).i S.length = x := by show (if S.length = n then x else _) = x; rw [if_pos hS.symm]
      refine ⟨?_, dx, [], ?_, rfl, by simp, fun k cc v h => by simp at h⟩
      · show (W.mk' n x dx o).g ((W.mk' n x dx o).i S.length) = _
        rw [ei, ← hS]
        show (if x = x then _ else _) = _
        rw [if_pos rfl]
      · rw [ei]
        show upd (upd W.H dx (.own x)) x o x = _
        rw [upd_same, ho, List.zip_nil_right]
  · have z : (W.mk' n x dx o).g ((W.mk' n x dx o).i l) = some (.box l) := z
    rw [List.length_append] at hl
    simp at hl
    have hln : l ≠ n := by omega
    have ei : (W.mk' n x dx o).i l = W.i l := by show (if l = n then x else _) = _; rw [if_neg hln]
    rw [ei] at z
    by_cases h : W.i l = x
    · rw [h] at z
      have : (W.mk' n x dx o).g x = some (.box n) := by show (if x = x then _ else _) = _; rw [if_pos rfl]
      rw [this] at z
      cases z; exact hln rfl
    · rw [mk_g h] at z
      exact R.top l (by omega) z
  · by_cases h : a = x
    · subst h
      exact ⟨o, by show upd _ a o a = _; rw [upd_same]⟩
    · rw [mk_g h] at e
      obtain ⟨u, hu⟩ := tr a r e
      exact ⟨u, mk_H hx hd _ _ hu⟩
end

section
variable {X : Cx} {G : Gm} {Wx : WX} {P : Pg} {a b c : Expr} {ea eb ec : Ex} {pos apos p : Pos} {f : Bool} {es : List Expr} {xs : List Ex}
variable {k fi : Nat} {fa : Addr} {fd : FuncData} {ps : List Str} {n : Str}
/-! a call by what its def does; k as evA hands it on -/
theorem nw_some {m : M Cell} {s s' : Stt} {r : Ou Vl} (e : m.nw s = some (r, s')) : (∃ c, m s = some (.ok c, s') ∧ r = .ok (.nw c)) ∨ ∃ c p, m s = some (.ex c p, s') ∧ r = .ex c p := by
  unfold M.nw at e
  rcases M.bind_some e with ⟨c, s1, e1, e2⟩ | ⟨c, p, e1, e2⟩
  · cases e2
    exact .inl ⟨c, e1, rfl⟩
  · exact .inr ⟨c, p, e1, e2⟩
/-! what is behind the arguments' end: the call itself -/
theorem call_end {W Wn : Wd} {s' sn sn' : Stt} {t : L2.St} {Q : VK} {r : Ou Cell} {r' : Ou Vl} {den : Den} {cs : List Cell} {vals : List V} (Fn : Fr G Wn sn t) (pv : Paired (ArgR G Wn.rm) cs vals) (ek : runD den cs sn = some (r, sn'))
    (h0 : ∀ a, Wn.H a = none → W.H a = none) (bk : ∀ W4, Evo false Wn W4 → Fr G W4 sn' t → ∃ W3, Unl G W W4 W3 ∧ Fr G W3 s' t)
    (hr : (∃ c, r = .ok c ∧ r' = .ok (.nw c)) ∨ ∃ c p, r = .ex c p ∧ r' = .ex c p) (q : EndV G Wx false W s' t Q r') : spD G den vals Wn.H Q (WE Wx t) := by
  refine call_ok Fn pv ek ?_
  rcases hr with ⟨c, e1, e2⟩ | ⟨c, p, e1, e2⟩
  · subst e1 e2
    intro W4 v x4 F4 cr
    obtain ⟨W3, u, F3⟩ := bk W4 x4 F4
    rw [← u.H]
    exact q W3 v u.evo F3 (cel_back cr u h0) fun z => by cases z
  · subst e1 e2
    intro W4 dx x4 F4 hx
    obtain ⟨W3, u, F3⟩ := bk W4 x4 F4
    rw [← u.H]
    exact q W3 dx u.evo F3 (unl_ex u hx)
theorem v_call (F0 : FnOk X.prog X.w X.K X.mg X.base (L2.CX X.prog X.w) k fa fd ps (spD G (P.F fi))) (hr : Room k X.A) (hg : Gl X n) (hm : X.mg n = some (.ref fa)) (hk : PySem.W.keepIn X.K (.ref fa) = true) (hb : Binds X.K fd ps []) (hx : ∀ σ, PassesAt (L2.CX X.prog X.w) X σ (WE Wx σ))
    (hs : PA X es (tAs G Wx P xs)) (hl : es.all noStar = true) (hdb : (n == ("__debug__" : Str)) = false) (hnil : es = [] → xs = []) : PE X (.Call (.Name n p) es [] pos) (tV G Wx P f (.call fi xs)) := by
  have imp : ∀ t H Q, tV G Wx P f (.call fi xs) t H Q → tAs G Wx P xs t H fun vs H1 => spD G (P.F fi) vs H1 Q (WE Wx t) := fun t H Q ⟨W, s, r, s', hH, F, e, q⟩ => by
    subst hH
    unfold evV at e
    have hr := nw_some e
    have key : ∀ r0 : Ou Cell, evA P xs (fun vs => runD (P.F fi) (vs.map toCell)) s = some (r0, s') → ((∃ c, r0 = .ok c ∧ r = .ok (.nw c)) ∨ ∃ c p, r0 = .ex c p ∧ r = .ex c p) → tAs G Wx P xs t W.H fun vs H1 => spD G (P.F fi) vs H1 Q (WE Wx t) := fun r0 e0 h0 => by
      refine ⟨W, s, r0, s', _, rfl, F, e0, fun c p er => ?_, fun Wn sn sn' vs vals pr Fn pv ek bk => call_end Fn (toCells pv) ek pr.2 bk h0 q⟩
      rcases h0 with ⟨c', e1, _⟩ | ⟨c', p', e1, e2⟩
      · rw [e1] at er; cases er
      · rw [e1] at er; cases er
        subst e2; exact q
    rcases hr with ⟨c, e0, e1⟩ | ⟨c, p, e0, e1⟩
    · exact key _ e0 (.inl ⟨c, rfl, e1⟩)
    · exact key _ e0 (.inr ⟨c, p, rfl, e1⟩)
  cases es with
  | nil =>
    have hx0 := hnil rfl
    subst hx0
    refine peImp (pe_callS0 F0 hr hg hm hk hb hx hdb) fun t H Q h => ?_
    obtain ⟨W, s, r, s', k, hH, F, e, _, q⟩ := imp t H Q h
    subst hH
    unfold evA at e
    exact q W s s' [] [] ⟨fun _ _ h => h, fun _ h => h⟩ F .nil e fun W4 x F4 => ⟨W4, ⟨rfl, rfl, x, .refl, .refl, fun _ h => h⟩, F4⟩
  | cons e es =>
    rw [List.all_cons, Bool.and_eq_true] at hl
    exact peImp (pe_callS F0 hr hg hm hk hb hx hs hdb (star_cons hl.1) (star_none hl.2)) imp
end
end Lk

namespace Lk
open PySem L2 PyProof.Rows

theorem zip_none {ns : List Str} {m : Str} : ∀ {vs : List V}, m ∉ ns → (ns.zip vs).lookup m = none := by
  induction ns with
  | nil => intro vs _; rfl
  | cons n ns ih =>
    intro vs h
    cases vs with
    | nil => rfl
    | cons w vs =>
      rw [List.mem_cons, not_or] at h
      have hb : (m == n) = false := by simpa using h.1
      rw [List.zip_cons_cons, List.lookup, hb]
      exact ih h.2
section
variable {X : Cx} {G : Gm} {Wx : WX} {P : Pg} {a b c o : Expr} {ea eb ec eo : Ex} {pos apos p : Pos} {f : Bool} {es : List Expr} {xs : List Ex}
variable {k fi cl : Nat} {fa : Addr} {fd : FuncData} {ps : List Str} {n m : Str}
theorem clsAt_some {l : Nat} {S : Sto} (h : clsAt l S = some cl) : ∃ fs, S[l]? = some (.ins cl fs) := by
  unfold clsAt at h
  split at h
  · rename_i c fs e
    cases h
    exact ⟨fs, e⟩
  · cases h
theorem tE_mono {t : L2.St} {H : Hp} {Q Q' : VK} (h : tE G Wx P ea t H Q) (i : ∀ v H', Q v H' → Q' v H') : tE G Wx P ea t H Q' := by
  obtain ⟨W, s, r, s', hH, F, e, q⟩ := h
  refine ⟨W, s, r, s', hH, F, e, ?_⟩
  cases r with
  | ok vl => exact fun W' v x F' hv hz => i _ _ (q W' v x F' hv hz)
  | ex c p => exact q
theorem tas_nil {t : L2.St} {H : Hp} {Q : List V → Hp → Prop} (h : tAs G Wx P [] t H Q) : Q [] H := by
  obtain ⟨W, s, r, s', k, hH, F, e, _, q⟩ := h
  subst hH
  unfold evA at e
  exact q W s s' [] [] ⟨fun _ _ h => h, fun _ h => h⟩ F .nil e fun W4 x F4 => ⟨W4, ⟨rfl, rfl, x, .refl, .refl, fun _ h => h⟩, F4⟩
theorem v_meth (ho : PE X o (tV G Wx P false eo)) (hc : Cls X.K (G.C cl)) (hm : Meth X.K (G.C cl) m fa) (F0 : FnOk X.prog X.w X.K X.mg X.base (L2.CX X.prog X.w) k fa fd ps (spD G (P.F fi))) (hr : Room k X.A) (hb : Binds X.K fd ps []) (hx : ∀ σ, PassesAt (L2.CX X.prog X.w) X σ (WE Wx σ))
    (nm : m ∉ G.fl cl) (hs : PA X es (tAs G Wx P xs)) (hl : es.all noStar = true) (hnil : es = [] → xs = []) (hbo : baseOk o = true) (hn : es.length < 30) (hli : (apos.endLine == pos.line) = true) : PE X (.Call (.Attribute o m apos) es [] pos) (tV G Wx P f (.meth fi cl eo xs)) := by
  have imp : ∀ t H Q, tV G Wx P f (.meth fi cl eo xs) t H Q → tMethG (G.C cl) m (spD G (P.F fi)) (WE Wx) (tE G Wx P eo) (tAs G Wx P xs) t H Q := fun t H Q ⟨W, s, r, s', hH, F, e, q⟩ => by
    subst hH
    unfold evV at e
    rcases M.bind_some e with ⟨va, s1, e1, e2⟩ | ⟨c, p, e1, e2⟩
    · refine ⟨W, s, _, s1, rfl, F, e1, fun W1 x x1 F1 p1 _ => ?_⟩
      split at e2
      · rename_i l
        split at e2
        · rename_i hcl
          obtain ⟨fs, hS⟩ := clsAt_some hcl
          have p1 : RZ G W1.fz (.ref l) x := p1
          cases p1 with
          | ref _ hb' =>
            obtain ⟨_, dx, vs0, h1, h2, h3, h4⟩ := F1.rel.box l _ hS
            refine ⟨_, dx, _, rfl, h1, zip_none nm, ?_⟩
            have hr := nw_some e2
            have tr := F.rel.trk
            have q1 : EndV G Wx false W1 s' t Q r := by
              cases r with
              | ok vl =>
                intro W' v x' F' hv hz
                refine q W' v (x1.trans x' tr) F' ?_ fun z => by cases z
                cases vl with
                | pl m d => exact hv
                | nw c =>
                  cases c with
                  | own d =>
                    obtain ⟨a, e, g, l, h0⟩ := hv
                    exact ⟨a, e, g, l, x1.hnone h0⟩
                  | _ => exact hv
              | ex c p => exact fun W' dx x' F' hx => q W' dx (x1.trans x' tr) F' hx
            have key : ∀ r0 : Ou Cell, evA P xs (fun vs => runD (P.F fi) (.fz (.ref l) :: vs.map toCell)) s1 = some (r0, s') → ((∃ c, r0 = .ok c ∧ r = .ok (.nw c)) ∨ ∃ c p, r0 = .ex c p ∧ r = .ex c p) → tAs G Wx P xs t W1.H fun vs H1 => spD G (P.F fi) (.ref (W1.i l) :: vs) H1 Q (WE Wx t) := fun r0 e0 h0 => by
              refine ⟨W1, s1, r0, s', _, rfl, F1, e0, fun c p er => ?_, fun Wn sn sn' vs vals pr Fn pv ek bk => ?_⟩
              · rcases h0 with ⟨c', e1, _⟩ | ⟨c', p', e1, e2⟩
                · rw [e1] at er; cases er
                · rw [e1] at er; cases er
                  subst e2; exact q1
              · have self : ArgR G Wn.rm (.fz (.ref l)) (.ref (W1.i l)) := by
                  have := pr.1 (.fz, .ref l) (.ref (W1.i l)) (show RZ G W1.fz (.ref l) _ from .ref l hb')
                  exact toCell_arg this
                exact call_end Fn (.cons self (toCells pv)) ek pr.2 bk h0 q1
            rcases hr with ⟨c, e0, e1⟩ | ⟨c, p, e0, e1⟩
            · exact key _ e0 (.inl ⟨c, rfl, e1⟩)
            · exact key _ e0 (.inr ⟨c, p, rfl, e1⟩)
        · cases e2
      · cases e2
    · subst e2
      exact ⟨W, s, _, s', rfl, F, e1, q⟩
  cases es with
  | nil =>
    have hx0 := hnil rfl
    subst hx0
    refine peImp (pe_methG0 (peE ho) hc hm F0 hr hb hx hbo hli) fun t H Q h => ?_
    exact tE_mono (imp t H Q h) fun v H1 ⟨a, dx, fs, h1, h2, h3, h4⟩ => ⟨a, dx, fs, h1, h2, h3, tas_nil h4⟩
  | cons e es =>
    rw [List.all_cons, Bool.and_eq_true] at hl
    exact peImp (pe_methG (peE ho) hc hm F0 hr hb hx hs hbo hl.1 hl.2 hn hli) imp
theorem v_mk (C : Cxt X G) (M : Mk X.K (G.C cl) fa) (F0 : FnOk X.prog X.w X.K X.mg X.base (L2.CX X.prog X.w) k fa fd ps (spD G (P.F fi))) (hr : Room (k + 1) X.A) (hg : Gl X n) (hm : X.mg n = some (.ref (G.C cl))) (hb : Binds X.K fd ps []) (hx : ∀ σ, PassesAt (L2.CX X.prog X.w) X σ (WE Wx σ))
    (hs : PA X es (tAs G Wx P xs)) (hl : es.all noStar = true) (hdb : (n == ("__debug__" : Str)) = false) (hnil : es = [] → xs = []) : PE X (.Call (.Name n p) es [] pos) (tV G Wx P f (.mk fi cl xs)) := by
  have imp : ∀ t H Q, tV G Wx P f (.mk fi cl xs) t H Q → tMakeG (G.C cl) (spD G (P.F fi)) (WE Wx) (tAs G Wx P xs) t H Q := fun t H Q ⟨W, s, r, s', hH, F, e, q⟩ => by
    subst hH
    unfold evV at e
    have hr := nw_some e
    have key : ∀ r0 : Ou Cell, evA P xs (fun vs => mkD (P.F fi) cl (vs.map toCell)) s = some (r0, s') → ((∃ c, r0 = .ok c ∧ r = .ok (.nw c)) ∨ ∃ c p, r0 = .ex c p ∧ r = .ex c p) → tMakeG (G.C cl) (spD G (P.F fi)) (WE Wx) (tAs G Wx P xs) t W.H Q := fun r0 e0 h0 => by
      refine ⟨W, s, r0, s', _, rfl, F, e0, fun c p er => ?_, fun Wn sn sn' vs vals pr Fn pv ek bk x dx hx hd hne => ?_⟩
      · rcases h0 with ⟨c', e1, _⟩ | ⟨c', p', e1, e2⟩
        · rw [e1] at er; cases er
        · rw [e1] at er; cases er
          subst e2; exact q
      · have tr := Fn.rel.trk
        have gx := Fn.rel.free hx
        have hn : ¬ Wn.B sn.S.length := Fn.rel.top _ (Nat.le_refl _)
        have ev : Evo false Wn (Wn.mk' sn.S.length x dx (.ins (G.C cl) dx [])) := mk_evo tr hx hd hn gx
        have R' := mk_stay tr hx hd hn gx Fn.rel cl rfl rfl
        have nx : ∀ {a u}, Wn.H a = some u → a ≠ x := fun {a u} e => ne_of_none e hx
        have F' : Fr G (Wn.mk' sn.S.length x dx (.ins (G.C cl) dx [])) { sn with S := sn.S ++ [.ins cl []] } t := by
          refine ⟨R', Fn.len, fun i c e => ?_⟩
          obtain ⟨v, e1, z⟩ := Fn.slt i c e
          refine ⟨v, e1, ?_⟩
          cases c with
          | fz d => exact RZ.stay (ev.fz tr) z
          | own d =>
            obtain ⟨a, e1, g, w⟩ := z
            obtain ⟨u2, hu2⟩ := w.there
            exact ⟨a, e1, by rw [mk_g (nx hu2)]; exact g, w.stay (ev.fz tr) (by rw [mk_H hx hd _ _ hu2, hu2])⟩
          | rd d =>
            obtain ⟨a, e1, g, w, kk⟩ := z
            obtain ⟨u2, hu2⟩ := w.there
            exact ⟨a, e1, by rw [mk_g (nx hu2)]; exact g, w.stay (ev.fz tr) (by rw [mk_H hx hd _ _ hu2, hu2]), kk⟩
          | br d => exact RZ.stay (ev.bp tr) z
        have iB : (Wn.mk' sn.S.length x dx (.ins (G.C cl) dx [])).B sn.S.length := (R'.box sn.S.length (.ins cl []) (by rw [List.getElem?_append_right (Nat.le_refl _)]; simp)).1
        have ix : (Wn.mk' sn.S.length x dx (.ins (G.C cl) dx [])).i sn.S.length = x := by show (if sn.S.length = sn.S.length then x else _) = x; rw [if_pos rfl]
        have self : ArgR G (Wn.mk' sn.S.length x dx (.ins (G.C cl) dx [])).rm (.fz (.ref sn.S.length)) (.ref x) := by
          have : RZ G (Wn.mk' sn.S.length x dx (.ins (G.C cl) dx [])).fz (.ref sn.S.length) (.ref x) := by
            have := RZ.ref (G := G) (U := (Wn.mk' sn.S.length x dx (.ins (G.C cl) dx [])).fz) sn.S.length iB
            have e2 : (Wn.mk' sn.S.length x dx (.ins (G.C cl) dx [])).fz.i sn.S.length = x := ix
            rw [e2] at this; exact this
          exact RZ.stay rm_fz this
        have pv' : Paired (ArgT G (Wn.mk' sn.S.length x dx (.ins (G.C cl) dx []))) vs vals := Paired.mapP pv fun q v h => h.stay ev tr
        have hH' : (Wn.mk' sn.S.length x dx (.ins (G.C cl) dx [])).H = upd (upd Wn.H dx (.own x)) x (.ins (G.C cl) dx []) := rfl
        rw [← hH']
        unfold mkD at ek
        split at ek
        · rename_i s2 e2
          cases ek
          refine call_ok F' (.cons self (toCells pv')) e2 ?_
          intro W4 v x4 F4 cr
          have cr : RZ G W4.fz .non v := cr
          cases cr
          refine ⟨rfl, ?_⟩
          obtain ⟨W3, u, F3⟩ := bk W4 (ev.trans x4 tr) F4
          rcases h0 with ⟨c', e1, e3⟩ | ⟨c', p', e1, _⟩
          · cases e1
            subst e3
            rw [← u.H]
            refine q W3 (.ref x) u.evo F3 ?_ fun z => by cases z
            have b4 := x4.box F'.rel.trk iB
            have : RZ G W4.fz (.ref sn.S.length) (.ref x) := by
              have := RZ.ref (G := G) (U := W4.fz) sn.S.length b4.2
              have e2 : W4.fz.i sn.S.length = x := b4.1.trans ix
              rw [e2] at this; exact this
            exact RZ.stay u.fz this
          · cases e1
        · rename_i c p s2 e2
          cases ek
          refine call_ok F' (.cons self (toCells pv')) e2 ?_
          intro W4 dx4 x4 F4 hx4
          obtain ⟨W3, u, F3⟩ := bk W4 (ev.trans x4 tr) F4
          rcases h0 with ⟨c', e1, e3⟩ | ⟨c', p', e1, e3⟩
          · cases e1
          · cases e1
            subst e3
            rw [← u.H]
            exact q W3 dx4 u.evo F3 (unl_ex u hx4)
        · cases ek
    rcases hr with ⟨c, e0, e1⟩ | ⟨c, p, e0, e1⟩
    · exact key _ e0 (.inl ⟨c, rfl, e1⟩)
    · exact key _ e0 (.inr ⟨c, p, rfl, e1⟩)
  cases es with
  | nil =>
    have hx0 := hnil rfl
    subst hx0
    exact peImp (pe_makeG0 M F0 hr hg hm hb hx hdb) fun t H Q h => tas_nil (imp t H Q h)
  | cons e es =>
    rw [List.all_cons, Bool.and_eq_true] at hl
    exact peImp (pe_makeG M F0 hr hg hm hb hx hs hdb hl.1 hl.2) imp
end
end Lk

namespace Lk
open PySem L2 PyProof.Rows

section
variable {G : Gm} {W : Wd} {s : Stt} {t : L2.St} {x : V} {va va' : Md × D}
theorem unbox_tz (F : Fr G W s t) (h : TZ G W (isBp va) va.2 x) (e : unbox s.S va = some va') : TZ G W (isBp va') va'.2 x := by
  obtain ⟨m, d⟩ := va
  by_cases hm : m = .fz ∧ ∃ l, d = .ref l
  · obtain ⟨rfl, l, rfl⟩ := hm
    refine unbox_ok (t := t) F (va := (.fz, .ref l)) ?_ e
    rcases h with h | ⟨a, ea, h⟩
    · exact h
    · cases h
  · have : unbox s.S (m, d) = some (m, d) := by
      unfold unbox
      split
      · rename_i l hq
        cases hq
        exact absurd ⟨rfl, _, rfl⟩ hm
      · rfl
    rw [this] at e
    cases e; exact h
end
section
variable {X : Cx} {G : Gm} {Wx : WX} {P : Pg} {a b c o : Expr} {ea eb ec eo : Ex} {pos apos p : Pos} {f : Bool} {es : List Expr} {xs : List Ex}
theorem v_neg (ha : PE X a (tV G Wx P false ea)) : PE X (.UnaryOp .USub a pos) (tV G Wx P f (.neg ea)) := by
  refine peImp (pe_un un_neg (peE ha)) fun t H Q ⟨W, s, r, s', hH, F, e, q⟩ => ?_
  subst hH
  unfold evV at e
  refine one (sx := simple (.neg ea)) F e cell_pure1 (fun z => by simpa [simple] using z) q fun va s3 c W2 x e1 F2 p1 fin => ?_
  obtain ⟨c', e2, e3, _⟩ := cell_some e1
  cases e3
  split at e2
  · rename_i i hi
    cases e2
    have := p1.tz
    rw [hi] at this
    exact ⟨i, this.int, fin W2 _ .refl (.int (-i)) fun _ => rfl⟩
  · cases e2
theorem idx_pure : PureK fun va vb => fun s => match unbox s.S va with
      | some va => (match idxD va.2 vb.2 with
        | some d => some (.ok (.nw (cellIn (isBp va) d)), s)
        | none => none)
      | none => none := fun va vb s1 r s2 e => by
  dsimp only at e
  split at e
  · split at e
    · cases e; exact ⟨rfl, _, rfl⟩
    · cases e
  · cases e
theorem v_idx (C : Cxt X G) (ha : PE X a (tV G Wx P false ea)) (hb : PE X b (tV G Wx P false eb)) (hs : noSlice b = true) : PE X (.Subscript a b pos) (tV G Wx P f (.idx ea eb)) := by
  refine peImp (pe_ix (ixAll C) (peE ha) (peE hb) (plain_ix hs)) fun t H Q ⟨W, s, r, s', hH, F, e, q⟩ => ?_
  subst hH
  unfold evV at e
  refine two (sx := simple (.idx ea eb)) (R := fun x y H2 => rIxT' G x y H2 Q) F e idx_pure (fun z => by simpa [simple] using z) q fun va vb s3 c W2 x y e1 F2 ta tb pb evb fin => ?_
  split at e1
  · rename_i va' hu
    split at e1
    · rename_i d hd
      cases e1
      exact ⟨W2, _, _, _, _, d, rfl, unbox_tz F2 ta hu, tb, hd, fun v hv => fin W2 v .refl (in_pre hv) fun _ => rfl⟩
    · cases e1
  · cases e1
theorem cmp_imp {op : COp} {t : L2.St} {H : Hp} {Q : VK} (h : tV G Wx P f (.cmp op ea eb) t H Q) : tOp (rCmp G op) (tE G Wx P ea) (tE G Wx P eb) t H Q := by
  obtain ⟨W, s, r, s', hH, F, e, q⟩ := h
  subst hH
  unfold evV at e
  refine two (sx := false) (R := fun x y H2 => rCmp G op x y H2 Q) F e cell_pure (fun z => by cases z) q fun va vb s3 c W2 x y e1 F2 ta tb pb _ fin => ?_
  obtain ⟨c', e2, e3, _⟩ := cell_some e1
  cases e3
  obtain ⟨d, e4, e5⟩ := Option.map_eq_some_iff.mp e2
  subst e5
  exact ⟨W2, _, _, _, _, d, rfl, ta, tb, e4, fin W2 _ .refl (.bl d) fun _ => rfl⟩
theorem v_cmp (C : Cxt X G) {op : COp} (ha : PE X a (tV G Wx P false ea)) (hb : PE X b (tV G Wx P false eb)) (hs : noSet b = true) : PE X (.Compare a [cOp op] [b] pos) (tV G Wx P f (.cmp op ea eb)) :=
  peImp (pe_cmpR (opCmp C op) (peE ha) (peE hb) (no_mark hs)) fun _ _ _ h => cmp_imp h

/-! ### tests -/
theorem asT_some {vl : Vl} {s s' : Stt} {r : Ou Bool} (e : asT vl s = some (r, s')) : ∃ v v' b, asV vl s = some (.ok v, s') ∧ unbox s'.S v = some v' ∧ truD v'.2 = some b ∧ r = .ok b := by
  unfold asT at e
  rcases M.bind_some e with ⟨v, s1, e1, e2⟩ | ⟨c, p, e1, e2⟩
  · split at e2
    · rename_i v' hu
      split at e2
      · rename_i b hb
        cases e2
        exact ⟨v, v', b, e1, hu, hb, rfl⟩
      · cases e2
    · cases e2
  · exact (asV_noex e1).elim
theorem tru_imp (C : Cxt X G) {ex : Ex} {t : L2.St} {H : Hp} {Q : Bool → Hp → Prop} (h : tT G Wx P ex t H Q) : tV G Wx P true ex t H fun x H1 => ∃ k, TruV X.K x H1 k ∧ Q k H1 := by
  obtain ⟨W, s, r, s', hH, F, e, q⟩ := h
  unfold evT at e
  rcases M.bind_some e with ⟨vl, s1, e1, e2⟩ | ⟨c, p, e1, e2⟩
  · refine ⟨W, s, _, s1, hH, F, e1, fun W' v x F' hv hs => ?_⟩
    obtain ⟨v1, v', b, e3, hu, hb, er⟩ := asT_some e2
    obtain ⟨es, W2, h2, x2, F2, p2, _⟩ := asV_ok x F.rel.trk F' hv e3
    subst es er
    rw [← h2]
    exact ⟨b, C.K ▸ tru_ok' (unbox_ok F2 p2 hu) hb, q W2 x2 F2⟩
  · subst e2
    exact ⟨W, s, _, s', hH, F, e1, q⟩
theorem t_gen (C : Cxt X G) {e : Expr} {ex : Ex} (h : PE X e (tV G Wx P true ex)) (pt : plainT e = true) : PT X e (tT G Wx P ex) :=
  ptImp (pt_truth h (plain_t pt)) fun t H Q hq => tru_imp C hq
theorem bl_imp {ex : Ex} {t : L2.St} {H : Hp} {Q : Bool → Hp → Prop} (hbl : ∀ s vl s', evV P true ex s = some (.ok vl, s') → ∃ b, vl = .nw (.fz (.bl b))) (h : tT G Wx P ex t H Q) : tV G Wx P true ex t H fun x H1 => ∃ k, x = .bl k ∧ Q k H1 := by
  obtain ⟨W, s, r, s', hH, F, e, q⟩ := h
  unfold evT at e
  rcases M.bind_some e with ⟨vl, s1, e1, e2⟩ | ⟨c, p, e1, e2⟩
  · obtain ⟨b, eb⟩ := hbl _ _ _ e1
    subst eb
    cases e2
    refine ⟨W, s, _, s', hH, F, e1, fun W' v x F' hv hs => ?_⟩
    have hv : RZ G W'.fz (.bl b) v := hv
    cases hv
    exact ⟨b, rfl, q W' x F'⟩
  · subst e2
    exact ⟨W, s, _, s', hH, F, e1, q⟩
theorem guardX_out {b : Ex} {m : Md} {α : Type} {x : M α} {s s' : Stt} {v : α} (e : guardX b m x s = some (.ok v, s')) : ∃ s1 s2, x s1 = some (.ok v, s2) := guardX_in e
theorem cmp_bl {op : COp} : ∀ s vl s', evV P true (.cmp op ea eb) s = some (.ok vl, s') → ∃ b, vl = .nw (.fz (.bl b)) := fun s vl s' e => by
  unfold evV at e
  rcases M.bind_some e with ⟨va, s1, e1, e2⟩ | ⟨c, p, e1, e2⟩
  · obtain ⟨s2, s3, e3⟩ := guardX_out e2
    rcases M.bind_some e3 with ⟨vb, s4, e4, e5⟩ | ⟨c, p, e4, e5⟩
    · obtain ⟨c', e6, e7, _⟩ := cell_some e5
      obtain ⟨d, _, e8⟩ := Option.map_eq_some_iff.mp e6
      cases e7
      exact ⟨d, by rw [← e8]⟩
    · cases e5
  · cases e2
theorem t_cmp (C : Cxt X G) {op : COp} (ha : PE X a (tV G Wx P false ea)) (hb : PE X b (tV G Wx P false eb)) (hs : noSet b = true) : PT X (.Compare a [cOp op] [b] pos) (tT G Wx P (.cmp op ea eb)) :=
  ptImp (pt_cmpR (opCmp C op) (peE ha) (peE hb) (no_mark hs)) fun t H Q h => cmp_imp (bl_imp cmp_bl h)
theorem bl_some {m : M Bool} {s s' : Stt} {r : Ou Vl} (e : m.bl s = some (r, s')) : (∃ b, m s = some (.ok b, s') ∧ r = .ok (.nw (.fz (.bl b)))) ∨ ∃ c p, m s = some (.ex c p, s') ∧ r = .ex c p := by
  unfold M.bl at e
  rcases M.bind_some e with ⟨c, s1, e1, e2⟩ | ⟨c, p, e1, e2⟩
  · cases e2
    exact .inl ⟨c, e1, rfl⟩
  · exact .inr ⟨c, p, e1, e2⟩
/-! a test made of tests: m is what it does -/
theorem tT_bl {ex : Ex} {m : M Bool} {t : L2.St} {H : Hp} {Q : Bool → Hp → Prop} (hm : ∀ s, evV P true ex s = m.bl s) (h : tT G Wx P ex t H Q) : ∃ W s r s', W.H = H ∧ Fr G W s t ∧ m s = some (r, s') ∧ EndT G Wx W s' t Q r := by
  obtain ⟨W, s, r, s', hH, F, e, q⟩ := h
  unfold evT at e
  rcases M.bind_some e with ⟨vl, s1, e1, e2⟩ | ⟨c, p, e1, e2⟩
  · rw [hm] at e1
    rcases bl_some e1 with ⟨b, e3, e4⟩ | ⟨c, p, _, e4⟩
    · cases e4
      cases e2
      exact ⟨W, s, _, s', hH, F, e3, q⟩
    · cases e4
  · rw [hm] at e1
    rcases bl_some e1 with ⟨b, e3, e4⟩ | ⟨c', p', e3, e4⟩
    · cases e4
    · cases e4
      subst e2
      exact ⟨W, s, _, s', hH, F, e3, q⟩
theorem t_not (ha : PT X a (tT G Wx P ea)) : PT X (.UnaryOp .Not a pos) (tT G Wx P (.not ea)) := by
  refine ptImp (pt_not ha) fun t H Q h => ?_
  obtain ⟨W, s, r, s', hH, F, e, q⟩ := tT_bl (m := ((evV P true ea).bind asT).bind fun b => M.ok (!b)) (fun s => by rw [evV]) h
  rcases M.bind_some e with ⟨b, s1, e1, e2⟩ | ⟨c, p, e1, e2⟩
  · cases e2
    exact ⟨W, s, _, s', hH, F, e1, q⟩
  · subst e2
    exact ⟨W, s, _, s', hH, F, e1, q⟩
/-! all, one of some tests -/
def tTA (G : Gm) (Wx : WX) (P : Pg) (xs : List Ex) : TT := fun t H Q => ∃ W s r s', W.H = H ∧ Fr G W s t ∧ evTA P xs s = some (r, s') ∧ EndT G Wx W s' t Q r
def tTO (G : Gm) (Wx : WX) (P : Pg) (xs : List Ex) : TT := fun t H Q => ∃ W s r s', W.H = H ∧ Fr G W s t ∧ evTO P xs s = some (r, s') ∧ EndT G Wx W s' t Q r
theorem pwImp {e : Expr} {t t' : TT} (h : PW X e t) (i : ∀ σ H Q, t' σ H Q → t σ H Q) : PW X e t' := ⟨fun w pins s σ H Q I q => h.run w pins s σ H Q I (i _ _ _ q)⟩
theorem endT_trans {W W1 : Wd} {s' : Stt} {t : L2.St} {Q : Bool → Hp → Prop} {r : Ou Bool} (x : Evo false W W1) (tr : ∀ a r, W.g a = some r → ∃ o, W.H a = some o) (q : EndT G Wx W s' t Q r) : EndT G Wx W1 s' t Q r := by
  cases r with
  | ok b => exact fun W' x' F' => q W' (x.trans x' tr) F'
  | ex c p => exact fun W' dx x' F' hx => q W' dx (x.trans x' tr) F' hx
theorem t_and1 (ha : PT X a (tT G Wx P ea)) : PW X (.BoolOp .And [a] pos) (tTA G Wx P [ea]) := by
  refine pwImp (pw_and1 ha) fun t H Q ⟨W, s, r, s', hH, F, e, q⟩ => ?_
  unfold evTA at e
  rcases M.bind_some e with ⟨b, s1, e1, e2⟩ | ⟨c, p, e1, e2⟩
  · cases e2
    exact ⟨W, s, _, s', hH, F, e1, q⟩
  · subst e2
    exact ⟨W, s, _, s', hH, F, e1, q⟩
theorem t_and {e2 : Expr} {x2 : Ex} (ha : PT X a (tT G Wx P ea)) (hs : PW X (.BoolOp .And (e2 :: es) pos) (tTA G Wx P (x2 :: xs))) : PW X (.BoolOp .And (a :: e2 :: es) pos) (tTA G Wx P (ea :: x2 :: xs)) := by
  refine pwImp (pw_and ha hs) fun t H Q ⟨W, s, r, s', hH, F, e, q⟩ => ?_
  unfold evTA at e
  rcases M.bind_some e with ⟨b, s1, e1, e2⟩ | ⟨c, p, e1, e2⟩
  · refine ⟨W, s, _, s1, hH, F, e1, fun W1 x1 F1 => ?_⟩
    cases b with
    | true =>
      show if true = true then _ else _
      rw [if_pos rfl]
      exact ⟨W1, s1, r, s', rfl, F1, e2, endT_trans x1 F.rel.trk q⟩
    | false =>
      show if false = true then _ else _
      rw [if_neg (by decide)]
      cases e2
      exact q W1 x1 F1
  · subst e2
    exact ⟨W, s, _, s', hH, F, e1, q⟩
theorem t_or1 (ha : PT X a (tT G Wx P ea)) : PW X (.BoolOp .Or [a] pos) (tTO G Wx P [ea]) := by
  refine pwImp (pw_or1 ha) fun t H Q ⟨W, s, r, s', hH, F, e, q⟩ => ?_
  unfold evTO at e
  rcases M.bind_some e with ⟨b, s1, e1, e2⟩ | ⟨c, p, e1, e2⟩
  · cases e2
    exact ⟨W, s, _, s', hH, F, e1, q⟩
  · subst e2
    exact ⟨W, s, _, s', hH, F, e1, q⟩
theorem t_or {e2 : Expr} {x2 : Ex} (ha : PT X a (tT G Wx P ea)) (hs : PW X (.BoolOp .Or (e2 :: es) pos) (tTO G Wx P (x2 :: xs))) : PW X (.BoolOp .Or (a :: e2 :: es) pos) (tTO G Wx P (ea :: x2 :: xs)) := by
  refine pwImp (pw_or ha hs) fun t H Q ⟨W, s, r, s', hH, F, e, q⟩ => ?_
  unfold evTO at e
  rcases M.bind_some e with ⟨b, s1, e1, e2⟩ | ⟨c, p, e1, e2⟩
  · refine ⟨W, s, _, s1, hH, F, e1, fun W1 x1 F1 => ?_⟩
    cases b with
    | true =>
      show if true = true then _ else _
      rw [if_pos rfl]
      cases e2
      exact q W1 x1 F1
    | false =>
      show if false = true then _ else _
      rw [if_neg (by decide)]
      exact ⟨W1, s1, r, s', rfl, F1, e2, endT_trans x1 F.rel.trk q⟩
  · subst e2
    exact ⟨W, s, _, s', hH, F, e1, q⟩
theorem t_all (hs : PW X (.BoolOp .And es pos) (tTA G Wx P xs)) : PT X (.BoolOp .And es pos) (tT G Wx P (.and xs)) :=
  ptImp hs.pt fun t H Q h => tT_bl (m := evTA P xs) (fun s => by rw [evV]; rfl) h
theorem t_one (hs : PW X (.BoolOp .Or es pos) (tTO G Wx P xs)) : PT X (.BoolOp .Or es pos) (tT G Wx P (.or xs)) :=
  ptImp hs.pt fun t H Q h => tT_bl (m := evTO P xs) (fun s => by rw [evV]; rfl) h

/-! ### not, and, or as values -/
theorem v_not (C : Cxt X G) (ha : PE X a (tV G Wx P true ea)) (ht : ∀ s, evV P true ea s = evV P false ea s) : PE X (.UnaryOp .Not a pos) (tV G Wx P false (.not ea)) := by
  refine peImp (pe_notT ha) fun t H Q ⟨W, s, r, s', hH, F, e, q⟩ => ?_
  subst hH
  unfold evV at e
  have e : ((evT P ea).bind fun b => M.ok (!b)).bl s = some (r, s') := by
    have : (evV P false ea).bind asT = evT P ea := by
      unfold evT
      funext s
      unfold M.bind
      rw [ht]
    rw [← this]; exact e
  have h2 : tT G Wx P ea t W.H fun k H1 => Q (.bl (!k)) H1 := by
    rcases bl_some e with ⟨b, e3, e4⟩ | ⟨c, p, e3, e4⟩
    · rcases M.bind_some e3 with ⟨b', s1, e5, e6⟩ | ⟨c, p, e5, e6⟩
      · cases e6
        subst e4
        exact ⟨W, s, _, s', rfl, F, e5, fun W1 x1 F1 => q W1 _ x1 F1 (.bl _) fun z => by cases z⟩
      · cases e6
    · rcases M.bind_some e3 with ⟨b', s1, e5, e6⟩ | ⟨c, p, e5, e6⟩
      · cases e6
      · cases e6
        subst e4
        exact ⟨W, s, _, s', rfl, F, e5, q⟩
  exact tru_imp C h2
def tAV (G : Gm) (Wx : WX) (P : Pg) (xs : List Ex) : TE := fun t H Q => ∃ W s r s', W.H = H ∧ Fr G W s t ∧ evAnd P xs s = some (r, s') ∧ EndR G Wx W s' t Q r
def tOV (G : Gm) (Wx : WX) (P : Pg) (xs : List Ex) : TE := fun t H Q => ∃ W s r s', W.H = H ∧ Fr G W s t ∧ evOr P xs s = some (r, s') ∧ EndR G Wx W s' t Q r
theorem endR_trans {W W1 : Wd} {s' : Stt} {t : L2.St} {Q : VK} {r : Ou Cell} (x : Evo false W W1) (tr : ∀ a r, W.g a = some r → ∃ o, W.H a = some o) (q : EndR G Wx W s' t Q r) : EndR G Wx W1 s' t Q r := by
  cases r with
  | ok c =>
    intro W' v x' F' hv
    refine q W' v (x.trans x' tr) F' ?_
    cases c with
    | own d =>
      obtain ⟨a, e, g, l, h0⟩ := hv
      exact ⟨a, e, g, l, x.hnone h0⟩
    | _ => exact hv
  | ex c p => exact fun W' dx x' F' hx => q W' dx (x.trans x' tr) F' hx
theorem v_and1 (ha : PE X a (tV G Wx P false ea)) : PE X (.BoolOp .And [a] pos) (tAV G Wx P [ea]) :=
  peImp (pe_one (peR ha)) fun t H Q ⟨W, s, r, s', hH, F, e, q⟩ => ⟨W, s, r, s', hH, F, by unfold evAnd at e; exact e, q⟩
theorem v_or1 (ha : PE X a (tV G Wx P false ea)) : PE X (.BoolOp .Or [a] pos) (tOV G Wx P [ea]) :=
  peImp (pe_one (peR ha)) fun t H Q ⟨W, s, r, s', hH, F, e, q⟩ => ⟨W, s, r, s', hH, F, by unfold evOr at e; exact e, q⟩
theorem v_and {e2 : Expr} {x2 : Ex} (ha : PE X a (tV G Wx P false ea)) (hs : PE X (.BoolOp .And (e2 :: es) pos) (tAV G Wx P (x2 :: xs))) : PE X (.BoolOp .And (a :: e2 :: es) pos) (tAV G Wx P (ea :: x2 :: xs)) := by
  refine peImp (pe_and (peE ha) hs) fun t H Q ⟨W, s, r, s', hH, F, e, q⟩ => ?_
  unfold evAnd at e
  rcases M.bind_some e with ⟨va, s1, e1, e2⟩ | ⟨c, p, e1, e2⟩
  · refine ⟨W, s, _, s1, hH, F, e1, fun W1 x x1 F1 p1 _ => ?_⟩
    have tz := p1.tz
    obtain ⟨m, d⟩ := va
    cases d with
    | bl b =>
      cases b with
      | true =>
        refine ⟨true, tz.bl, ?_⟩
        rw [if_pos rfl]
        exact ⟨W1, s1, r, s', rfl, F1, e2, endR_trans x1 F.rel.trk q⟩
      | false =>
        refine ⟨false, tz.bl, ?_⟩
        rw [if_neg (by decide)]
        cases e2
        exact q W1 _ x1 F1 (.bl false)
    | _ => cases e2
  · subst e2
    exact ⟨W, s, _, s', hH, F, e1, q⟩
theorem v_or {e2 : Expr} {x2 : Ex} (ha : PE X a (tV G Wx P false ea)) (hs : PE X (.BoolOp .Or (e2 :: es) pos) (tOV G Wx P (x2 :: xs))) : PE X (.BoolOp .Or (a :: e2 :: es) pos) (tOV G Wx P (ea :: x2 :: xs)) := by
  refine peImp (pe_or (peE ha) hs) fun t H Q ⟨W, s, r, s', hH, F, e, q⟩ => ?_
  unfold evOr at e
  rcases M.bind_some e with ⟨va, s1, e1, e2⟩ | ⟨c, p, e1, e2⟩
  · refine ⟨W, s, _, s1, hH, F, e1, fun W1 x x1 F1 p1 _ => ?_⟩
    have tz := p1.tz
    obtain ⟨m, d⟩ := va
    cases d with
    | bl b =>
      cases b with
      | true =>
        refine ⟨true, tz.bl, ?_⟩
        rw [if_pos rfl]
        cases e2
        exact q W1 _ x1 F1 (.bl true)
      | false =>
        refine ⟨false, tz.bl, ?_⟩
        rw [if_neg (by decide)]
        exact ⟨W1, s1, r, s', rfl, F1, e2, endR_trans x1 F.rel.trk q⟩
    | _ => cases e2
  · subst e2
    exact ⟨W, s, _, s', hH, F, e1, q⟩
theorem tV_nw {ex : Ex} {m : M Cell} {t : L2.St} {H : Hp} {Q : VK} {b : Bool} (hm : ∀ s, evV P b ex s = m.nw s) (hs : simple ex = false) (h : tV G Wx P b ex t H Q) : ∃ W s r s', W.H = H ∧ Fr G W s t ∧ m s = some (r, s') ∧ EndR G Wx W s' t Q r := by
  obtain ⟨W, s, r, s', hH, F, e, q⟩ := h
  rw [hm] at e
  rw [hs] at q
  rcases nw_some e with ⟨c, e1, e2⟩ | ⟨c, p, e1, e2⟩
  · subst e2
    exact ⟨W, s, _, s', hH, F, e1, fun W' v x F' hv => q W' v x F' hv fun z => by cases z⟩
  · subst e2
    exact ⟨W, s, _, s', hH, F, e1, q⟩
theorem v_all (hs : PE X (.BoolOp .And es pos) (tAV G Wx P xs)) : PE X (.BoolOp .And es pos) (tV G Wx P false (.and xs)) :=
  peImp hs fun t H Q h => tV_nw (m := evAnd P xs) (fun s => by rw [evV]; rfl) rfl h
theorem v_any (hs : PE X (.BoolOp .Or es pos) (tOV G Wx P xs)) : PE X (.BoolOp .Or es pos) (tV G Wx P false (.or xs)) :=
  peImp hs fun t H Q h => tV_nw (m := evOr P xs) (fun s => by rw [evV]; rfl) rfl h
theorem v_keep (ha : PE X a (tV G Wx P false ea)) : PE X a (tV G Wx P f (.keep ea)) :=
  peImp (peR ha) fun t H Q h => tV_nw (m := evR P ea) (fun s => by rw [evV]; rfl) rfl h
theorem v_ite (hc : PT X c (tT G Wx P ec)) (ha : PE X a (tV G Wx P false ea)) (hb : PE X b (tV G Wx P false eb)) : PE X (.IfExp c a b pos) (tV G Wx P f (.ite ec ea eb)) := by
  refine peImp (pe_ifExp hc (peR ha) (peR hb)) fun t H Q ⟨W, s, r, s', hH, F, e, q⟩ => ?_
  unfold evV at e
  have back : ∀ {W1 : Wd} {m : M Cell} {s1 : Stt}, m.nw s1 = some (r, s') → Evo false W W1 → ∃ r0, m s1 = some (r0, s') ∧ EndR G Wx W1 s' t Q r0 := fun {W1 m s1} e2 x1 => by
    rcases nw_some e2 with ⟨c, e1, e2⟩ | ⟨c, p, e1, e2⟩
    · subst e2
      exact ⟨_, e1, endR_trans (Q := Q) (r := .ok c) x1 F.rel.trk fun W' v x F' hv => q W' v x F' hv fun z => by cases z⟩
    · subst e2
      exact ⟨_, e1, endR_trans (Q := Q) (r := .ex c p) x1 F.rel.trk q⟩
  rcases M.bind_some e with ⟨d, s1, e1, e2⟩ | ⟨c, p, e1, e2⟩
  · refine ⟨W, s, _, s1, hH, F, e1, fun W1 x1 F1 => ?_⟩
    cases d with
    | true =>
      show if true = true then _ else _
      rw [if_pos rfl]
      obtain ⟨r0, e3, q3⟩ := back (m := evR P ea) e2 x1
      exact ⟨W1, s1, r0, s', rfl, F1, e3, q3⟩
    | false =>
      show if false = true then _ else _
      rw [if_neg (by decide)]
      obtain ⟨r0, e3, q3⟩ := back (m := evR P eb) e2 x1
      exact ⟨W1, s1, r0, s', rfl, F1, e3, q3⟩
  · subst e2
    exact ⟨W, s, _, s', hH, F, e1, q⟩
end
end Lk

namespace Lk
open PySem L2 PyProof.Rows

/-! ### built-in functions -/
section
variable {G : Gm} {W W' : Wd} {s : Stt} {t : L2.St} {x v : V} {d : D} {p q : Bool}
theorem TZ.up (h : TZ G W p d v) (i : p = true → q = true) : TZ G W q d v := by
  cases p with
  | true =>
    have := i rfl
    subst this; exact h
  | false => exact h.l (q := q)
theorem ArgT.tz {z : Md × D} (h : ArgT G W z v) : TZ G W (isBp z) z.2 v := by
  obtain ⟨m, d⟩ := z
  cases m with
  | fz => exact .inl h
  | bp => exact PlR.tz (t := []) (m := .bp) h
  | sl i => obtain ⟨a, e, l, _⟩ := h; exact .inr ⟨a, e, l.lp⟩
  | fl l k => obtain ⟨a, e, l, _⟩ := h; exact .inr ⟨a, e, l.lp⟩
theorem args_tz : ∀ {qs : List (Md × D)} {vs : List V} (i : ∀ z ∈ qs, isBp z = true → q = true), Paired (ArgT G W) qs vs → Paired (TZ G W q) (qs.map (·.2)) vs
  | _, _, _, .nil => .nil
  | _, _, i, .cons r t => .cons ((ArgT.tz r).up (i _ (List.mem_cons_self ..))) (args_tz (fun z hz => i z (List.mem_cons_of_mem _ hz)) t)
end
def rBi (G : Gm) (f : BI) : List V → Hp → VK → Prop := fun vs H Q => ∃ W p ds d, W.H = H ∧ Paired (TZ G W p) ds vs ∧ biD f ds = some d ∧ Fin G W p d Q
def biV : BI → Value
  | .len => .builtin "len" | .list => .type "list" | .tuple => .type "tuple" | .int => .type "int" | .sum => .builtin "sum" | .max => .builtin "max" | .min => .builtin "min" | .all => .builtin "all" | .any => .builtin "any" | .sorted => .builtin "sorted" | .sset => .none | .lset => .none
section
variable {X : Cx} {G : Gm} {Wx : WX} {P : Pg} {a b c o : Expr} {ea eb ec eo : Ex} {pos apos p : Pos} {f : Bool} {es : List Expr} {xs : List Ex}
theorem mem_max : ∀ {ns : List Int} {m : Int}, maxI ns = some m → m ∈ ns ∧ ∀ y ∈ ns, y ≤ m
  | [], m, e => by cases e
  | n :: ns, m, e => by
    unfold maxI at e
    cases e
    have key : ∀ (l : List Int) (z : Int), (l.foldl max z ∈ z :: l) ∧ ∀ y ∈ z :: l, y ≤ l.foldl max z := fun l => by
      induction l with
      | nil => intro z; simp
      | cons w l ih =>
        intro z
        obtain ⟨h1, h2⟩ := ih (max z w)
        refine ⟨?_, fun y hy => ?_⟩
        · rw [List.foldl_cons]
          rcases List.mem_cons.mp h1 with h | h
          · rw [h]
            by_cases hz : z ≤ w
            · rw [Int.max_eq_right hz]; simp
            · rw [Int.max_eq_left (by omega)]; simp
          · simp [h]
        · rw [List.foldl_cons]
          have hm := h2 (max z w) (List.mem_cons_self ..)
          rcases List.mem_cons.mp hy with rfl | hy
          · exact Int.le_trans (Int.le_max_left ..) hm
          · rcases List.mem_cons.mp hy with rfl | hy
            · exact Int.le_trans (Int.le_max_right ..) hm
            · exact h2 y (List.mem_cons_of_mem _ hy)
    exact key ns n
theorem mem_min : ∀ {ns : List Int} {m : Int}, minI ns = some m → m ∈ ns ∧ ∀ y ∈ ns, m ≤ y
  | [], m, e => by cases e
  | n :: ns, m, e => by
    unfold minI at e
    cases e
    have key : ∀ (l : List Int) (z : Int), (l.foldl min z ∈ z :: l) ∧ ∀ y ∈ z :: l, l.foldl min z ≤ y := fun l => by
      induction l with
      | nil => intro z; simp
      | cons w l ih =>
        intro z
        obtain ⟨h1, h2⟩ := ih (min z w)
        refine ⟨?_, fun y hy => ?_⟩
        · rw [List.foldl_cons]
          rcases List.mem_cons.mp h1 with h | h
          · rw [h]
            by_cases hz : z ≤ w
            · rw [Int.min_eq_left hz]; simp
            · rw [Int.min_eq_right (by omega)]; simp
          · simp [h]
        · rw [List.foldl_cons]
          have hm := h2 (min z w) (List.mem_cons_self ..)
          rcases List.mem_cons.mp hy with rfl | hy
          · exact Int.le_trans hm (Int.min_le_left ..)
          · rcases List.mem_cons.mp hy with rfl | hy
            · exact Int.le_trans hm (Int.min_le_right ..)
            · exact h2 y (List.mem_cons_of_mem _ hy)
    exact key ns n
theorem biLen (C : Cxt X G) : CallR X (.builtin "len") (rBi G .len) := by
  intro pins s σ H vs us Q I r ⟨W, p, ds, d, hH, pv, e, k⟩
  subst hH
  cases pv with
  | nil => cases e
  | cons r1 r2 =>
    rename_i d1 v1 ds vs
    cases r2 with
    | cons => cases d1 <;> cases e
    | nil =>
      have fin : ∀ n : Nat, biD .len [d1] = some (.int n) → d = .int n := fun n h => by rw [h] at e; exact (Option.some.inj e).symm
      cases d1 with
      | lst xs =>
        obtain ⟨a, ws, rfl, h1, r⟩ := r1.list
        rw [fin xs.length rfl] at k
        refine call_len_seq pins s σ W.H _ _ Q I ‹_› ⟨a, ws, rfl, .inl (C.K ▸ h1), ?_⟩
        rw [← r.length]
        exact k W _ .refl new_int fun _ => rfl
      | tup xs =>
        obtain ⟨a, ws, rfl, h1, r⟩ := r1.tuple
        rw [fin xs.length rfl] at k
        refine call_len_seq pins s σ W.H _ _ Q I ‹_› ⟨a, ws, rfl, .inr (C.K ▸ h1), ?_⟩
        rw [← r.length]
        exact k W _ .refl new_int fun _ => rfl
      | str z =>
        simp only [biD] at e
        split at e
        · rename_i hz
          cases e
          rw [r1.str] at r
          exact call_len_str pins s σ W.H _ _ Q I r ⟨z, rfl, line_size hz, k W _ .refl new_int fun _ => rfl⟩
        · cases e
      | _ => cases e
theorem biList (C : Cxt X G) : CallR X (.type "list") (rBi G .list) := by
  intro pins s σ H vs us Q I r ⟨W, p, ds, d, hH, pv, e, k⟩
  subst hH
  cases pv with
  | nil => cases e
  | cons r1 r2 =>
    rename_i d1 v1 ds vs
    cases r2 with
    | cons => cases d1 <;> cases e
    | nil =>
      cases d1 with
      | lst xs =>
        cases e
        obtain ⟨a, ws, rfl, h1, r⟩ := r1.list
        exact call_list_of pins s σ W.H _ _ Q I ‹_› ⟨a, ws, rfl, .inl (C.K ▸ h1), fun l hl => k (W.nw l _) _ (.nw hl) (new_lst hl r) fun z => by cases z⟩
      | tup xs =>
        cases e
        obtain ⟨a, ws, rfl, h1, r⟩ := r1.tuple
        exact call_list_of pins s σ W.H _ _ Q I ‹_› ⟨a, ws, rfl, .inr (C.K ▸ h1), fun l hl => k (W.nw l _) _ (.nw hl) (new_lst hl r) fun z => by cases z⟩
      | _ => cases e
theorem biTuple (C : Cxt X G) : CallR X (.type "tuple") (rBi G .tuple) := by
  intro pins s σ H vs us Q I r ⟨W, p, ds, d, hH, pv, e, k⟩
  subst hH
  cases pv with
  | nil => cases e
  | cons r1 r2 =>
    rename_i d1 v1 ds vs
    cases r2 with
    | cons => cases d1 <;> cases e
    | nil =>
      cases d1 with
      | lst xs =>
        cases e
        obtain ⟨a, ws, rfl, h1, r⟩ := r1.list
        exact call_tuple_of pins s σ W.H _ _ Q I ‹_› ⟨a, ws, rfl, .inl ⟨C.K ▸ h1, fun l hl => k (W.nw l _) _ (.nw hl) (new_tup hl r) fun z => by cases z⟩⟩
      | tup xs =>
        cases e
        obtain ⟨a, ws, ea, h1, r⟩ := r1.tuple
        subst ea
        exact call_tuple_of pins s σ W.H _ _ Q I ‹_› ⟨a, ws, rfl, .inr ⟨C.K ▸ h1, k W _ .refl (new_same r1) fun _ => rfl⟩⟩
      | _ => cases e
theorem biInt : CallR X (.type "int") (rBi G .int) := by
  intro pins s σ H vs us Q I r ⟨W, p, ds, d, hH, pv, e, k⟩
  subst hH
  cases pv with
  | nil => cases e
  | cons r1 r2 =>
    rename_i d1 v1 ds vs
    cases r2 with
    | cons => cases d1 <;> cases e
    | nil =>
      cases d1 with
      | int i =>
        cases e
        rw [r1.int] at r
        exact call_int1 pins s σ W.H _ _ Q I r (.inl ⟨i, rfl, k W _ .refl new_int fun _ => rfl⟩)
      | bl i =>
        cases e
        rw [r1.bl] at r
        exact call_int1 pins s σ W.H _ _ Q I r (.inr ⟨i, rfl, k W _ .refl new_int fun _ => rfl⟩)
      | _ => cases e
theorem biSum (C : Cxt X G) (hc : X.calm = true) : CallR X (.builtin "sum") (rBi G .sum) := by
  intro pins s σ H vs us Q I r ⟨W, p, ds, d, hH, pv, e, k⟩
  subst hH
  cases pv with
  | nil => cases e
  | cons r1 r2 =>
    rename_i d1 v1 ds vs
    cases r2 with
    | cons => cases d1 <;> cases e
    | nil =>
      cases d1 with
      | lst xs =>
        obtain ⟨ns, h2, h3⟩ := Option.map_eq_some_iff.mp (show (intsOf xs).map _ = some d from e)
        subst h3
        obtain ⟨a, ws, rfl, h1, r⟩ := r1.list
        exact cr_sum hc pins s σ W.H _ _ Q I ‹_› ⟨a, ns, rfl, by rw [← r.ints h2]; exact C.K ▸ h1, k W _ .refl new_int fun _ => rfl⟩
      | _ => cases e
theorem ints_ne {ns : List Int} {m : Int} (h : m ∈ ns) : 0 < ns.length := by
  cases ns with
  | nil => cases h
  | cons => simp
theorem biMax (C : Cxt X G) (hc : X.calm = true) : CallR X (.builtin "max") (rBi G .max) := by
  intro pins s σ H vs us Q I r ⟨W, p, ds, d, hH, pv, e, k⟩
  subst hH
  cases pv with
  | nil => cases e
  | cons r1 r2 =>
    rename_i d1 v1 ds vs
    cases r2 with
    | cons r2 r3 =>
      rename_i d2 v2 ds vs
      cases r3 with
      | cons => cases d1 <;> (try cases e) <;> cases d2 <;> cases e
      | nil =>
        cases d1 with
        | int i =>
          cases d2 with
          | int j =>
            cases e
            rw [r1.int, r2.int] at r
            exact call_max2 hc pins s σ W.H _ _ Q I r ⟨i, j, rfl, k W _ .refl new_int fun _ => rfl⟩
          | _ => cases e
        | _ => cases d2 <;> cases e
    | nil =>
      cases d1 with
      | lst xs =>
        obtain ⟨ns, h2, h3⟩ := Option.bind_eq_some_iff.mp (show (intsOf xs).bind (fun ns => (maxI ns).map .int) = some d from e)
        obtain ⟨m, h4, h5⟩ := Option.map_eq_some_iff.mp h3
        subst h5
        obtain ⟨a, ws, rfl, h1, r⟩ := r1.list
        obtain ⟨hm, hle⟩ := mem_max h4
        refine cr_max hc pins s σ W.H _ _ Q I ‹_› ⟨a, ns, rfl, by rw [← r.ints h2]; exact C.K ▸ h1, ints_ne hm, fun m' hm' hle' => ?_⟩
        have : m' = m := by have := hle m' hm'; have := hle' m hm; omega
        subst this
        exact k W _ .refl new_int fun _ => rfl
      | _ => cases e
theorem biMin (C : Cxt X G) (hc : X.calm = true) : CallR X (.builtin "min") (rBi G .min) := by
  intro pins s σ H vs us Q I r ⟨W, p, ds, d, hH, pv, e, k⟩
  subst hH
  cases pv with
  | nil => cases e
  | cons r1 r2 =>
    rename_i d1 v1 ds vs
    cases r2 with
    | cons r2 r3 =>
      rename_i d2 v2 ds vs
      cases r3 with
      | cons => cases d1 <;> (try cases e) <;> cases d2 <;> cases e
      | nil =>
        cases d1 with
        | int i =>
          cases d2 with
          | int j =>
            cases e
            rw [r1.int, r2.int] at r
            exact call_min2 hc pins s σ W.H _ _ Q I r ⟨i, j, rfl, k W _ .refl new_int fun _ => rfl⟩
          | _ => cases e
        | _ => cases d2 <;> cases e
    | nil =>
      cases d1 with
      | lst xs =>
        obtain ⟨ns, h2, h3⟩ := Option.bind_eq_some_iff.mp (show (intsOf xs).bind (fun ns => (minI ns).map .int) = some d from e)
        obtain ⟨m, h4, h5⟩ := Option.map_eq_some_iff.mp h3
        subst h5
        obtain ⟨a, ws, rfl, h1, r⟩ := r1.list
        obtain ⟨hm, hle⟩ := mem_min h4
        refine cr_min hc pins s σ W.H _ _ Q I ‹_› ⟨a, ns, rfl, by rw [← r.ints h2]; exact C.K ▸ h1, ints_ne hm, fun m' hm' hle' => ?_⟩
        have : m' = m := by have := hle m' hm'; have := hle' m hm; omega
        subst this
        exact k W _ .refl new_int fun _ => rfl
      | _ => cases e
theorem biAll (C : Cxt X G) (hc : X.calm = true) : CallR X (.builtin "all") (rBi G .all) := by
  intro pins s σ H vs us Q I r ⟨W, p, ds, d, hH, pv, e, k⟩
  subst hH
  cases pv with
  | nil => cases e
  | cons r1 r2 =>
    rename_i d1 v1 ds vs
    cases r2 with
    | cons => cases d1 <;> cases e
    | nil =>
      cases d1 with
      | lst xs =>
        obtain ⟨bs, h2, h3⟩ := Option.map_eq_some_iff.mp (show (blsOf xs).map _ = some d from e)
        subst h3
        obtain ⟨a, ws, rfl, h1, r⟩ := r1.list
        exact cr_all hc pins s σ W.H _ _ Q I ‹_› ⟨a, bs, rfl, by rw [← r.bls h2]; exact C.K ▸ h1, k W _ .refl new_bl fun z => by cases z⟩
      | _ => cases e
theorem biAny (C : Cxt X G) (hc : X.calm = true) : CallR X (.builtin "any") (rBi G .any) := by
  intro pins s σ H vs us Q I r ⟨W, p, ds, d, hH, pv, e, k⟩
  subst hH
  cases pv with
  | nil => cases e
  | cons r1 r2 =>
    rename_i d1 v1 ds vs
    cases r2 with
    | cons => cases d1 <;> cases e
    | nil =>
      cases d1 with
      | lst xs =>
        obtain ⟨bs, h2, h3⟩ := Option.map_eq_some_iff.mp (show (blsOf xs).map _ = some d from e)
        subst h3
        obtain ⟨a, ws, rfl, h1, r⟩ := r1.list
        exact cr_any hc pins s σ W.H _ _ Q I ‹_› ⟨a, bs, rfl, by rw [← r.bls h2]; exact C.K ▸ h1, k W _ .refl new_bl fun z => by cases z⟩
      | _ => cases e
theorem biSorted (C : Cxt X G) : CallR X (.builtin "sorted") (rBi G .sorted) := by
  intro pins s σ H vs us Q I r ⟨W, p, ds, d, hH, pv, e, k⟩
  subst hH
  cases pv with
  | nil => cases e
  | cons r1 r2 =>
    rename_i d1 v1 ds vs
    cases r2 with
    | cons => cases d1 <;> cases e
    | nil =>
      cases d1 with
      | lst xs =>
        obtain ⟨ns, h2, h3⟩ := Option.map_eq_some_iff.mp (show (intsOf xs).map _ = some d from e)
        subst h3
        obtain ⟨a, ws, rfl, h1, r⟩ := r1.list
        refine cr_sortedI pins s σ W.H _ _ Q I ‹_› ⟨a, ns, rfl, by rw [← r.ints h2]; exact C.K ▸ h1, fun ns' q pm ri hq => ?_⟩
        have e1 : ns' = ns.mergeSort (· ≤ ·) := by
          have t1 : ns'.Pairwise (· ≤ ·) := ri
          have t2 : (ns.mergeSort (· ≤ ·)).Pairwise (fun a b => decide (a ≤ b) = true) := List.pairwise_mergeSort (fun a b c h1 h2 => by simp at *; omega) (fun a b => by simp; omega) ns
          have t2 : (ns.mergeSort (· ≤ ·)).Pairwise (· ≤ ·) := t2.imp fun h => of_decide_eq_true h
          exact (pm.trans (List.mergeSort_perm ns _).symm).eq_of_pairwise (fun a b _ _ h1 h2 => by omega) t1 t2
        subst e1
        refine k (W.nw q _) _ (.nw hq) ?_ fun z => by cases z
        have := new_lst (G := G) (W := W) (p := p) (ds := (ns.mergeSort (· ≤ ·)).map D.int) hq (rzs_ints (ns.mergeSort (· ≤ ·)))
        exact this
      | _ => cases e
where
  rzs_ints {U : Vw} : ∀ ns : List Int, RZs G U (ns.map D.int) (ns.map V.int)
    | [] => .nil
    | n :: ns => .cons (.int n) (rzs_ints ns)
def calmBI : BI → Bool
  | .sum => true | .max => true | .min => true | .all => true | .any => true | .sset => true | .lset => true
  | _ => false
theorem callBi (C : Cxt X G) : ∀ f : BI, plainBI f = true → (calmBI f = true → X.calm = true) → CallR X (biV f) (rBi G f)
  | .len, _, _ => biLen C
  | .list, _, _ => biList C
  | .tuple, _, _ => biTuple C
  | .int, _, _ => biInt
  | .sum, _, h => biSum C (h rfl)
  | .max, _, h => biMax C (h rfl)
  | .min, _, h => biMin C (h rfl)
  | .all, _, h => biAll C (h rfl)
  | .any, _, h => biAny C (h rfl)
  | .sorted, _, _ => biSorted C
  | .sset, h, _ => by cases h
  | .lset, h, _ => by cases h

theorem of_some {α : Type} {o : Option α} {s s' : Stt} {r : Ou α} (e : M.of o s = some (r, s')) : ∃ v, o = some v ∧ r = .ok v ∧ s' = s := by
  unfold M.of at e
  cases o with
  | none => cases e
  | some v => cases e; exact ⟨v, rfl, rfl, rfl⟩
/-! what is behind the arguments' end: an answer by their data -/
theorem fin_end {W Wn : Wd} {s' sn : Stt} {t : L2.St} {Q : VK} {c : Cell} (Fn : Fr G Wn sn t) (h0 : ∀ a, Wn.H a = none → W.H a = none) (bk : ∀ W4, Evo false Wn W4 → Fr G W4 sn t → ∃ W3, Unl G W W4 W3 ∧ Fr G W3 s' t)
    (tr : ∀ a r, W.g a = some r → ∃ o, W.H a = some o) (q : EndV G Wx false W s' t Q (.ok (.nw c))) : FinC G false Wn c Q := fun W4 v g n _ => by
  obtain ⟨W3, u, F3⟩ := bk W4 g.evo (g.fr Fn)
  obtain ⟨W5, h5, x5, F5, c5, _⟩ := pre_fin (W2 := Wn) u.evo tr u.H u.fz u.bp (fun a ha => ⟨u.free a (by rw [g.g]; exact Fn.rel.free ha), h0 a ha⟩) F3 n
  rw [← h5]
  exact q W5 v x5 F5 c5 fun z => by cases z
theorem bi_imp {g : BI} {t : L2.St} {H : Hp} {Q : VK} (h : tV G Wx P f (.bi g xs) t H Q) : tAs G Wx P xs t H fun vs H1 => rBi G g vs H1 Q := by
  obtain ⟨W, s, r, s', hH, F, e, q⟩ := h
  subst hH
  unfold evV at e
  have noex : ∀ c p, evA P xs (fun vs => M.of ((biD g (vs.map (·.2))).map (cellNew (vs.any isBp)))) s = some (.ex c p, s') → r = .ex c p → ExQ G Wx W s' t c p := fun c p _ er => by subst er; exact q
  rcases nw_some e with ⟨c, e1, e2⟩ | ⟨c, p, e1, e2⟩
  · subst e2
    refine ⟨W, s, _, s', _, rfl, F, e1, fun c p er => (by cases er), fun Wn sn sn' vs vals pr Fn pv ek bk => ?_⟩
    obtain ⟨c', h1, h2, h3⟩ := of_some ek
    cases h2
    subst h3
    obtain ⟨d, h4, h5⟩ := Option.map_eq_some_iff.mp h1
    subst h5
    refine ⟨Wn, vs.any isBp, _, d, rfl, args_tz (fun z hz hb => List.any_eq_true.mpr ⟨z, hz, hb⟩) pv, h4, Fin.of (fin_end Fn pr.2 bk F.rel.trk q) fun z => by cases z⟩
  · refine ⟨W, s, _, s', _, rfl, F, e1, fun c' p' er => ?_, fun Wn sn sn' vs vals pr Fn pv ek bk => ?_⟩
    · cases er
      subst e2; exact q
    · obtain ⟨_, _, h2, _⟩ := of_some ek
      cases h2
theorem v_bi {g : BI} {id : String} {n : Str} (C : Cxt X G) (hp : plainBI g = true) (hc : calmBI g = true → X.calm = true) (hg : Gl X n) (hm : X.mg n = none) (hv : bootBuiltins n = some (biV g)) (hs : PA X (a :: es) (tAs G Wx P xs)) (ns : noStar a = true) (hl : es.all noStar = true) (hn : n ≠ "__name__") (hdb : (n == ("__debug__" : Str)) = false) :
    PE X (.Call (.Name n p) (a :: es) [] pos) (tV G Wx P f (.bi g xs)) := by
  have cb := callBi C g hp hc
  cases g <;> first
    | (cases hp; done)
    | exact peImp (pe_callB cb hg hm hv hs hn hdb (star_cons ns) (star_none hl)) fun t H Q h => bi_imp h
    | exact peImp (pe_callTy cb hg hm hv hs hn hdb (star_cons ns) (star_none hl)) fun t H Q h => bi_imp h
end
end Lk

namespace Lk
open PySem L2 PyProof.Rows

/-! ### what is walked -/
section
variable {G : Gm} {W W' : Wd} {s : Stt} {t : L2.St}
/-! J goes through the items, as long as Y holds -/
structure WalkR (G : Gm) (J : L2.It) (pb : Bool) (items : List D) (Y : Wd → Prop) : Prop where
  stop : ∀ W (i : Nat), Y W → items.length ≤ i → J.stop i W.H
  go : ∀ W (i : Nat), Y W → i < items.length → J.go i W.H
  yld : ∀ W (i : Nat) x H' d, Y W → items[i]? = some d → J.yld i W.H x H' → ∃ W', W'.H = H' ∧ Grow W W' ∧ RZ G (W'.vw pb) d x
def SrcY (G : Gm) (pb : Bool) (ds : List D) (vs : List V) : Wd → Prop := fun W => Paired (TZ G W pb) ds vs
theorem rngD_get {a : Int} {n i : Nat} {d : D} (h : (rngD a n)[i]? = some d) : d = .int (a + i) := by
  unfold rngD at h
  rw [List.getElem?_map] at h
  obtain ⟨k, h1, h2⟩ := Option.map_eq_some_iff.mp h
  obtain ⟨h3, h4⟩ := List.getElem?_eq_some_iff.mp h1
  simp at h4
  subst h4
  exact h2.symm
theorem walk_lst {K : PySem.W.Frag} {pb : Bool} {ds : List D} {a : Addr} (hK : K = G.K) : WalkR G (Itl K a) pb ds (SrcY G pb [.lst ds] [.ref a]) := by
  subst hK
  have get : ∀ {W}, SrcY G pb [.lst ds] [.ref a] W → ∃ vs, SqL G.K W.H a vs ∧ RZs G (W.vw pb) ds vs := fun {W} h => by
    cases h with
    | cons r _ =>
      obtain ⟨b, vs, e, h1, h2⟩ := r.list
      cases e
      exact ⟨vs, h1, h2⟩
  refine ⟨fun W i h hi => ?_, fun W i h hi => ?_, fun W i x H' d h hd y => ?_⟩
  · obtain ⟨vs, h1, h2⟩ := get h
    exact ⟨vs, h1, by rw [← h2.length]; exact hi⟩
  · obtain ⟨vs, h1, h2⟩ := get h
    exact ⟨vs, vs[i]'(by rw [← h2.length]; exact hi), h1, List.getElem?_eq_getElem _⟩
  · obtain ⟨vs, h1, h2⟩ := get h
    obtain ⟨e, y⟩ := y
    subst e
    obtain ⟨v, h3, h4⟩ := h2.get hd
    rw [y vs h1] at h3
    cases h3
    exact ⟨W, rfl, .refl, h4⟩
theorem walk_tup {K : PySem.W.Frag} {pb : Bool} {ds : List D} {a : Addr} (hK : K = G.K) : WalkR G (Itt K a) pb ds (SrcY G pb [.tup ds] [.ref a]) := by
  subst hK
  have get : ∀ {W}, SrcY G pb [.tup ds] [.ref a] W → ∃ vs, SqT G.K W.H a vs ∧ RZs G (W.vw pb) ds vs := fun {W} h => by
    cases h with
    | cons r _ =>
      obtain ⟨b, vs, e, h1, h2⟩ := r.tuple
      cases e
      exact ⟨vs, h1, h2⟩
  refine ⟨fun W i h hi => ?_, fun W i h hi => ?_, fun W i x H' d h hd y => ?_⟩
  · obtain ⟨vs, h1, h2⟩ := get h
    exact ⟨vs, h1, by rw [← h2.length]; exact hi⟩
  · obtain ⟨vs, h1, h2⟩ := get h
    exact ⟨vs, vs[i]'(by rw [← h2.length]; exact hi), h1, List.getElem?_eq_getElem _⟩
  · obtain ⟨vs, h1, h2⟩ := get h
    obtain ⟨e, y⟩ := y
    subst e
    obtain ⟨v, h3, h4⟩ := h2.get hd
    rw [y vs h1] at h3
    cases h3
    exact ⟨W, rfl, .refl, h4⟩
theorem walk_str {pb : Bool} {z : Str} {Y : Wd → Prop} : WalkR G (Its z) pb (z.cps.toList.map fun c => .str ⟨#[c]⟩) Y := by
  refine ⟨fun W i h hi => ?_, fun W i h hi => ?_, fun W i x H' d h hd y => ?_⟩
  · show z.cps.size ≤ i
    simpa using hi
  · show i < z.cps.size
    simpa using hi
  · obtain ⟨e, c, h1, h2⟩ := y
    subst e h2
    refine ⟨W, rfl, .refl, ?_⟩
    rw [List.getElem?_map] at hd
    obtain ⟨c', h3, h4⟩ := Option.map_eq_some_iff.mp hd
    have : c' = c := by
      have h5 : z.cps.toList[i]? = some c := by simpa using h1
      rw [h5] at h3
      exact (Option.some.inj h3).symm
    subst this h4
    exact .str _
theorem walk_rng {pb : Bool} {lo : Int} {n : Nat} {Y : Wd → Prop} : WalkR G (Itr lo n) pb (rngD lo n) Y := by
  have hl : (rngD lo n).length = n := by unfold rngD; simp
  refine ⟨fun W i h hi => ?_, fun W i h hi => ?_, fun W i x H' d h hd y => ?_⟩
  · show n ≤ i
    rw [← hl]; exact hi
  · show i < n
    rw [← hl]; exact hi
  · obtain ⟨e, h1⟩ := y
    subst e h1
    have := rngD_get hd
    subst this
    exact ⟨W, rfl, .refl, .int _⟩
end

section
variable {X : Cx} {G : Gm} {Wx : WX} {P : Pg} {a b c o tg iter : Expr} {ea eb ec eo : Ex} {pos apos p : Pos} {f : Bool} {es : List Expr} {xs : List Ex}
def EndW (G : Gm) (Wx : WX) (it : It) (W : Wd) (s' : Stt) (t : L2.St) (R : L2.It → Hp → Prop) : Ou (List (Md × D)) → Prop
  | .ok q => ∃ items, itD it (q.map (·.2)) = some items ∧ ∀ W' vs J, Evo false W W' → Fr G W' s' t → Paired (fun q v => PlR G W' t q.1 q.2 v) q vs → WalkR G J (q.any isBp) items (SrcY G (q.any isBp) (q.map (·.2)) vs) → R J W'.H
  | .ex c p => ExQ G Wx W s' t c p
def tIt (G : Gm) (Wx : WX) (P : Pg) (it : It) (xs : List Ex) : TI := fun t H R => ∃ W s r s', W.H = H ∧ Fr G W s t ∧ evI P xs s = some (r, s') ∧ EndW G Wx it W s' t R r
theorem evI_one {s s' : Stt} {r : Ou (List (Md × D))} (e : evI P [ea] s = some (r, s')) : (∃ v, ev P ea s = some (.ok v, s') ∧ r = .ok [v]) ∨ ∃ c p, ev P ea s = some (.ex c p, s') ∧ r = .ex c p := by
  unfold evI at e
  rcases M.bind_some e with ⟨v, s1, e1, e2⟩ | ⟨c, p, e1, e2⟩
  · split at e2
    · cases e2
    · unfold evI at e2
      cases e2
      exact .inl ⟨v, e1, rfl⟩
  · exact .inr ⟨c, p, e1, e2⟩
theorem w_seq (C : Cxt X G) (ha : PE X iter (tV G Wx P false ea)) : PI X tg iter (tIt G Wx P .seq [ea]) := by
  constructor
  intro pins s σ H R I ⟨W, st, r, st', hH, F, e, q⟩
  subst hH
  rcases evI_one e with ⟨v, e1, er⟩ | ⟨c, p, e1, er⟩
  · subst er
    obtain ⟨items, hi, q⟩ := q
    obtain ⟨m, d⟩ := v
    have hi : seqD d = some items := hi
    have pb : ([(m, d)].any isBp) = isBp (m, d) := by simp
    cases d with
    | lst ds =>
      cases hi
      refine (pi_list (peE ha)).run pins s σ W.H R I ⟨W, st, _, st', rfl, F, e1, fun W1 x x1 F1 p1 _ => ?_⟩
      obtain ⟨a, vs, ex, h1, _⟩ := p1.tz.list
      subst ex
      exact ⟨a, rfl, ⟨vs, C.K ▸ h1⟩, q W1 [.ref a] _ x1 F1 (.cons p1 .nil) (by rw [pb]; exact walk_lst C.K)⟩
    | tup ds =>
      cases hi
      refine (pi_tup (peE ha)).run pins s σ W.H R I ⟨W, st, _, st', rfl, F, e1, fun W1 x x1 F1 p1 _ => ?_⟩
      obtain ⟨a, vs, ex, h1, _⟩ := p1.tz.tuple
      subst ex
      exact ⟨a, rfl, ⟨vs, C.K ▸ h1⟩, q W1 [.ref a] _ x1 F1 (.cons p1 .nil) (by rw [pb]; exact walk_tup C.K)⟩
    | str z =>
      cases hi
      refine (pi_str (peE ha)).run pins s σ W.H R I ⟨W, st, _, st', rfl, F, e1, fun W1 x x1 F1 p1 _ => ?_⟩
      have ex := p1.tz.str
      subst ex
      exact ⟨z, rfl, q W1 [.str z] _ x1 F1 (.cons p1 .nil) walk_str⟩
    | _ => cases hi
  · subst er
    exact (pi_list (peE ha)).run pins s σ W.H R I ⟨W, st, _, st', rfl, F, e1, q⟩
theorem ltB_ok {i : Int} (h : ltB i = true) : -(2 ^ 62) ≤ i ∧ i < 2 ^ 62 := by
  unfold ltB at h
  rw [Bool.and_eq_true] at h
  exact ⟨of_decide_eq_true h.1, of_decide_eq_true h.2⟩
theorem w_rng1 (hg : Gl X "range") (hm : X.mg "range" = none) (hs : PA X [a] (tIs G Wx P [ea])) (ns : noStar a = true) : PI X tg (.Call (.Name "range" p) [a] [] pos) (tIt G Wx P .rng [ea]) := by
  constructor
  intro pins s σ H R I ⟨W, st, r, st', hH, F, e, q⟩
  subst hH
  refine (pi_range1 hg hm hs (star_cons ns)).run pins s σ W.H R I ⟨W, st, r, st', rfl, F, e, ?_⟩
  cases r with
  | ex c p => exact q
  | ok vs0 =>
    intro W1 vs x1 F1 pv _
    obtain ⟨items, hi, q⟩ := q
    rcases evI_one e with ⟨v, e1, er⟩ | ⟨c, p, e1, er⟩
    · cases er
      cases pv with
      | cons r1 r2 =>
        cases r2
        rename_i vv
        obtain ⟨m, d⟩ := v
        cases d with
        | int n =>
          have hi : (if ltB n then some (rngD 0 n.toNat) else none) = some items := hi
          split at hi
          · rename_i hn
            cases hi
            have ev := r1.tz.int
            subst ev
            obtain ⟨h1, h2⟩ := ltB_ok hn
            exact ⟨n, rfl, h1, h2, q W1 [.int n] _ x1 F1 (.cons r1 .nil) walk_rng⟩
          · cases hi
        | _ => cases hi
    · cases er
theorem w_rng2 (hg : Gl X "range") (hm : X.mg "range" = none) (hs : PA X [a, b] (tIs G Wx P [ea, eb])) (ns : noStar a = true) (ns2 : noStar b = true) : PI X tg (.Call (.Name "range" p) [a, b] [] pos) (tIt G Wx P .rng [ea, eb]) := by
  constructor
  intro pins s σ H R I ⟨W, st, r, st', hH, F, e, q⟩
  subst hH
  refine (pi_range2 hg hm hs (by rw [star_cons ns, star_cons ns2]; rfl) (star_cons ns2)).run pins s σ W.H R I ⟨W, st, r, st', rfl, F, e, ?_⟩
  cases r with
  | ex c p => exact q
  | ok vs0 =>
    intro W1 vs x1 F1 pv _
    obtain ⟨items, hi, q⟩ := q
    cases pv with
    | nil => cases hi
    | cons r1 r2 =>
      rename_i z1 v1 zs1 vs1
      cases r2 with
      | nil =>
        obtain ⟨m, d⟩ := z1
        exfalso
        -- two are walked
        unfold evI at e
        rcases M.bind_some e with ⟨v, s1, e1, e2⟩ | ⟨c, p, e1, e2⟩
        · split at e2
          · cases e2
          · rcases M.bind_some e2 with ⟨qq, s2, e4, e5⟩ | ⟨c, p, e4, e5⟩
            · rcases evI_one e4 with ⟨v', _, er⟩ | ⟨c, p, _, er⟩
              · cases er; cases e5
              · cases er
            · cases e5
        · cases e2
      | cons r2 r3 =>
        rename_i z2 v2 zs2 vs2
        obtain ⟨m, d⟩ := z1
        obtain ⟨m2, d2⟩ := z2
        cases r3 with
        | cons => cases d <;> cases d2 <;> cases hi
        | nil =>
          cases d with
          | int i =>
            cases d2 with
            | int j =>
              have hi : (if ltB i && ltB j then some (rngD i (j - i).toNat) else none) = some items := hi
              split at hi
              · rename_i hn
                cases hi
                rw [Bool.and_eq_true] at hn
                have ev := r1.tz.int
                have ev2 := r2.tz.int
                subst ev ev2
                obtain ⟨h1, h2⟩ := ltB_ok hn.1
                obtain ⟨h3, h4⟩ := ltB_ok hn.2
                exact ⟨i, j, rfl, ⟨h1, h2, h3, h4⟩, q W1 [.int i, .int j] _ x1 F1 (.cons r1 (.cons r2 .nil)) walk_rng⟩
              · cases hi
            | _ => cases hi
          | _ => cases d2 <;> cases hi
end
end Lk

namespace Lk
open PySem L2 PyProof.Rows

/-! ### zip of a text and a tuple -/
abbrev zsH1 (h : Heap) (x : Str) (t : Tok) : Heap := h.push { cls := .type (strIterType x), data := .fields #[.str x t, .int 0 0] }
abbrev zsH2 (h : Heap) (x : Str) (t : Tok) (l : Addr) : Heap := (zsH1 h x t).push { cls := .type "tuple_iterator", data := .fields #[.ref l, .int 0 0] }
abbrev zsH3 (h : Heap) (x : Str) (t : Tok) (l : Addr) : Heap := (zsH2 h x t l).push { cls := .type "tuple", data := .seq #[.ref h.objs.size, .ref (zsH1 h x t).objs.size] }
abbrev zsH4 (h : Heap) (x : Str) (t : Tok) (l : Addr) : Heap := (zsH3 h x t l).push { cls := .type "tuple", data := .seq #[.none, .none] }
abbrev zsH5 (h : Heap) (x : Str) (t : Tok) (l : Addr) : Heap := (zsH4 h x t l).push { cls := .type "zip", data := .fields #[.none, .bool false, .bool false, .ref (zsH2 h x t l).objs.size, .ref (zsH3 h x t l).objs.size] }
theorem meets_zs_new (x : Str) (t : Tok) (l : Addr) (ys : Array Value) :
    Meets (Builtin.«zip.__new__» ⟨[.type "zip", .str x t, .ref l], []⟩) (fun _ R s => s.heap.IsTuple l ys ∧
      R (.ok (.ret (.ref (zsH4 s.heap x t l).objs.size))) { s with heap := zsH5 s.heap x t l }) :=
  .of_wp fun prog w A R s h => by
    obtain ⟨hp, g, d, tk, os⟩ := s; obtain ⟨hl, h⟩ := h
    have hsub := sub_zip
    have hL : Heap.IsTuple (Shared.heap ⟨hp.push { cls := .type (strIterType x), data := .fields #[.str x t, .int 0 0] }, g, d, tk, os⟩) l ys := Heap.IsTuple.push hl _
    wp_walk using wpAny_pyIter_strU, wpAny_pyIter_tuple hL
    exact ⟨_, rfl, h⟩
section
variable {prog : Program} {w : World} {A : Around} {E : Value → Shared → Prop} {s : Shared}
theorem call_zs {x : Str} {t : Tok} {l : Addr} {ys : Array Value} {Q : Value → Shared → Prop} (hl : s.heap.IsTuple l ys)
    (h : ∀ h', IsZip h' (s.heap.objs.size + 4) (s.heap.objs.size + 2) (s.heap.objs.size + 3) .none → IsPair h' (s.heap.objs.size + 2) (.ref s.heap.objs.size) (.ref (s.heap.objs.size + 1)) →
      IsPair h' (s.heap.objs.size + 3) .none .none → h'.IsStrIter s.heap.objs.size (strIterType x) x t 0 → h'.IsTupleIter (s.heap.objs.size + 1) l 0 → h'.objs.size = s.heap.objs.size + 5 →
      (∀ c o, s.heap.get? c = some o → h'.get? c = some o) → Q (.ref (s.heap.objs.size + 4)) { s with heap := h' }) :
    wpAny (model prog w) A (call (.type "zip") [.str x t, .ref l]) Q E s := by
  refine callType_new F.called_zip (by decide) (F.typeCall_zip_2 _ _) (F.newCall_zip_2 _ _) (fun obj => F.args_object_init_3 obj _ _) F.entry_zip_new
    (meets_zs_new x t l ys) ⟨hl, ?_⟩
  have z1 : (zsH1 s.heap x t).objs.size = s.heap.objs.size + 1 := Heap.size_push ..
  have z2 : (zsH2 s.heap x t l).objs.size = s.heap.objs.size + 2 := by rw [Heap.size_push, z1]
  have z3 : (zsH3 s.heap x t l).objs.size = s.heap.objs.size + 3 := by rw [Heap.size_push, z2]
  have z4 : (zsH4 s.heap x t l).objs.size = s.heap.objs.size + 4 := by rw [Heap.size_push, z3]
  have z5 : (zsH5 s.heap x t l).objs.size = s.heap.objs.size + 5 := by rw [Heap.size_push, z4]
  have g5 : (zsH5 s.heap x t l).get? (zsH4 s.heap x t l).objs.size = some _ := Heap.get?_push_size _ rfl
  have g4 : (zsH5 s.heap x t l).get? (zsH3 s.heap x t l).objs.size = some _ := Heap.get?_push_of_some _ (Heap.get?_push_size _ rfl)
  have g3 : (zsH5 s.heap x t l).get? (zsH2 s.heap x t l).objs.size = some _ := Heap.get?_push_of_some _ (Heap.get?_push_of_some _ (Heap.get?_push_size _ rfl))
  have g2 : (zsH5 s.heap x t l).get? (zsH1 s.heap x t).objs.size = some _ := Heap.get?_push_of_some _ (Heap.get?_push_of_some _ (Heap.get?_push_of_some _ (Heap.get?_push_size _ rfl)))
  have g1 : (zsH5 s.heap x t l).get? s.heap.objs.size = some _ := Heap.get?_push_of_some _ (Heap.get?_push_of_some _ (Heap.get?_push_of_some _ (Heap.get?_push_of_some _ (Heap.get?_push_size _ rfl))))
  show _ ∧ _
  rw [z2, z3, z4] at g5
  rw [z1, z2] at g3
  rw [z3] at g4
  rw [z1] at g2
  rw [z4]
  exact ⟨⟨_, g5, rfl⟩, h _ g5 g3 g4 ⟨_, g1, rfl, rfl⟩ ⟨_, g2, rfl, rfl⟩ z5 fun c o x =>
    Heap.get?_push_of_some _ (Heap.get?_push_of_some _ (Heap.get?_push_of_some _ (Heap.get?_push_of_some _ (Heap.get?_push_of_some _ x))))⟩
end
/-! a tuple's iterator that stands behind its items -/
theorem draws_end {prog : Program} {w : World} {A : Around} (hh : A.handled = none) (it t : Addr) (hne : t ≠ it) (items : Array Value) (i : Nat) (hi : items[i]? = none) :
    Draws prog w A it [it, t] i (fun _ _ => True) (fun j h => j = i ∧ h.IsTupleIter it t i ∧ h.IsTuple t items) where
  live := fun _ _ st => let ⟨o, ho, _⟩ := st.2.1; ⟨o, ho⟩
  frame := fun _ _ _ st hk => ⟨st.1, st.2.1.at fun o e => hk it (by simp) o e, st.2.2.at fun o e => hk t (by simp) o e⟩
  item := fun j s Q E hj st hQ => absurd st.1 (Nat.ne_of_lt hj)
  done := fun s Q E st hE => wpAny_nextOf_tuple_end hh st.2.1 st.2.2 hi hE
def ItzS (K : PySem.W.Frag) (z : Str) (b : Addr) : L2.It :=
  ⟨fun i H => ∃ (ys : List V) (y : V) (c : Nat), SqT K H b ys ∧ z.cps[i]? = some c ∧ ys[i]? = some y,
    fun i H v H' => ∃ T c y, v = .ref T ∧ H T = none ∧ H' = upd H T (.tup [.str ⟨#[c]⟩, y]) ∧ z.cps[i]? = some c ∧ ∀ ys, SqT K H b ys → ys[i]? = some y,
    fun i H => ∃ ys : List V, SqT K H b ys ∧ (z.cps.size ≤ i ∨ ys.length ≤ i)⟩
theorem za_sep {z TI TO i1 i2 b : Addr} (D : ZipApart z TI TO i1 i2 b b) : ZipSep2 z TI TO i1 i2 [i1] [i2, b] where
  TIz := D.TIz
  TOz := D.TOz
  TITO := D.TITO
  TIi1 := D.TIi1
  mem1 := by simp
  zf1 := by simp; exact D.i1z.symm
  Tf1 := by simp; exact D.TOi1
  TIi2 := D.TIi2
  mem2 := by simp
  zf2 := by simp; exact ⟨D.i2z.symm, D.l2z.symm⟩
  Tf2 := by simp; exact ⟨D.TOi2, D.l2TO.symm⟩
  sep1_2 := by simp; exact ⟨D.i12, D.l2i1.symm⟩
  sep2_1 := by simp; exact D.i12.symm
theorem turn_zs {P : Program} {w : World} {K : PySem.W.Frag} {elts : List Expr} {kk : Nat} {tpos : Pos} {x : Str} {t : Tok} {b z TI TO i1 i2 : Addr} (D : ZipApart z TI TO i1 i2 b b) :
    Turn P w K (.Tuple elts kk tpos) (ItzS K x b) [z, TI, TO, i1, i2] z (fun i h => IsZip h z TI TO .none ∧ IsPair h TI (.ref i1) (.ref i2) ∧ (∃ x y, IsPair h TO x y) ∧ h.IsStrIter i1 (strIterType x) x t i ∧ h.IsTupleIter i2 b i ∧ i ≤ x.cps.size) where
  mem := by simp
  obj := fun i h st c hc => by
    obtain ⟨hz, hTI, ⟨x, y, hTO⟩, ⟨o1, e1, _, d1⟩, ⟨o2, e2, _, d2⟩, _⟩ := st
    have e' : c = z ∨ c = TI ∨ c = TO ∨ c = i1 ∨ c = i2 := by simpa using hc
    rcases e' with q | q | q | q | q
    · rw [q]; exact ⟨_, hz, fun v q => nomatch q⟩
    · rw [q]; exact ⟨_, hTI, fun v q => nomatch q⟩
    · rw [q]; exact ⟨_, hTO, fun v q => nomatch q⟩
    · rw [q]; exact ⟨o1, e1, fun v q => by rw [d1] at q; cases q⟩
    · rw [q]; exact ⟨o2, e2, fun v q => by rw [d2] at q; cases q⟩
  keep := fun i h h' st k => by
    obtain ⟨hz, hTI, ⟨x, y, hTO⟩, ⟨o1, e1, r1⟩, h2, hi⟩ := st
    exact ⟨k z (by simp) _ hz, k TI (by simp) _ hTI, ⟨x, y, k TO (by simp) _ hTO⟩, ⟨o1, k i1 (by simp) _ e1, r1⟩, h2.at fun o q => k i2 (by simp) o q, hi⟩
  item := by
    intro X hP hw hK hc i pins s σ H E I hf st hg
    subst hP hw hK
    obtain ⟨hz, hTI, ⟨x0, y0, hTO⟩, h1, h2, hi⟩ := st
    obtain ⟨ys, y, c, hqy, hx, hy⟩ := hg
    obtain ⟨its2, rv2, p2, _⟩ := I.tuple hqy
    obtain ⟨u2, hu2, ru2⟩ := rv2.get hy
    have hh : X.A.in1.handled = none := I.ok.hd hc
    have hzl : z < s.heap.objs.size := Heap.lt_size hz
    have hlt1 : i < x.cps.size := by
      rcases Nat.lt_or_ge i x.cps.size with q | q
      · exact q
      · rw [Array.getElem?_eq_none q] at hx; cases hx
    have hlt2 : i < its2.toArray.size := by
      have := (List.getElem?_eq_some_iff.mp hu2).1
      simpa using this
    refine wpAny_pyNext_zipD2_item (za_sep D) (Draws.text hh i1 x t) (Draws.tuple hh i2 b D.l2i2 its2.toArray) hz hTI hTO h1 ⟨h2, p2⟩ hlt1 hlt2 fun v1 v2 h' tk hv1 hv2 z' TO' h1' h2' hT hsz hk => ?_
    obtain ⟨c', tk', hc', rfl⟩ := hv1
    rw [hx] at hc'
    cases hc'
    have hv2 : v2 = u2 := by
      have hv2 : its2[i]? = some v2 := by simpa using hv2
      rw [hu2] at hv2
      exact (Option.some.inj hv2).symm
    subst hv2
    refine ⟨_, rfl, wpAny_letOwnedTupleGo_zip (s := { s with heap := h', toks := tk }) z' fun h'' z'' sb => ?_⟩
    have hT2 : h''.get? s.heap.objs.size = some { cls := .type "tuple", data := .seq #[.str ⟨#[c]⟩ tk', v2] } := (sb.2 _ (Nat.ne_of_gt hzl)).trans hT
    have new : ObjOk X.prog X.w (upd H s.heap.objs.size (.tup [.str ⟨#[c]⟩, y])) h'' s.heap.objs.size (.tup [.str ⟨#[c]⟩, y]) :=
      ⟨by show 2 ≤ sizeLine; decide, [.str ⟨#[c]⟩ tk', v2], .cons ⟨tk', rfl⟩ (.cons ru2 .nil), ⟨_, hT2, rfl, _, rfl⟩⟩
    have I1 : Inv X pins σ (upd H s.heap.objs.size (.tup [.str ⟨#[c]⟩, y])) { s with heap := h'', toks := tk } :=
      I.turnedNew (t' := tk) (ch := [z, TI, TO, i1, i2]) (fun c o hb q => (sb.2 c (fun q' => hb (by simp [q']))).trans (hk c o (fun q' => hb (by simp [q'])) (fun q' => hb (by simp [q'])) (fun q' => hb (by simp [q'])) (fun q' => hb (by simp [q'])) q)) hf (Nat.le_refl _) new
    obtain ⟨o1, e1, r1⟩ := h1'
    refine ⟨.ref s.heap.objs.size, _, I1, rfl, ⟨_, c, y, rfl, I.hok.fresh (Nat.le_refl _), rfl, hx, fun l hl => by rw [I.tuple_inj hl hqy]; exact hy⟩, ⟨z'', ?_, ⟨.str ⟨#[c]⟩ tk', v2, ?_⟩, ⟨o1, ?_, r1⟩, ?_, hlt1⟩, fun c hcm => ?_⟩
    · exact (sb.2 _ D.TIz).trans (hk _ _ D.TIz D.TITO D.TIi1 D.TIi2 hTI)
    · exact (sb.2 _ D.TOz).trans TO'
    · exact (sb.2 _ D.i1z).trans e1
    · exact h2'.1.at fun o q => (sb.2 _ D.i2z).trans q
    · have hlt : c < s.heap.objs.size := by
        obtain ⟨o1, e1, _⟩ := h1
        obtain ⟨o2, e2, _⟩ := h2
        have e' : c = z ∨ c = TI ∨ c = TO ∨ c = i1 ∨ c = i2 := by simpa using hcm
        rcases e' with q | q | q | q | q
        · rw [q]; exact hzl
        · rw [q]; exact Heap.lt_size hTI
        · rw [q]; exact Heap.lt_size hTO
        · rw [q]; exact Heap.lt_size e1
        · rw [q]; exact Heap.lt_size e2
      rw [upd_ne (Nat.ne_of_lt hlt)]
      exact (hf c hcm).1
  done := by
    intro X hP hw hK hc i pins s σ H E I hf st hg
    subst hP hw hK
    obtain ⟨hz, hTI, ⟨x0, y0, hTO⟩, h1, h2, hi⟩ := st
    obtain ⟨ys, hqy, hend⟩ := hg
    obtain ⟨its2, rv2, p2, _⟩ := I.tuple hqy
    have l2 := rv2.length
    have hh : X.A.in1.handled = none := I.ok.hd hc
    have fin : ∀ (h' : Heap) (tk : Nat), (∀ c o, c ≠ z → c ≠ TO → c ≠ i1 → c ≠ i2 → s.heap.get? c = some o → h'.get? c = some o) → Inv X pins σ H { s with heap := h', toks := tk } := fun h' tk hk =>
      I.turnedL (t' := tk) (ch := [z, TI, TO, i1, i2]) (fun c o hb q => hk c o (fun q' => hb (by simp [q'])) (fun q' => hb (by simp [q'])) (fun q' => hb (by simp [q'])) (fun q' => hb (by simp [q'])) q) hf
    by_cases hlt : i < its2.toArray.size
    · have hx : x.cps.size ≤ i := by
        rcases hend with q | q
        · exact q
        · simp at hlt; omega
      exact wpAny_pyNext_zipD2_end (za_sep D) (Draws.text hh i1 x t) (Draws.tuple hh i2 b D.l2i2 its2.toArray) hz hTI hTO h1 ⟨h2, p2⟩ hi (Nat.le_of_lt hlt) (.inl (by omega)) fun h' tk hk => ⟨rfl, fin h' tk hk⟩
    · have hn : its2.toArray[i]? = none := Array.getElem?_eq_none (by omega)
      exact wpAny_pyNext_zipD2_end (za_sep D) (Draws.text hh i1 x t) (draws_end hh i2 b D.l2i2 its2.toArray i hn) hz hTI hTO h1 ⟨rfl, h2, p2⟩ hi (Nat.le_refl i) (.inr rfl) fun h' tk hk => ⟨rfl, fin h' tk hk⟩
  self := fun A i s Q E st h => wpAny_pyIter_zip st.1 h
theorem zipD_get : ∀ {xs ys : List D} {i : Nat} {d : D}, (zipD xs ys)[i]? = some d → ∃ x y, xs[i]? = some x ∧ ys[i]? = some y ∧ d = .tup [x, y]
  | [], _, _, _, h => by simp [zipD] at h
  | _ :: _, [], _, _, h => by simp [zipD] at h
  | x :: xs, y :: ys, 0, _, h => by
    simp [zipD] at h
    exact ⟨x, y, rfl, rfl, h.symm⟩
  | x :: xs, y :: ys, i + 1, _, h => by
    simp only [zipD, List.getElem?_cons_succ] at h ⊢
    exact zipD_get h
theorem zipD_len : ∀ xs ys : List D, (zipD xs ys).length = min xs.length ys.length
  | [], ys => by simp [zipD]
  | _ :: _, [] => by simp [zipD]
  | x :: xs, y :: ys => by simp [zipD, zipD_len xs ys]
section
variable {G : Gm}
theorem walk_zs {K : PySem.W.Frag} {pb : Bool} {z : Str} {ds : List D} {b : Addr} (hK : K = G.K) : WalkR G (ItzS K z b) pb (zipD (z.cps.toList.map fun c => .str ⟨#[c]⟩) ds) (SrcY G pb [.str z, .tup ds] [.str z, .ref b]) := by
  subst hK
  have get : ∀ {W}, SrcY G pb [.str z, .tup ds] [.str z, .ref b] W → ∃ vs, SqT G.K W.H b vs ∧ RZs G (W.vw pb) ds vs := fun {W} h => by
    cases h with
    | cons _ r =>
      cases r with
      | cons r _ =>
        obtain ⟨b, vs, e, h1, h2⟩ := r.tuple
        cases e
        exact ⟨vs, h1, h2⟩
  refine ⟨fun W i h hi => ?_, fun W i h hi => ?_, fun W i x H' d h hd y => ?_⟩
  · obtain ⟨vs, h1, h2⟩ := get h
    rw [zipD_len] at hi
    have := h2.length
    simp at hi
    exact ⟨vs, h1, by omega⟩
  · obtain ⟨vs, h1, h2⟩ := get h
    rw [zipD_len] at hi
    have := h2.length
    simp at hi
    have hi1 : i < z.cps.size := by omega
    have hi2 : i < vs.length := by omega
    exact ⟨vs, vs[i], z.cps[i], h1, by simp [hi1], List.getElem?_eq_getElem hi2⟩
  · obtain ⟨vs, h1, h2⟩ := get h
    obtain ⟨T, c, y, ex, hT, eH, hc, hy⟩ := y
    obtain ⟨dx, dy, e1, e2, e3⟩ := zipD_get hd
    subst e3 ex eH
    have e1 : dx = .str ⟨#[c]⟩ := by
      rw [List.getElem?_map] at e1
      obtain ⟨c', h3, h4⟩ := Option.map_eq_some_iff.mp e1
      have h5 : z.cps.toList[i]? = some c := by simpa using hc
      rw [h5] at h3
      cases h3
      exact h4.symm
    subst e1
    obtain ⟨v, h3, h4⟩ := h2.get e2
    rw [hy vs h1] at h3
    cases h3
    refine ⟨W.nw T (.tup [.str ⟨#[c]⟩, y]), rfl, .nw hT, ?_⟩
    have hst : Stay (W.vw pb) ((W.nw T (.tup [.str ⟨#[c]⟩, y])).vw pb) := (Grow.nw hT).vw
    refine .tup (.inl ?_) (.cons (.str _) (.cons (h4.stay hst) .nil))
    cases pb <;> exact upd_same
end
end Lk

namespace Lk
open PySem L2 PyProof.Rows

/-! ### enumerate of a list or a tuple -/
theorem meets_enum_tup (l : Addr) (items : Array Value) :
    Meets (Builtin.«enumerate.__new__» ⟨[.type "enumerate", .ref l], []⟩) (fun _ R s => s.heap.IsTuple l items ∧
      R (.ok (.ret (.ref (s.heap.push { cls := .type "tuple_iterator", data := .fields #[.ref l, .int 0 0] }).objs.size)))
        { s with heap := (s.heap.push { cls := .type "tuple_iterator", data := .fields #[.ref l, .int 0 0] }).push { cls := .type "enumerate", data := .fields #[.none, .bool false, .ref s.heap.objs.size, rawInt 0, .none, .none] } }) :=
  .of_wp fun prog w A R s h => by
    obtain ⟨hp, g, d, tk, os⟩ := s; obtain ⟨hl, h⟩ := h
    have hsub := sub_enumerate
    have hL : Heap.IsTuple (Shared.heap ⟨hp, g, d, tk, os⟩) l items := hl
    wp_walk
    refine wpAny_stack_any fun st => wpAny_pure ?_
    split
    · rename_i c _ _ _ _ _
      cases (c == Value.type "enumerate")
      · wp_walk using wpAny_pyIter_tuple hL
        exact ⟨_, rfl, h⟩
      · wp_walk using wpAny_pyIter_tuple hL
        exact ⟨_, rfl, h⟩
    · wp_walk using wpAny_pyIter_tuple hL
      exact ⟨_, rfl, h⟩
section
variable {prog : Program} {w : World} {A : Around} {E : Value → Shared → Prop} {s : Shared}
theorem call_enum_tup {l : Addr} {items : Array Value} {Q : Value → Shared → Prop} (hL : s.heap.IsTuple l items)
    (h : ∀ h', IsEnum h' (s.heap.objs.size + 1) s.heap.objs.size 0 .none → h'.IsTupleIter s.heap.objs.size l 0 → h'.objs.size = s.heap.objs.size + 2 →
      (∀ b o, s.heap.get? b = some o → h'.get? b = some o) → Q (.ref (s.heap.objs.size + 1)) { s with heap := h' }) :
    wpAny (model prog w) A (call (.type "enumerate") [.ref l]) Q E s := by
  refine callType_new F.called_enumerate (by decide) (F.typeCall_enumerate_1 _) (F.newCall_enumerate_1 _) (fun obj => F.args_object_init_2 obj _) F.entry_enumerate_new
    (meets_enum_tup l items) ⟨hL, ?_⟩
  have hz : (s.heap.push { cls := .type "tuple_iterator", data := .fields #[.ref l, .int 0 0] }).objs.size = s.heap.objs.size + 1 := Heap.size_push ..
  show _ ∧ _
  rw [hz]
  have he : IsEnum ((s.heap.push { cls := .type "tuple_iterator", data := .fields #[.ref l, .int 0 0] }).push
      { cls := .type "enumerate", data := .fields #[.none, .bool false, .ref s.heap.objs.size, rawInt 0, .none, .none] }) (s.heap.objs.size + 1) s.heap.objs.size 0 .none := by
    have := Heap.get?_push_size (s.heap.push { cls := .type "tuple_iterator", data := .fields #[.ref l, .int 0 0] })
      (o := { cls := .type "enumerate", data := .fields #[.none, .bool false, .ref s.heap.objs.size, rawInt 0, .none, .none] }) rfl
    rw [hz] at this; exact this
  refine ⟨⟨_, he, rfl⟩, h _ he ⟨_, Heap.get?_push_of_some _ (Heap.get?_push_size _ rfl), rfl, rfl⟩ (by rw [Heap.size_push, hz]) fun b o x => Heap.get?_push_of_some _ (Heap.get?_push_of_some _ x)⟩
end
def IteT (K : PySem.W.Frag) (a : Addr) : L2.It :=
  ⟨fun i H => ∃ (xs : List V) (x : V), SqT K H a xs ∧ xs[i]? = some x, fun i H v H' => ∃ T x, v = .ref T ∧ H T = none ∧ H' = upd H T (.tup [.int (i : Nat), x]) ∧ ∀ xs, SqT K H a xs → xs[i]? = some x, fun i H => ∃ xs : List V, SqT K H a xs ∧ xs.length ≤ i⟩
theorem turn_enumT {P : Program} {w : World} {K : PySem.W.Frag} {elts : List Expr} {kk : Nat} {tpos : Pos} {a e it : Addr} (ha : a ≠ it) (hae : e ≠ a) :
    Turn P w K (.Tuple elts kk tpos) (IteT K a) [e, it] e (fun i h => (∃ old, IsEnum h e it ((i : Nat) : Int) old) ∧ h.IsTupleIter it a i ∧ e ≠ it) where
  mem := by simp
  obj := fun i h st b hb => by
    obtain ⟨⟨old, he⟩, ⟨o, ho, hc, hd⟩, _⟩ := st
    have e' : b = e ∨ b = it := by simpa using hb
    rcases e' with z | z
    · rw [z]; exact ⟨_, he, fun v q => nomatch q⟩
    · rw [z]; exact ⟨o, ho, fun v q => by rw [hd] at q; cases q⟩
  keep := fun i h h' st k => let ⟨⟨old, he⟩, hi, hne⟩ := st; ⟨⟨old, k e (by simp) _ he⟩, hi.at fun o q => k it (by simp) o q, hne⟩
  item := by
    intro X hP hw hK hc i pins s σ H E I hf st hg
    subst hP hw hK
    obtain ⟨⟨old, he⟩, hit, hne⟩ := st
    obtain ⟨xs, x, hq, hx⟩ := hg
    obtain ⟨its, rv, p, hz⟩ := I.tuple hq
    obtain ⟨u, hu, ru⟩ := rv.get hx
    have hh : X.A.in1.handled = none := I.ok.hd hc
    have hel : e < s.heap.objs.size := Heap.lt_size he
    have hil : it < s.heap.objs.size := by obtain ⟨_, q, _⟩ := hit; exact Heap.lt_size q
    have hlt : i < its.toArray.size := by
      have := (List.getElem?_eq_some_iff.mp hu).1
      simpa using this
    refine wpAny_pyNext_enum_itemC (Draws.tuple hh it a ha its.toArray) he ⟨hit, p⟩ hlt hne (by simp; exact ⟨hne, hae⟩) fun v h' tk hv ho hst hT hsz hk => ?_
    have hv : v = u := by
      have hv : its[i]? = some v := by simpa using hv
      rw [hu] at hv
      exact (Option.some.inj hv).symm
    subst hv
    refine ⟨_, rfl, wpAny_letOwnedTupleGo_enum (s := { s with heap := h', toks := tk + 1 }) ho fun h'' he' sb => ?_⟩
    have hT2 : h''.get? s.heap.objs.size = some { cls := .type "tuple", data := .seq #[.int i tk, v] } := (sb.2 _ (Nat.ne_of_gt hel)).trans hT
    have new : ObjOk X.prog X.w (upd H s.heap.objs.size (.tup [.int (i : Nat), x])) h'' s.heap.objs.size (.tup [.int (i : Nat), x]) :=
      ⟨by show 2 ≤ sizeLine; decide, [.int i tk, v], .cons ⟨_, rfl⟩ (.cons ru .nil), ⟨_, hT2, rfl, _, rfl⟩⟩
    have I1 : Inv X pins σ (upd H s.heap.objs.size (.tup [.int (i : Nat), x])) { s with heap := h'', toks := tk + 1 } :=
      I.turnedNew (t' := tk + 1) (ch := [e, it]) (fun b ob hb q => (sb.2 b (fun z => hb (by simp [z]))).trans (hk b ob (fun z => hb (by simp [z])) (fun z => hb (by simp [z])) q)) hf (Nat.le_refl _) new
    refine ⟨.ref s.heap.objs.size, _, I1, rfl, ⟨_, x, rfl, I.hok.fresh (Nat.le_refl _), rfl, fun ys hy => by rw [I.tuple_inj hy hq]; exact hx⟩, ⟨⟨v, ?_⟩, hst.1.at fun o q => (sb.2 it (Ne.symm hne)).trans q, hne⟩, fun b hb => ?_⟩
    · have e1 : ((i + 1 : Nat) : Int) = (i : Int) + 1 := by omega
      rw [e1]; exact he'
    · have hb' : b < s.heap.objs.size := by
        have e' : b = e ∨ b = it := by simpa using hb
        rcases e' with z | z
        · rw [z]; exact hel
        · rw [z]; exact hil
      rw [upd_ne (Nat.ne_of_lt hb')]
      exact (hf b hb).1
  done := by
    intro X hP hw hK hc i pins s σ H E I hf st hg
    subst hP hw hK
    obtain ⟨⟨old, he⟩, hit, hne⟩ := st
    obtain ⟨xs, hq, hx⟩ := hg
    obtain ⟨its, rv, p, hz⟩ := I.tuple hq
    obtain ⟨f0, f1, f2, f3, f4, f5⟩ := hf it (by simp)
    have hl := rv.length
    have hh : X.A.in1.handled = none := I.ok.hd hc
    have hn : its.toArray[i]? = none := Array.getElem?_eq_none (by simp; omega)
    exact wpAny_pyNext_enum_endD (draws_end hh it a ha its.toArray i hn) he ⟨rfl, hit, p⟩ fun h' eb => ⟨rfl, I.turned (t' := s.toks) (fun b o hb q => eb b o hb q) f0 f1 f3 f4 f5⟩
  self := fun A i s Q E st h => let ⟨⟨_, he⟩, _⟩ := st; wpAny_pyIter_enum he h
def iEnumA (K : PySem.W.Frag) (ta : TA) : TI := fun σ H R => ta σ H fun vs H1 => ∃ a xs, vs = [.ref a] ∧ ((SqL K H1 a xs ∧ R (Ite K a) H1) ∨ (SqT K H1 a xs ∧ R (IteT K a) H1))
theorem pi_enumA {X : Cx} {e : Expr} {ta : TA} {p pos tpos : Pos} {elts : List Expr} {kk : Nat} (hg : Gl X "enumerate") (hm : X.mg "enumerate" = none) (ha : PA X [e] ta) (hs : starEach [e] X.env = [(false, eval e X.env)] := by rfl) :
    PI X (.Tuple elts kk tpos) (.Call (.Name "enumerate" p) [e] [] pos) (iEnumA X.K ta) := by
  refine ⟨fun pins s σ H R I h => ?_⟩
  refine Call_ (ld_blt I hg hm boot_enumerate (PyProof.Rows.callWith_type1 (thn (ha.run pos pins s σ H _ I h) fun us s1 ⟨vs, H1, I1, r1, q1⟩ => ?_) hs rfl))
  obtain ⟨a, xs, ex, q⟩ := q1
  subst ex
  cases r1 with
  | cons r rr =>
    cases rr
    cases r
    have fresh2 : ∀ b, b ∈ [s1.heap.objs.size + 1, s1.heap.objs.size] → FpOk X pins H1 b := fun b hb => by
      have e' : b = s1.heap.objs.size + 1 ∨ b = s1.heap.objs.size := by simpa using hb
      have hle : s1.heap.objs.size ≤ b := by
        rcases e' with z | z
        · rw [z]; exact Nat.le_add_right _ _
        · rw [z]; exact Nat.le_refl _
      exact I1.fpOk hle (I1.hok.fresh hle)
    rcases q with ⟨hq, q⟩ | ⟨hq, q⟩
    · obtain ⟨its, rv, p', hz⟩ := I1.list hq
      refine call_enumerate_list p'.isList fun h' he hit hsz hk => wpAny_pyIter_enum he ?_
      have I2 : Inv X pins σ H1 { s1 with heap := h' } := I1.kept (t' := s1.toks) hk
      exact ⟨s1.heap.objs.size + 1, [s1.heap.objs.size + 1, s1.heap.objs.size], _, _, H1, rfl, I2, turn_enum a (s1.heap.objs.size + 1) s1.heap.objs.size, ⟨⟨.none, he⟩, hit, Nat.succ_ne_self _⟩, fresh2, q⟩
    · obtain ⟨its, rv, p', hz⟩ := I1.tuple hq
      obtain ⟨o2, ho2, _⟩ := id p'
      have hlt := Heap.lt_size ho2
      refine call_enum_tup (show s1.heap.IsTuple a its.toArray from p') fun h' he hit hsz hk => wpAny_pyIter_enum he ?_
      have I2 : Inv X pins σ H1 { s1 with heap := h' } := I1.kept (t' := s1.toks) hk
      exact ⟨s1.heap.objs.size + 1, [s1.heap.objs.size + 1, s1.heap.objs.size], _, _, H1, rfl, I2, turn_enumT (Nat.ne_of_lt hlt) (Nat.ne_of_gt (Nat.lt_succ_of_lt hlt)), ⟨⟨.none, he⟩, hit, Nat.succ_ne_self _⟩, fresh2, q⟩
theorem enumD_get : ∀ {xs : List D} {n i : Nat} {d : D}, (enumD n xs)[i]? = some d → ∃ x, xs[i]? = some x ∧ d = .tup [.int ((n + i : Nat) : Int), x]
  | [], _, _, _, h => by simp [enumD] at h
  | x :: xs, n, 0, _, h => by
    simp [enumD] at h
    exact ⟨x, rfl, h.symm⟩
  | x :: xs, n, i + 1, d, h => by
    simp only [enumD, List.getElem?_cons_succ] at h ⊢
    obtain ⟨y, h1, h2⟩ := enumD_get h
    exact ⟨y, h1, by rw [h2, show n + 1 + i = n + (i + 1) from by omega]⟩
theorem enumD_len : ∀ (n : Nat) (xs : List D), (enumD n xs).length = xs.length
  | _, [] => rfl
  | n, _ :: xs => by simp [enumD, enumD_len (n + 1) xs]
section
variable {G : Gm}
theorem pair_yld {W : Wd} {pb : Bool} {T : Addr} {n : Int} {dx : D} {y : V} (hT : W.H T = none) (r : RZ G (W.vw pb) dx y) : ∃ W', W'.H = upd W.H T (.tup [.int n, y]) ∧ Grow W W' ∧ RZ G (W'.vw pb) (.tup [.int n, dx]) (.ref T) := by
  refine ⟨W.nw T (.tup [.int n, y]), rfl, .nw hT, ?_⟩
  have hst : Stay (W.vw pb) ((W.nw T (.tup [.int n, y])).vw pb) := (Grow.nw hT).vw
  refine .tup (.inl ?_) (.cons (.int _) (.cons (r.stay hst) .nil))
  cases pb <;> exact upd_same
theorem pair_yld2 {W : Wd} {pb : Bool} {T : Addr} {dx dy : D} {x y : V} (hT : W.H T = none) (r1 : RZ G (W.vw pb) dx x) (r : RZ G (W.vw pb) dy y) : ∃ W', W'.H = upd W.H T (.tup [x, y]) ∧ Grow W W' ∧ RZ G (W'.vw pb) (.tup [dx, dy]) (.ref T) := by
  refine ⟨W.nw T (.tup [x, y]), rfl, .nw hT, ?_⟩
  have hst : Stay (W.vw pb) ((W.nw T (.tup [x, y])).vw pb) := (Grow.nw hT).vw
  refine .tup (.inl ?_) (.cons (r1.stay hst) (.cons (r.stay hst) .nil))
  cases pb <;> exact upd_same
theorem srcy_lst {W : Wd} {pb : Bool} {ds : List D} {a : Addr} (h : SrcY G pb [.lst ds] [.ref a] W) : ∃ vs, SqL G.K W.H a vs ∧ RZs G (W.vw pb) ds vs := by
  cases h with
  | cons r _ =>
    obtain ⟨b, vs, e, h1, h2⟩ := r.list
    cases e
    exact ⟨vs, h1, h2⟩
theorem srcy_tup {W : Wd} {pb : Bool} {ds : List D} {a : Addr} (h : SrcY G pb [.tup ds] [.ref a] W) : ∃ vs, SqT G.K W.H a vs ∧ RZs G (W.vw pb) ds vs := by
  cases h with
  | cons r _ =>
    obtain ⟨b, vs, e, h1, h2⟩ := r.tuple
    cases e
    exact ⟨vs, h1, h2⟩
theorem walk_en {K : PySem.W.Frag} {pb : Bool} {ds : List D} {a : Addr} (hK : K = G.K) : WalkR G (Ite K a) pb (enumD 0 ds) (SrcY G pb [.lst ds] [.ref a]) := by
  subst hK
  refine ⟨fun W i h hi => ?_, fun W i h hi => ?_, fun W i x H' d h hd y => ?_⟩
  · obtain ⟨vs, h1, h2⟩ := srcy_lst h
    rw [enumD_len] at hi
    exact ⟨vs, h1, by rw [← h2.length]; exact hi⟩
  · obtain ⟨vs, h1, h2⟩ := srcy_lst h
    rw [enumD_len] at hi
    exact ⟨vs, vs[i]'(by rw [← h2.length]; exact hi), h1, List.getElem?_eq_getElem _⟩
  · obtain ⟨vs, h1, h2⟩ := srcy_lst h
    obtain ⟨T, y, ex, hT, eH, hy⟩ := y
    obtain ⟨dx, e1, e2⟩ := enumD_get hd
    subst e2 ex eH
    obtain ⟨v, h3, h4⟩ := h2.get e1
    rw [hy vs h1] at h3
    cases h3
    rw [Nat.zero_add]
    exact pair_yld hT h4
theorem walk_enT {K : PySem.W.Frag} {pb : Bool} {ds : List D} {a : Addr} (hK : K = G.K) : WalkR G (IteT K a) pb (enumD 0 ds) (SrcY G pb [.tup ds] [.ref a]) := by
  subst hK
  refine ⟨fun W i h hi => ?_, fun W i h hi => ?_, fun W i x H' d h hd y => ?_⟩
  · obtain ⟨vs, h1, h2⟩ := srcy_tup h
    rw [enumD_len] at hi
    exact ⟨vs, h1, by rw [← h2.length]; exact hi⟩
  · obtain ⟨vs, h1, h2⟩ := srcy_tup h
    rw [enumD_len] at hi
    exact ⟨vs, vs[i]'(by rw [← h2.length]; exact hi), h1, List.getElem?_eq_getElem _⟩
  · obtain ⟨vs, h1, h2⟩ := srcy_tup h
    obtain ⟨T, y, ex, hT, eH, hy⟩ := y
    obtain ⟨dx, e1, e2⟩ := enumD_get hd
    subst e2 ex eH
    obtain ⟨v, h3, h4⟩ := h2.get e1
    rw [hy vs h1] at h3
    cases h3
    rw [Nat.zero_add]
    exact pair_yld hT h4
end
section
variable {X : Cx} {G : Gm} {Wx : WX} {P : Pg} {a b : Expr} {ea eb : Ex} {pos p tpos : Pos} {elts : List Expr} {kk : Nat}
theorem w_enum (C : Cxt X G) (hg : Gl X "enumerate") (hm : X.mg "enumerate" = none) (hs : PA X [a] (tIs G Wx P [ea])) (ns : noStar a = true) : PI X (.Tuple elts kk tpos) (.Call (.Name "enumerate" p) [a] [] pos) (tIt G Wx P .enum [ea]) := by
  constructor
  intro pins s σ H R I ⟨W, st, r, st', hH, F, e, q⟩
  subst hH
  refine (pi_enumA hg hm hs (star_cons ns)).run pins s σ W.H R I ⟨W, st, r, st', rfl, F, e, ?_⟩
  cases r with
  | ex c p => exact q
  | ok vs0 =>
    intro W1 vs x1 F1 pv _
    obtain ⟨items, hi, q⟩ := q
    rcases evI_one e with ⟨v, e1, er⟩ | ⟨c, p, e1, er⟩
    · cases er
      cases pv with
      | cons r1 r2 =>
        cases r2
        rename_i vv
        obtain ⟨m, d⟩ := v
        have pb : ([(m, d)].any isBp) = isBp (m, d) := by simp
        cases d with
        | lst ds =>
          cases hi
          obtain ⟨c, vs, ex, h1, _⟩ := r1.tz.list
          subst ex
          exact ⟨c, vs, rfl, .inl ⟨C.K ▸ h1, q W1 [.ref c] _ x1 F1 (.cons r1 .nil) (walk_en C.K)⟩⟩
        | tup ds =>
          cases hi
          obtain ⟨c, vs, ex, h1, _⟩ := r1.tz.tuple
          subst ex
          exact ⟨c, vs, rfl, .inr ⟨C.K ▸ h1, q W1 [.ref c] _ x1 F1 (.cons r1 .nil) (walk_enT C.K)⟩⟩
        | _ => cases hi
    · cases er
end
end Lk

namespace Lk
open PySem L2 PyProof.Rows

/-! ### zip: of a text and a tuple, of two lists, of two tuples -/
def iZ3 (K : PySem.W.Frag) (ta : TA) : TI := fun σ H R => ta σ H fun vs H1 => (∃ z b ys, vs = [.str z, .ref b] ∧ SqT K H1 b ys ∧ R (ItzS K z b) H1) ∨
  (∃ a b xs ys, vs = [.ref a, .ref b] ∧ ((SqL K H1 a xs ∧ SqL K H1 b ys ∧ R (Itz K a b) H1) ∨ (SqT K H1 a xs ∧ SqT K H1 b ys ∧ R (RZ.ItzT K a b) H1)))
theorem pi_z3 {X : Cx} {e e2 : Expr} {ta : TA} {p pos tpos : Pos} {elts : List Expr} {kk : Nat} (hg : Gl X "zip") (hm : X.mg "zip" = none) (ha : PA X [e, e2] ta)
    (hs : starEach [e, e2] X.env = (false, eval e X.env) :: starEach [e2] X.env := by rfl) (hpl : (backTo pos (starEach [e2] X.env)).any (·.1) = false := by rfl) :
    PI X (.Tuple elts kk tpos) (.Call (.Name "zip" p) [e, e2] [] pos) (iZ3 X.K ta) := by
  refine ⟨fun pins s σ H R I h => ?_⟩
  refine Call_ (ld_blt I hg hm PyProof.Rows.boot_zip (PyProof.Rows.callWith_type1 (thn (ha.run pos pins s σ H _ I h) fun us s1 ⟨vs, H1, I1, r1, q1⟩ => ?_) hs hpl))
  have fresh5 : ∀ c, c ∈ [s1.heap.objs.size + 4, s1.heap.objs.size + 2, s1.heap.objs.size + 3, s1.heap.objs.size, s1.heap.objs.size + 1] → FpOk X pins H1 c := fun c hcm => by
    have e' : c = s1.heap.objs.size + 4 ∨ c = s1.heap.objs.size + 2 ∨ c = s1.heap.objs.size + 3 ∨ c = s1.heap.objs.size ∨ c = s1.heap.objs.size + 1 := by simpa using hcm
    have hle : s1.heap.objs.size ≤ c := by
      rcases e' with z | z | z | z | z
      · rw [z]; exact Nat.le_add_right _ _
      · rw [z]; exact Nat.le_add_right _ _
      · rw [z]; exact Nat.le_add_right _ _
      · rw [z]; exact Nat.le_refl _
      · rw [z]; exact Nat.le_add_right _ _
    exact I1.fpOk hle (I1.hok.fresh hle)
  rcases q1 with ⟨z, b, ys, ex, hqy, q⟩ | ⟨a, b, xs, ys, ex, q1⟩
  · subst ex
    cases r1 with
    | cons r rr =>
      cases rr with
      | cons r' rr =>
        cases rr
        obtain ⟨t, rfl⟩ := r
        cases r'
        obtain ⟨its2, rv2, p2, _⟩ := I1.tuple hqy
        obtain ⟨o2, ho2, _⟩ := id p2
        refine call_zs (show s1.heap.IsTuple b its2.toArray from p2) fun h' hz hTI hTO h1 h2 hsz hk => wpAny_pyIter_zip hz ?_
        have I2 : Inv X pins σ H1 { s1 with heap := h' } := I1.kept (t' := s1.toks) hk
        exact ⟨s1.heap.objs.size + 4, [s1.heap.objs.size + 4, s1.heap.objs.size + 2, s1.heap.objs.size + 3, s1.heap.objs.size, s1.heap.objs.size + 1], _, _, H1, rfl, I2, turn_zs (PySem.W.ktu_apart s1.heap.objs.size b b (Heap.lt_size ho2) (Heap.lt_size ho2)), ⟨hz, hTI, ⟨_, _, hTO⟩, h1, h2, Nat.zero_le _⟩, fresh5, q⟩
  · subst ex
    cases r1 with
    | cons r rr =>
      cases rr with
      | cons r' rr =>
        cases rr
        cases r
        cases r'
        rcases q1 with ⟨hqx, hqy, q⟩ | ⟨hqx, hqy, q⟩
        · obtain ⟨its, rv, p1, _⟩ := I1.list hqx
          obtain ⟨its2, rv2, p2, _⟩ := I1.list hqy
          refine call_zip_2 p1.isList p2.isList fun h' hz hTI hTO h1 h2 hsz hk => wpAny_pyIter_zip hz ?_
          have I2 : Inv X pins σ H1 { s1 with heap := h' } := I1.kept (t' := s1.toks) hk
          exact ⟨s1.heap.objs.size + 4, [s1.heap.objs.size + 4, s1.heap.objs.size + 2, s1.heap.objs.size + 3, s1.heap.objs.size, s1.heap.objs.size + 1], _, _, H1, rfl, I2, turn_zip (PySem.W.ktu_apart s1.heap.objs.size a b p1.lt p2.lt), ⟨hz, hTI, ⟨_, _, hTO⟩, h1, h2⟩, fresh5, q⟩
        · obtain ⟨its, rv, p1, _⟩ := I1.tuple hqx
          obtain ⟨its2, rv2, p2, _⟩ := I1.tuple hqy
          obtain ⟨o1, ho1, _⟩ := id p1
          obtain ⟨o2, ho2, _⟩ := id p2
          refine RZ.call_zipT (show s1.heap.IsTuple a its.toArray from p1) (show s1.heap.IsTuple b its2.toArray from p2) fun h' hz hTI hTO h1 h2 hsz hk => wpAny_pyIter_zip hz ?_
          have I2 : Inv X pins σ H1 { s1 with heap := h' } := I1.kept (t' := s1.toks) hk
          exact ⟨s1.heap.objs.size + 4, [s1.heap.objs.size + 4, s1.heap.objs.size + 2, s1.heap.objs.size + 3, s1.heap.objs.size, s1.heap.objs.size + 1], _, _, H1, rfl, I2, RZ.turn_zipT (PySem.W.ktu_apart s1.heap.objs.size a b (Heap.lt_size ho1) (Heap.lt_size ho2)), ⟨hz, hTI, ⟨_, _, hTO⟩, h1, h2⟩, fresh5, q⟩
section
variable {G : Gm}
theorem walk_zl {K : PySem.W.Frag} {pb : Bool} {ds es : List D} {a b : Addr} (hK : K = G.K) : WalkR G (Itz K a b) pb (zipD ds es) (SrcY G pb [.lst ds, .lst es] [.ref a, .ref b]) := by
  subst hK
  have get : ∀ {W}, SrcY G pb [.lst ds, .lst es] [.ref a, .ref b] W → ∃ vs ws, SqL G.K W.H a vs ∧ RZs G (W.vw pb) ds vs ∧ SqL G.K W.H b ws ∧ RZs G (W.vw pb) es ws := fun {W} h => by
    cases h with
    | cons r0 r =>
      cases r with
      | cons r _ =>
        obtain ⟨_, vs, e, h1, h2⟩ := r0.list
        cases e
        obtain ⟨_, ws, e, h3, h4⟩ := r.list
        cases e
        exact ⟨vs, ws, h1, h2, h3, h4⟩
  refine ⟨fun W i h hi => ?_, fun W i h hi => ?_, fun W i x H' d h hd y => ?_⟩
  · obtain ⟨vs, ws, h1, h2, h3, h4⟩ := get h
    rw [zipD_len] at hi
    have := h2.length
    have := h4.length
    exact ⟨vs, ws, h1, h3, by omega⟩
  · obtain ⟨vs, ws, h1, h2, h3, h4⟩ := get h
    rw [zipD_len] at hi
    have := h2.length
    have := h4.length
    have hi1 : i < vs.length := by omega
    have hi2 : i < ws.length := by omega
    exact ⟨vs, ws, vs[i], ws[i], h1, h3, List.getElem?_eq_getElem hi1, List.getElem?_eq_getElem hi2⟩
  · obtain ⟨vs, ws, h1, h2, h3, h4⟩ := get h
    obtain ⟨T, u, y, ex, hT, eH, hc, hy⟩ := y
    obtain ⟨dx, dy, e1, e2, e3⟩ := zipD_get hd
    subst e3 ex eH
    obtain ⟨v, g1, g2⟩ := h2.get e1
    rw [hc vs h1] at g1
    cases g1
    obtain ⟨v, g3, g4⟩ := h4.get e2
    rw [hy ws h3] at g3
    cases g3
    exact pair_yld2 hT g2 g4
theorem walk_zt {K : PySem.W.Frag} {pb : Bool} {ds es : List D} {a b : Addr} (hK : K = G.K) : WalkR G (RZ.ItzT K a b) pb (zipD ds es) (SrcY G pb [.tup ds, .tup es] [.ref a, .ref b]) := by
  subst hK
  have get : ∀ {W}, SrcY G pb [.tup ds, .tup es] [.ref a, .ref b] W → ∃ vs ws, SqT G.K W.H a vs ∧ RZs G (W.vw pb) ds vs ∧ SqT G.K W.H b ws ∧ RZs G (W.vw pb) es ws := fun {W} h => by
    cases h with
    | cons r0 r =>
      cases r with
      | cons r _ =>
        obtain ⟨_, vs, e, h1, h2⟩ := r0.tuple
        cases e
        obtain ⟨_, ws, e, h3, h4⟩ := r.tuple
        cases e
        exact ⟨vs, ws, h1, h2, h3, h4⟩
  refine ⟨fun W i h hi => ?_, fun W i h hi => ?_, fun W i x H' d h hd y => ?_⟩
  · obtain ⟨vs, ws, h1, h2, h3, h4⟩ := get h
    rw [zipD_len] at hi
    have := h2.length
    have := h4.length
    exact ⟨vs, ws, h1, h3, by omega⟩
  · obtain ⟨vs, ws, h1, h2, h3, h4⟩ := get h
    rw [zipD_len] at hi
    have := h2.length
    have := h4.length
    have hi1 : i < vs.length := by omega
    have hi2 : i < ws.length := by omega
    exact ⟨vs, ws, vs[i], ws[i], h1, h3, List.getElem?_eq_getElem hi1, List.getElem?_eq_getElem hi2⟩
  · obtain ⟨vs, ws, h1, h2, h3, h4⟩ := get h
    obtain ⟨T, u, y, ex, hT, eH, hc, hy⟩ := y
    obtain ⟨dx, dy, e1, e2, e3⟩ := zipD_get hd
    subst e3 ex eH
    obtain ⟨v, g1, g2⟩ := h2.get e1
    rw [hc vs h1] at g1
    cases g1
    obtain ⟨v, g3, g4⟩ := h4.get e2
    rw [hy ws h3] at g3
    cases g3
    exact pair_yld2 hT g2 g4
end
section
variable {X : Cx} {G : Gm} {Wx : WX} {P : Pg} {a b : Expr} {ea eb : Ex} {pos p tpos : Pos} {elts : List Expr} {kk : Nat}
theorem w_zip (C : Cxt X G) (hg : Gl X "zip") (hm : X.mg "zip" = none) (hs : PA X [a, b] (tIs G Wx P [ea, eb])) (ns : noStar a = true) (ns2 : noStar b = true) : PI X (.Tuple elts kk tpos) (.Call (.Name "zip" p) [a, b] [] pos) (tIt G Wx P .zip [ea, eb]) := by
  constructor
  intro pins s σ H R I ⟨W, st, r, st', hH, F, e, q⟩
  subst hH
  refine (pi_z3 hg hm hs (star_cons ns) (by rw [star_cons ns2]; rfl)).run pins s σ W.H R I ⟨W, st, r, st', rfl, F, e, ?_⟩
  cases r with
  | ex c p => exact q
  | ok vs0 =>
    intro W1 vs x1 F1 pv _
    obtain ⟨items, hi, q⟩ := q
    cases pv with
    | nil => cases hi
    | cons r1 r2 =>
      rename_i z1 v1 zs1 vs1
      cases r2 with
      | nil =>
        obtain ⟨m, d⟩ := z1
        cases d <;> cases hi
      | cons r2 r3 =>
        rename_i z2 v2 zs2 vs2
        obtain ⟨m, d⟩ := z1
        obtain ⟨m2, d2⟩ := z2
        cases r3 with
        | cons => cases d <;> cases d2 <;> cases hi
        | nil =>
          cases d with
          | str z =>
            cases d2 with
            | tup ds =>
              cases hi
              have ev := r1.tz.str
              subst ev
              obtain ⟨c, ys, ex, h1, _⟩ := r2.tz.tuple
              subst ex
              exact .inl ⟨z, c, ys, rfl, C.K ▸ h1, q W1 [.str z, .ref c] _ x1 F1 (.cons r1 (.cons r2 .nil)) (walk_zs C.K)⟩
            | _ => cases hi
          | lst xs =>
            cases d2 with
            | lst ds =>
              cases hi
              obtain ⟨c1, zs, ex, h0, _⟩ := r1.tz.list
              subst ex
              obtain ⟨c, ys, ex, h1, _⟩ := r2.tz.list
              subst ex
              exact .inr ⟨c1, c, zs, ys, rfl, .inl ⟨C.K ▸ h0, C.K ▸ h1, q W1 [.ref c1, .ref c] _ x1 F1 (.cons r1 (.cons r2 .nil)) (walk_zl C.K)⟩⟩
            | _ => cases hi
          | tup xs =>
            cases d2 with
            | tup ds =>
              cases hi
              obtain ⟨c1, zs, ex, h0, _⟩ := r1.tz.tuple
              subst ex
              obtain ⟨c, ys, ex, h1, _⟩ := r2.tz.tuple
              subst ex
              exact .inr ⟨c1, c, zs, ys, rfl, .inr ⟨C.K ▸ h0, C.K ▸ h1, q W1 [.ref c1, .ref c] _ x1 F1 (.cons r1 (.cons r2 .nil)) (walk_zt C.K)⟩⟩
            | _ => cases hi
          | _ => cases d2 <;> cases hi
end
end Lk

namespace Lk
open PySem L2 PyProof.Rows

/-! ### boxed lists and dicts -/
def Wd.bx (W : Wd) (n : Nat) (x : Addr) : Wd := ⟨fun a => if a = x then some (.box n) else W.g a, fun l => if l = n then x else W.i l, W.H, W.k⟩
section
variable {G : Gm} {W W0 W1 W' : Wd} {S : Sto} {s s' : Stt} {t : L2.St} {v : V} {d : D} {n : Nat} {x : Addr}
theorem bx_i {l : Nat} (hn : ¬ W.B n) (hl : W.B l) : (W.bx n x).i l = W.i l := by
  show (if l = n then x else W.i l) = _
  rw [if_neg (fun e => hn (by rw [← e]; exact hl))]
theorem bx_in : (W.bx n x).i n = x := by
  show (if n = n then x else W.i n) = _
  rw [if_pos rfl]
theorem bx_g {a : Addr} (h : a ≠ x) : (W.bx n x).g a = W.g a := if_neg h
theorem bx_gx : (W.bx n x).g x = some (.box n) := if_pos rfl
theorem bx_B {l : Nat} (hn : ¬ W.B n) (gx : W.g x = none) (hl : W.B l) : (W.bx n x).B l := by
  show (W.bx n x).g ((W.bx n x).i l) = _
  rw [bx_i hn hl, bx_g (fun e => by have hl : W.g (W.i l) = _ := hl; rw [e, gx] at hl; cases hl)]; exact hl
theorem bx_Bn : (W.bx n x).B n := by
  show (W.bx n x).g ((W.bx n x).i n) = _
  rw [bx_in, bx_gx]
theorem bx_fz (hn : ¬ W.B n) (gx : W.g x = none) : Stay W.fz (W.bx n x).fz :=
  ⟨fun l hl => ⟨bx_i hn hl, bx_B hn gx hl⟩, fun _ _ e => e, fun a o z e => ⟨(bx_g (fun q => by subst q; rw [show W.g a = _ from z] at gx; cases gx)).trans z, e⟩⟩
theorem bx_bp (hn : ¬ W.B n) (gx : W.g x = none) : Stay W.bp (W.bx n x).bp :=
  ⟨fun l hl => ⟨bx_i hn hl, bx_B hn gx hl⟩, fun _ _ e => e, fun a o z e => ⟨by
    show readP ((W.bx n x).g a)
    rw [bx_g (fun q => by subst q; have z : readP (W.g a) := z; rw [gx] at z; exact z)]; exact z, e⟩⟩
theorem bx_evo (y : Evo false W0 W) (tr : ∀ a r, W0.g a = some r → ∃ o, W0.H a = some o) (h0 : W0.H x = none) (hn : ¬ W.B n) : Evo false W0 (W.bx n x) := by
  have ne : ∀ {c o}, W0.H c = some o → c ≠ x := fun {c o} e z => by subst z; rw [h0] at e; cases e
  refine ⟨fun l hl => (bx_i hn (y.box tr hl).2).trans (y.io l hl), y.tup, y.keep, fun c o e q => (bx_g (ne e)).trans (y.role c o e q), fun hb c i e => ?_, y.there, y.lk, fun c l k e => ?_⟩
  · obtain ⟨o, ho⟩ := tr _ _ e
    rw [bx_g (ne ho)]
    exact y.slot hb c i e
  · obtain ⟨o, ho⟩ := tr _ _ e
    rw [bx_g (ne ho)]
    exact y.fld c l k e
theorem bx_fr (F : Fr G W s t) (gx : W.g x = none) (hx : ∃ o, W.H x = some o) (o : Obj) (new : ObjR G (W.bx s.S.length x) s.S.length o) : Fr G (W.bx s.S.length x) { s with S := s.S ++ [o] } t := by
  have hn : ¬ W.B s.S.length := F.rel.top _ (Nat.le_refl _)
  have yf : Stay W.fz (W.bx s.S.length x).fz := bx_fz hn gx
  have yb : Stay W.bp (W.bx s.S.length x).bp := bx_bp hn gx
  have nx : ∀ {a r}, W.g a = some r → a ≠ x := fun {a r} e z => by subst z; rw [gx] at e; cases e
  refine ⟨⟨fun l u e => ?_, fun l hl z => ?_, fun a r e => ?_⟩, F.len, fun i c e => ?_⟩
  · have e : (s.S ++ [o])[l]? = some u := e
    by_cases h : l < s.S.length
    · rw [List.getElem?_append_left h] at e
      obtain ⟨hb, q⟩ := F.rel.box l u e
      refine ⟨bx_B hn gx hb, q.stay yf hb rfl fun cc k v z => ?_⟩
      cases cc with
      | fz d => exact RZ.stay yf z
      | own d =>
        obtain ⟨a, e1, g, w⟩ := z
        exact ⟨a, e1, by rw [bx_g (nx g)]; exact g, w.stay yf rfl⟩
      | rd d =>
        obtain ⟨a, e', e1, g, w, kk⟩ := z
        exact ⟨a, e', e1, by rw [bx_g (nx g)]; exact g, w.stay yf rfl, kk⟩
      | br d => exact z
    · have hl : l = s.S.length := by
        have := (List.getElem?_eq_some_iff.mp e).1
        rw [List.length_append] at this
        simp at this; omega
      subst hl
      rw [List.getElem?_append_right (Nat.le_refl _)] at e
      simp at e
      subst e
      exact ⟨bx_Bn, new⟩
  · have z : (W.bx s.S.length x).g ((W.bx s.S.length x).i l) = some (.box l) := z
    have hl : (s.S ++ [o]).length ≤ l := hl
    rw [List.length_append] at hl
    simp at hl
    have hln : l ≠ s.S.length := by omega
    have ei : (W.bx s.S.length x).i l = W.i l := by show (if l = s.S.length then x else _) = _; rw [if_neg hln]
    rw [ei] at z
    by_cases h : W.i l = x
    · rw [h, bx_gx] at z
      cases z; exact hln rfl
    · rw [bx_g h] at z
      exact F.rel.top l (by omega) z
  · by_cases h : a = x
    · subst h; exact hx
    · rw [bx_g h] at e
      exact F.rel.trk a r e
  · obtain ⟨v, e1, q⟩ := F.slt i c e
    refine ⟨v, e1, ?_⟩
    cases c with
    | fz d => exact RZ.stay yf q
    | br d => exact RZ.stay yb q
    | own d =>
      obtain ⟨a, e, g, l⟩ := q
      exact ⟨a, e, by rw [bx_g (nx g)]; exact g, l.stay yf rfl⟩
    | rd d =>
      obtain ⟨a, e, g, l, kk⟩ := q
      exact ⟨a, e, by rw [bx_g (nx g)]; exact g, l.stay yf rfl, kk⟩
end
section
variable {X : Cx} {G : Gm} {Wx : WX} {P : Pg} {a b c : Expr} {ea eb ec : Ex} {pos apos p : Pos} {f : Bool} {es : List Expr} {xs : List Ex}
theorem v_box (ha : PE X a (tV G Wx P false ea)) : PE X a (tV G Wx P f (.box ea)) :=
  peImp (peR ha) fun t H Q ⟨W, s, r, s', hH, F, e, q⟩ => by
    unfold evV at e
    have tr := F.rel.trk
    rcases nw_some e with ⟨c, e1, e2⟩ | ⟨c, p, e1, e2⟩
    · subst e2
      rcases M.bind_some e1 with ⟨c0, s1, e3, e4⟩ | ⟨c1, p, e3, e4⟩
      · refine ⟨W, s, _, s1, hH, F, e3, fun W1 v x1 F1 c1 => ?_⟩
        have hn : ¬ W1.B s1.S.length := F1.rel.top _ (Nat.le_refl _)
        cases c0 with
        | own d =>
          obtain ⟨a, ea, z, l, h0⟩ := c1
          subst ea
          have fin : ∀ o, ObjR G (W1.bx s1.S.length a) s1.S.length o → boxD o s1 = some (.ok c, s') → Q (.ref a) W1.H := fun o no e4 => by
            cases e4
            exact q (W1.bx s1.S.length a) (.ref a) (bx_evo x1 tr h0 hn) (bx_fr F1 z l.there o no) (by
              show RZ G (W1.bx s1.S.length a).fz (.ref s1.S.length) (.ref a)
              have := RZ.ref (G := G) (U := (W1.bx s1.S.length a).fz) s1.S.length bx_Bn
              rw [show (W1.bx s1.S.length a).fz.i s1.S.length = a from bx_in] at this
              exact this) (fun z => by cases z)
          cases d with
          | lst ds =>
            refine fin _ ?_ e4
            cases l with
            | lst h r => exact ⟨_, by rw [bx_in]; exact h, r.stay (bx_fz hn z)⟩
          | dic ks ds =>
            refine fin _ ?_ e4
            cases l with
            | dic h k r => exact ⟨_, by rw [bx_in]; exact h, k, r.stay (bx_fz hn z)⟩
          | _ => cases e4
        | _ => cases e4
      · cases e4
    · subst e2
      rcases M.bind_some e1 with ⟨c0, s1, e3, e4⟩ | ⟨c1, p1, e3, e4⟩
      · cases c0 with
        | own d => cases d <;> cases e4
        | _ => cases e4
      · cases e4
        exact ⟨W, s, _, s', hH, F, e3, q⟩
theorem cmpb_pure {op : COp} : PureK fun va vb => fun s => match unbox s.S va with
    | some va => (match unbox s.S vb with
      | some vb => M.cell ((cmpD op va.2 vb.2).map fun b => .fz (.bl b)) s
      | none => none)
    | none => none := fun va vb s1 r s2 e => by

  simp only at e
  split at e
  · split at e
    · obtain ⟨c, _, e3, e4⟩ := cell_some e
      exact ⟨e4, c, e3⟩
    · cases e
  · cases e
theorem cmpb_imp {op : COp} {t : L2.St} {H : Hp} {Q : VK} (h : tV G Wx P f (.cmpb op ea eb) t H Q) : tOp (rCmp G op) (tE G Wx P ea) (tE G Wx P eb) t H Q := by
  obtain ⟨W, s, r, s', hH, F, e, q⟩ := h
  subst hH
  unfold evV at e
  refine two (sx := false) (R := fun x y H2 => rCmp G op x y H2 Q) F e cmpb_pure (fun z => by cases z) q fun va vb s3 c W2 x y e1 F2 ta tb pb _ fin => ?_

  split at e1
  · rename_i va' hu
    split at e1
    · rename_i vb' hu2
      obtain ⟨c', e2, e3, _⟩ := cell_some e1
      cases e3
      obtain ⟨d, e4, e5⟩ := Option.map_eq_some_iff.mp e2
      subst e5
      exact ⟨W2, _, _, _, _, d, rfl, unbox_tz F2 ta hu, unbox_tz F2 tb hu2, e4, fin W2 _ .refl (.bl d) fun _ => rfl⟩
    · cases e1
  · cases e1
theorem v_cmpb (C : Cxt X G) {op : COp} (ha : PE X a (tV G Wx P false ea)) (hb : PE X b (tV G Wx P false eb)) (hs : noSet b = true) : PE X (.Compare a [cOp op] [b] pos) (tV G Wx P f (.cmpb op ea eb)) :=
  peImp (pe_cmpR (opCmp C op) (peE ha) (peE hb) (no_mark hs)) fun _ _ _ h => cmpb_imp h
theorem cmpb_bl {op : COp} : ∀ s vl s', evV P true (.cmpb op ea eb) s = some (.ok vl, s') → ∃ b, vl = .nw (.fz (.bl b)) := fun s vl s' e => by
  unfold evV at e
  rcases M.bind_some e with ⟨va, s1, e1, e2⟩ | ⟨c, p, e1, e2⟩
  · obtain ⟨s2, s3, e3⟩ := guardX_out e2
    rcases M.bind_some e3 with ⟨vb, s4, e4, e5⟩ | ⟨c, p, e4, e5⟩
    · skip
      split at e5
      · split at e5
        · obtain ⟨c', e6, e7, _⟩ := cell_some e5
          obtain ⟨d, _, e8⟩ := Option.map_eq_some_iff.mp e6
          cases e7
          exact ⟨d, by rw [← e8]⟩
        · cases e5
      · cases e5
    · cases e5
  · cases e2
theorem t_cmpb (C : Cxt X G) {op : COp} (ha : PE X a (tV G Wx P false ea)) (hb : PE X b (tV G Wx P false eb)) (hs : noSet b = true) : PT X (.Compare a [cOp op] [b] pos) (tT G Wx P (.cmpb op ea eb)) :=
  ptImp (pt_cmpR (opCmp C op) (peE ha) (peE hb) (no_mark hs)) fun t H Q h => cmpb_imp (bl_imp cmpb_bl h)
/-! .. of lists of lists, some of them boxed -/
def frzW (W : Wd) : Wd := { W with g := fun _ => some .fro }
theorem rz_scal {U U' : Vw} {d : D} {v : V} (h : RZ G U d v) (e : scalD d = true) : RZ G U' d v := by
  cases h <;> first | exact .non | exact .bl _ | exact .int _ | exact .str _ | (simp [scalD] at e)
theorem rzs_scal {U U' : Vw} : ∀ {ds : List D} {vs : List V}, RZs G U ds vs → ds.all scalD = true → RZs G U' ds vs
  | _, _, .nil, _ => .nil
  | _, _, .cons r t, e => by
    rw [List.all_cons, Bool.and_eq_true] at e
    exact .cons (rz_scal r e.1) (rzs_scal t e.2)
theorem unb_rz {W : Wd} {s : Stt} {t : L2.St} {p : Bool} {d d' : D} {v : V} (F : Fr G W s t) (h : RZ G (W.vw p) d v) (e : unb s.S d = some d') : RZ G (frzW W).fz d' v := by
  have hv : (W.vw p).H = W.H := by cases p <;> rfl
  have hi : (W.vw p).i = W.i := by cases p <;> rfl
  cases h with
  | ref l hb =>
    unfold unb at e
    dsimp only at e
    split at e
    · rename_i xs hs
      split at e
      · rename_i hx
        cases e
        obtain ⟨_, vs, h1, h2⟩ := F.rel.box l _ hs
        rw [hi]
        exact .lst (.inl ⟨rfl, .inl h1⟩) (rzs_scal h2 hx)
      · cases e
    · cases e
  | lst q r =>
    unfold unb at e
    dsimp only at e
    split at e
    · rename_i hx
      cases e
      refine .lst ?_ (rzs_scal r hx)
      rcases q with ⟨_, q⟩ | q
      · exact .inl ⟨rfl, by rw [hv] at q; exact q⟩
      · exact .inr q
    · cases e
  | non => cases e; exact .non
  | bl b => cases e; exact .bl b
  | int n => cases e; exact .int n
  | str x => cases e; exact .str x
  | _ => simp [unb, scalD] at e
theorem unbs_rz {W : Wd} {s : Stt} {t : L2.St} {p : Bool} (F : Fr G W s t) : ∀ {ds ds' : List D} {vs : List V}, RZs G (W.vw p) ds vs → unbs s.S ds = some ds' → RZs G (frzW W).fz ds' vs
  | _, _, _, .nil, e => by cases e; exact .nil
  | _, _, _, .cons r tl, e => by
    unfold unbs at e
    obtain ⟨x, e1, e2⟩ := Option.bind_eq_some_iff.mp e
    obtain ⟨xs, e3, e4⟩ := Option.map_eq_some_iff.mp e2
    subst e4
    exact .cons (unb_rz F r e1) (unbs_rz F tl e3)
theorem unboxN_tz {W : Wd} {s : Stt} {t : L2.St} {p : Bool} {d d' : D} {v : V} (F : Fr G W s t) (h : TZ G W p d v) (e : unboxN s.S d = some d') : TZ G (frzW W) false d' v := by
  cases d with
  | lst ds =>
    obtain ⟨ds', e1, e2⟩ := Option.map_eq_some_iff.mp (show (unbs s.S ds).map D.lst = some d' from e)
    subst e2
    obtain ⟨a, vs, rfl, q, r⟩ := h.list
    refine .inl (.lst ?_ (unbs_rz F r e1))
    rcases q with q | q
    · exact .inl ⟨rfl, q⟩
    · exact .inr q
  | _ => cases e
theorem cmpn_pure {op : COp} : PureK fun va vb => fun s => match unboxN s.S va.2 with
    | some da => (match unboxN s.S vb.2 with
      | some db => M.cell ((cmpD op da db).map fun b => .fz (.bl b)) s
      | none => none)
    | none => none := fun va vb s1 r s2 e => by
  simp only at e
  split at e
  · split at e
    · obtain ⟨c, _, e3, e4⟩ := cell_some e
      exact ⟨e4, c, e3⟩
    · cases e
  · cases e
theorem cmpn_imp {op : COp} {t : L2.St} {H : Hp} {Q : VK} (h : tV G Wx P f (.cmpn op ea eb) t H Q) : tOp (rCmp G op) (tE G Wx P ea) (tE G Wx P eb) t H Q := by
  obtain ⟨W, s, r, s', hH, F, e, q⟩ := h
  subst hH
  unfold evV at e
  refine two (sx := false) (R := fun x y H2 => rCmp G op x y H2 Q) F e cmpn_pure (fun z => by cases z) q fun va vb s3 c W2 x y e1 F2 ta tb pb _ fin => ?_
  split at e1
  · rename_i da hu
    split at e1
    · rename_i db hu2
      obtain ⟨c', e2, e3, _⟩ := cell_some e1
      cases e3
      obtain ⟨d, e4, e5⟩ := Option.map_eq_some_iff.mp e2
      subst e5
      exact ⟨frzW W2, _, _, _, _, d, rfl, unboxN_tz F2 ta hu, unboxN_tz F2 tb hu2, e4, fin W2 _ .refl (.bl d) fun _ => rfl⟩
    · cases e1
  · cases e1
theorem v_cmpn (C : Cxt X G) {op : COp} (ha : PE X a (tV G Wx P false ea)) (hb : PE X b (tV G Wx P false eb)) (hs : noSet b = true) : PE X (.Compare a [cOp op] [b] pos) (tV G Wx P f (.cmpn op ea eb)) :=
  peImp (pe_cmpR (opCmp C op) (peE ha) (peE hb) (no_mark hs)) fun _ _ _ h => cmpn_imp h
theorem cmpn_bl {op : COp} : ∀ s vl s', evV P true (.cmpn op ea eb) s = some (.ok vl, s') → ∃ b, vl = .nw (.fz (.bl b)) := fun s vl s' e => by
  unfold evV at e
  rcases M.bind_some e with ⟨va, s1, e1, e2⟩ | ⟨c, p, e1, e2⟩
  · obtain ⟨s2, s3, e3⟩ := guardX_out e2
    rcases M.bind_some e3 with ⟨vb, s4, e4, e5⟩ | ⟨c, p, e4, e5⟩
    · skip
      split at e5
      · split at e5
        · obtain ⟨c', e6, e7, _⟩ := cell_some e5
          obtain ⟨d, _, e8⟩ := Option.map_eq_some_iff.mp e6
          cases e7
          exact ⟨d, by rw [← e8]⟩
        · cases e5
      · cases e5
    · cases e5
  · cases e2
theorem t_cmpn (C : Cxt X G) {op : COp} (ha : PE X a (tV G Wx P false ea)) (hb : PE X b (tV G Wx P false eb)) (hs : noSet b = true) : PT X (.Compare a [cOp op] [b] pos) (tT G Wx P (.cmpn op ea eb)) :=
  ptImp (pt_cmpR (opCmp C op) (peE ha) (peE hb) (no_mark hs)) fun t H Q h => cmpn_imp (bl_imp cmpn_bl h)
theorem bib_imp {g : BI} {t : L2.St} {H : Hp} {Q : VK} (h : tV G Wx P f (.bib g ea) t H Q) : tE G Wx P ea t H fun x H1 => rBi G g [x] H1 Q := by
  obtain ⟨W, s, r, s', hH, F, e, q⟩ := h
  subst hH
  unfold evV at e
  have tr := F.rel.trk
  rcases M.bind_some e with ⟨v, s1, e1, e2⟩ | ⟨c, p, e1, e2⟩
  · refine ⟨W, s, _, s1, rfl, F, e1, fun W1 x x1 F1 p1 _ => ?_⟩

    split at e2
    · rename_i v' hu
      obtain ⟨c', e3, e4, e5⟩ := cell_some e2
      subst e4 e5
      obtain ⟨d, e6, e7⟩ := Option.map_eq_some_iff.mp e3
      subst e7
      refine ⟨W1, isBp v', _, d, rfl, .cons (unbox_tz F1 p1.tz hu) .nil, e6, Fin.of (sx := false) (fun W4 u g n _ => ?_) fun z => by cases z⟩
      have F4 := g.fr F1
      obtain ⟨W5, h5, x5, F5, c5, _⟩ := pre_fin (x1.trans g.evo tr) tr rfl .refl .refl (fun a ha => ⟨by rw [g.g]; exact F1.rel.free ha, x1.hnone ha⟩) F4 n
      rw [← h5]
      exact q W5 u x5 F5 c5 fun z => by cases z
    · cases e2
  · subst e2
    exact ⟨W, s, _, s', rfl, F, e1, q⟩
theorem v_bib {g : BI} {n : Str} (C : Cxt X G) (hp : plainBI g = true) (hc : calmBI g = true → X.calm = true) (hg : Gl X n) (hm : X.mg n = none) (hv : bootBuiltins n = some (biV g)) (ha : PE X a (tV G Wx P false ea)) (ns : noStar a = true) (hn : n ≠ "__name__") (hdb : (n == ("__debug__" : Str)) = false) :
    PE X (.Call (.Name n p) [a] [] pos) (tV G Wx P f (.bib g ea)) := by
  have cb := callBi C g hp hc
  cases g <;> first
    | (cases hp; done)
    | exact peImp (pe_callB cb hg hm hv (pa_cons (peE ha) pa_nil (star_cons ns)) hn hdb (star_cons ns) (star_none rfl)) fun t H Q h => bib_imp h
    | exact peImp (pe_callTy cb hg hm hv (pa_cons (peE ha) pa_nil (star_cons ns)) hn hdb (star_cons ns) (star_none rfl)) fun t H Q h => bib_imp h
theorem v_rep (ha : PE X a (tV G Wx P false ea)) (hb : PE X b (tV G Wx P false eb)) : PE X (.BinOp a .Mult b pos) (tV G Wx P f (.rep ea eb)) := by
  refine peImp (pe_op op_rep (peR ha) (peE hb)) fun t H Q ⟨W, s, r, s', hH, F, e, q⟩ => ?_
  unfold evV at e
  have tr := F.rel.trk
  rcases M.bind_some e with ⟨c, s1, e1, e2⟩ | ⟨cc, pp, e1, e2⟩
  · refine ⟨W, s, _, s1, hH, F, e1, fun W1 x x1 F1 c1 => ?_⟩
    cases c with
    | own d =>
      cases d with
      | lst ds =>
        obtain ⟨a, ea, z, l, h0⟩ := c1
        subst ea
        rcases M.bind_some e2 with ⟨w, s2, e3, e4⟩ | ⟨cc, pp, e3, e4⟩
        · refine ⟨W1, s1, _, s2, rfl, F1, e3, fun W2 y x2 F2 p2 _ => ?_⟩
          cases l with
          | lst hl rl =>
            rename_i vs
            have hl2 : W2.H a = some (.lst vs) := x2.keep _ _ hl (by rw [z]; exact id)
            obtain ⟨c', e5, e6, e7⟩ := cell_some e4
            subst e6 e7
            obtain ⟨m, d⟩ := w
            cases d with
            | int k =>
              have e5 : (if 0 ≤ k ∧ k < 1000000 ∧ k.toNat * ds.length ≤ line then some (Cell.own (.lst (List.replicate k.toNat ds).flatten)) else none) = some c' := e5
              split at e5
              · rename_i hk
                cases e5
                refine ⟨a, k, vs, rfl, p2.tz.int, hl2, by omega, by omega, by rw [← rl.length, Nat.mul_comm]; exact line_size hk.2.2, fun p hp => ?_⟩
                have g : Grow W2 (W2.nw p (.lst (List.replicate k.toNat vs).flatten)) := .nw hp
                exact q _ (.ref p) ((x1.trans x2 tr).trans g.evo tr) (g.fr F2) ⟨p, rfl, F2.rel.free hp, .lst upd_same (((rl.stay (x2.fz F1.rel.trk)).rep k.toNat).stay (g.vw (p := false))), (x1.trans x2 tr).hnone hp⟩ fun z => by cases z
              · cases e5
            | _ => cases e5
        · subst e4
          exact ⟨W1, s1, _, s', rfl, F1, e3, fun W' dx x' F' hx => q W' dx (x1.trans x' tr) F' hx⟩
      | _ => cases e2
    | _ => cases e2
  · subst e2
    exact ⟨W, s, _, s', hH, F, e1, q⟩
theorem v_dcp (hg : Gl X "dict") (hm : X.mg "dict" = none) (ha : PE X a (tV G Wx P false ea)) (ns : noStar a = true) (hn : ("dict" : Str) ≠ "__name__") (hdb : (("dict" : Str) == ("__debug__" : Str)) = false) :
    PE X (.Call (.Name "dict" p) [a] [] pos) (tV G Wx P f (.dcp ea)) := by
  refine peImp (pe_callTy call_dictD hg hm (by decide +kernel) (pa_cons (peE ha) pa_nil (star_cons ns)) hn hdb (star_cons ns) (star_none rfl)) fun t H Q ⟨W, s, r, s', hH, F, e, q⟩ => ?_
  subst hH
  unfold evV at e
  have tr := F.rel.trk
  rcases M.bind_some e with ⟨v, s1, e1, e2⟩ | ⟨c, p, e1, e2⟩
  · refine ⟨W, s, _, s1, rfl, F, e1, fun W1 x x1 F1 p1 _ => ?_⟩
    split at e2
    · rename_i l
      split at e2
      · rename_i ks vs hS
        cases e2
        obtain ⟨_, kvs, h1, h2, h3⟩ := F1.rel.box l _ hS
        have p1 : RZ G W1.fz (.ref l) x := p1
        cases p1 with
        | ref _ hb =>
          refine ⟨W1.i l, kvs, rfl, .inl h1, fun p hp => ?_⟩
          have g : Grow W1 (W1.nw p (.dK kvs)) := .nw hp
          exact q _ (.ref p) (x1.trans g.evo tr) (g.fr F1) ⟨p, rfl, F1.rel.free hp, .dic upd_same h2 (h3.stay (g.vw (p := false))), x1.hnone hp⟩ fun z => by cases z
      · cases e2
    · cases e2
  · subst e2
    exact ⟨W, s, _, s', rfl, F, e1, q⟩
end
end Lk

namespace Lk
open PySem L2 PyProof.Rows

section
variable {G : Gm} {W W' : Wd} {s s' : Stt} {t : L2.St} {x v : V} {d : D} {pb : Bool}
theorem guardLs_ok {α : Type} {x : M α} {r : Ou α} : ∀ {qs : List (Md × D)} {vs : List V} {W : Wd} {s s' : Stt}, Paired (fun q v => PlR G W t q.1 q.2 v) qs vs → Fr G W s t → guardLs (qs.map (·.1)) x s = some (r, s') →
    ∃ W1 s1 s2, W1.H = W.H ∧ Fr G W1 s1 t ∧ Paired (ArgT G W1) qs vs ∧ x s1 = some (r, s2) ∧ (∀ q z, ArgT G W q z → ArgT G W1 q z) ∧ ∀ W2, Evo false W1 W2 → Fr G W2 s2 t → ∃ W3, Unl G W W2 W3 ∧ Fr G W3 s' t
  | [], _, W, s, s', .nil, F, e => ⟨W, s, s', rfl, F, .nil, e, fun _ _ h => h, fun W2 x2 F2 => ⟨W2, ⟨rfl, rfl, x2, .refl, .refl, fun _ h => h⟩, F2⟩⟩
  | q :: qs, v :: vs, W, s, s', .cons p1 pr, F, e => by
    have e : guardL q.1 (guardLs (qs.map (·.1)) x) s = some (r, s') := e
    obtain ⟨W1, s1, s2, h1, F1, ⟨a1, a2, a3⟩, e1, back⟩ := guardL_ok F p1 e
    obtain ⟨W2, s3, s4, h2, F2, pv, e2, keep, bk⟩ := guardLs_ok (Paired.mapP pr fun q v h => a3 q.1 q.2 v h) F1 e1
    refine ⟨W2, s3, s4, h2.trans h1, F2, .cons (keep _ _ a1) pv, e2, fun q z h => keep q z (a2 q z h), fun W3 x3 F3 => ?_⟩
    obtain ⟨W4, u4, F4⟩ := bk W3 x3 F3
    obtain ⟨_, W5, u5, F5, _⟩ := back W4 u4.evo F4
    exact ⟨W5, ⟨u5.H.trans u4.H, u5.i.trans u4.i, u5.evo, u4.fz.trans u5.fz, u4.bp.trans u5.bp, fun c h => u5.free c (u4.free c h)⟩, F5⟩

/-! slots -/
theorem Fr.set {i : Nat} {c : Cell} (F : Fr G W s t) (h : SltR G W i c v) : Fr G W { s with r := s.r.set i (some c) } (t.set i (some v)) := by
  refine ⟨F.rel, by simpa using F.len, fun j c' e => ?_⟩
  have e : (s.r.set i (some c))[j]? = some (some c') := e
  by_cases hj : j = i
  · subst hj
    have hl : j < s.r.length := by
      have := (List.getElem?_eq_some_iff.mp e).1
      simpa using this
    rw [List.getElem?_set_self hl] at e
    cases e
    exact ⟨v, by rw [List.getElem?_set_self (by rw [← F.len]; exact hl)], h⟩
  · rw [List.getElem?_set_ne (Ne.symm hj)] at e
    obtain ⟨w, e1, q⟩ := F.slt j c' e
    exact ⟨w, by rw [List.getElem?_set_ne (Ne.symm hj)]; exact e1, q⟩
theorem cellIn_slt {i : Nat} (h : RZ G (W.vw pb) d x) : SltR G W i (cellIn pb d) x := by
  unfold cellIn
  cases q : (pb && !flat d) with
  | true => rw [if_pos rfl]; exact vw_bp h
  | false =>
    rw [if_neg (by simp)]
    cases pb with
    | false => exact h
    | true => exact vw_flat h (by simpa using q)
def gList : List Nat → TGs
  | [] => gNil
  | i :: is => gCons (gName i) (gList is)
def gPat (K : PySem.W.Frag) : Pat → TG
  | .nm i => gName i
  | .tu is => gTup K is.length (gList is)
def patIs : Pat → List Nat
  | .nm i => [i]
  | .tu is => is
/-! some slots are other ones -/
def SetsIn (own : List Nat) (t t' : L2.St) : Prop := t'.length = t.length ∧ ∀ j, j ∉ own → t'[j]? = t[j]?
theorem SetsIn.refl {own : List Nat} : SetsIn own t t := ⟨rfl, fun _ _ => rfl⟩
theorem SetsIn.set {own : List Nat} {t t' : L2.St} {i : Nat} {v : Option V} (h : SetsIn own t t') (hi : i ∈ own) : SetsIn own t (t'.set i v) :=
  ⟨by simpa using h.1, fun j hj => by rw [List.getElem?_set_ne (fun e => hj (by rw [← e]; exact hi))]; exact h.2 j hj⟩
theorem binds_ok {own : List Nat} {t0 : L2.St} {Q : L2.St → Hp → Prop} : ∀ {is : List Nat} {ds : List D} {vs : List V} {s : Stt} {t : L2.St}, Fr G W s t → RZs G (W.vw pb) ds vs → ds.length = is.length → (∀ i ∈ is, i ∈ own) → SetsIn own t0 t →
    (∀ t', Fr G W { s with r := bindP.binds pb is ds s.r } t' → SetsIn own t0 t' → Q t' W.H) → gList is vs t W.H Q
  | [], [], _, s, t, F, .nil, _, _, hs, q => ⟨rfl, q t F hs⟩
  | i :: is, d :: ds, _, s, t, F, .cons r1 r2, hl, ho, hs, q => by
    refine ⟨_, _, rfl, ?_⟩
    have F2 := F.set (i := i) (cellIn_slt r1)
    exact binds_ok F2 r2 (by simpa using hl) (fun j hj => ho j (List.mem_cons_of_mem _ hj)) (hs.set (ho i (List.mem_cons_self ..))) q
theorem patOk {K : PySem.W.Frag} (hK : K = G.K) {own : List Nat} {Q : L2.St → Hp → Prop} {p : Pat} {r' : Lk.Env} (F : Fr G W s t) (h : RZ G (W.vw pb) d x) (e : bindP p pb d s.r = some r') (ho : ∀ i ∈ patIs p, i ∈ own)
    (q : ∀ t', Fr G W { s with r := r' } t' → SetsIn own t t' → Q t' W.H) : gPat K p x t W.H Q := by
  subst hK
  cases p with
  | nm i =>
    cases e
    exact q _ (F.set (cellIn_slt h)) (SetsIn.refl.set (ho i (List.mem_cons_self ..)))
  | tu is =>
    unfold bindP at e
    cases d with
    | tup xs =>
      simp only at e
      split at e
      · rename_i hl
        cases e
        obtain ⟨a, vs, ex, h1, h2⟩ := TZ.tuple (p := pb) (.inl h)
        exact ⟨a, vs, ex, h1, by rw [← h2.length]; exact hl, binds_ok F h2 hl ho .refl q⟩
      · cases e
    | _ => cases e
/-! a block's own names -/
theorem wipe_get (t : L2.St) : ∀ (vs : List Nat) (j : Nat), (wipe t vs)[j]? = if j ∈ vs then (t[j]?).map (fun _ => none) else t[j]?
  | [], j => by simp [wipe]
  | v :: vs, j => by
    show ((wipe t vs).set v none)[j]? = _
    rw [List.getElem?_set]
    by_cases h : v = j
    · subst h
      rw [if_pos rfl, if_pos (List.mem_cons_self ..), wipe_length]
      by_cases hl : v < t.length
      · rw [if_pos hl, List.getElem?_eq_getElem hl]; rfl
      · rw [if_neg hl, List.getElem?_eq_none (by omega)]; rfl
    · rw [if_neg h, wipe_get t vs j]
      by_cases hm : j ∈ vs
      · rw [if_pos hm, if_pos (List.mem_cons_of_mem _ hm)]
      · rw [if_neg hm, if_neg (by simp [hm]; exact fun e => h e.symm)]
theorem wipe_of {t t' : L2.St} {own : List Nat} (h : SetsIn own (wipe t own) t') : wipe t' own = wipe t own := by
  apply List.ext_getElem?
  intro j
  rw [wipe_get, wipe_get]
  by_cases hj : j ∈ own
  · rw [if_pos hj, if_pos hj]
    have hl := h.1
    rw [wipe_length] at hl
    by_cases hlt : j < t.length
    · rw [List.getElem?_eq_getElem hlt, List.getElem?_eq_getElem (by omega)]; rfl
    · rw [List.getElem?_eq_none (by omega), List.getElem?_eq_none (by omega)]
  · rw [if_neg hj, if_neg hj, h.2 j hj, wipe_get, if_neg hj]
theorem wipeE_get : ∀ (own : List Nat) (r : Lk.Env) (j : Nat) (c : Cell), (wipeE own r)[j]? = some (some c) → j ∉ own ∧ r[j]? = some (some c)
  | [], r, j, c, h => ⟨by simp, h⟩
  | v :: vs, r, j, c, h => by
    have h : (wipeE vs (r.set v none))[j]? = some (some c) := h
    obtain ⟨h1, h2⟩ := wipeE_get vs _ j c h
    have hv : j ≠ v := fun e => by
      subst e
      rw [List.getElem?_set] at h2
      simp at h2
    rw [List.getElem?_set_ne (Ne.symm hv)] at h2
    exact ⟨by simp [hv, h1], h2⟩
theorem wipeE_len : ∀ (own : List Nat) (r : Lk.Env), (wipeE own r).length = r.length
  | [], r => rfl
  | v :: vs, r => by
    show (wipeE vs (r.set v none)).length = _
    rw [wipeE_len vs]; simp
theorem Fr.wipe {own : List Nat} (F : Fr G W s t) : Fr G W { s with r := wipeE own s.r } (wipe t own) := by
  refine ⟨F.rel, ?_, fun j c e => ?_⟩
  · show (wipeE own s.r).length = _
    rw [wipeE_len, wipe_length]; exact F.len
  · obtain ⟨h1, h2⟩ := wipeE_get own _ j c e
    obtain ⟨v, e1, q⟩ := F.slt j c h2
    exact ⟨v, by rw [wipe_get, if_neg h1]; exact e1, q⟩
theorem Fr.unwipe {own : List Nat} (F : Fr G W { s with r := wipeE own s.r } (L2.wipe t own)) : Fr G W { s with r := wipeE own s.r } t := by
  refine ⟨F.rel, ?_, fun j c e => ?_⟩
  · have := F.len
    rw [wipe_length] at this; exact this
  · obtain ⟨v, e1, q⟩ := F.slt j c e
    have e : (wipeE own s.r)[j]? = some (some c) := e
    obtain ⟨h1, h2⟩ := wipeE_get own _ j c e
    rw [wipe_get, if_neg h1] at e1
    exact ⟨v, e1, q⟩
/-! the new list of a comprehension is nobody's -/
def Wd.drop (W : Wd) (a : Addr) : Wd := ⟨W.g, W.i, fun b => if b = a then none else W.H b, W.k⟩
theorem drop_at {a : Addr} : (W.drop a).H a = none := if_pos rfl
theorem drop_ne {a b : Addr} (h : b ≠ a) : (W.drop a).H b = W.H b := if_neg h
theorem drop_fz {a : Addr} {vs : List V} (g : W.g a = none) (h : W.H a = some (.lst vs)) : Stay W.fz (W.drop a).fz :=
  ⟨fun l hl => ⟨rfl, hl⟩, fun b ws e => (drop_ne (fun z => by subst z; rw [show W.H b = _ from e] at h; cases h)).trans e, fun b o z e => ⟨z, (drop_ne (fun q => by subst q; rw [show W.g b = _ from z] at g; cases g)).trans e⟩⟩
theorem drop_bp {a : Addr} {vs : List V} (g : W.g a = none) (h : W.H a = some (.lst vs)) : Stay W.bp (W.drop a).bp :=
  ⟨fun l hl => ⟨rfl, hl⟩, fun b ws e => (drop_ne (fun z => by subst z; rw [show W.H b = _ from e] at h; cases h)).trans e, fun b o z e => ⟨z, (drop_ne (fun q => by subst q; have z : readP (W.g b) := z; rw [g] at z; exact z)).trans e⟩⟩
theorem drop_vw {a : Addr} {vs : List V} (g : W.g a = none) (h : W.H a = some (.lst vs)) : Stay (W.vw pb) ((W.drop a).vw pb) := by
  cases pb
  · exact drop_fz g h
  · exact drop_bp g h
theorem LR.drop {a b : Addr} {vs : List V} (g : W.g a = none) (h : W.H a = some (.lst vs)) (l : LR G W d b) (nb : b ≠ a) : LR G (W.drop a) d b := l.stay (drop_fz g h) (drop_ne nb)
theorem Fr.drop {a : Addr} {vs : List V} (F : Fr G W s t) (g : W.g a = none) (h : W.H a = some (.lst vs)) : Fr G (W.drop a) s t := by
  have nb : ∀ {b r}, W.g b = some r → b ≠ a := fun {b r} e z => by subst z; rw [g] at e; cases e
  refine ⟨⟨fun l o e => ?_, F.rel.top, fun b r e => ?_⟩, F.len, fun i c e => ?_⟩
  · obtain ⟨hb, q⟩ := F.rel.box l o e
    refine ⟨hb, q.stay (drop_fz g h) hb (drop_ne (nb hb)) fun c k v z => ?_⟩
    cases c with
    | fz d => exact RZ.stay (drop_fz g h) z
    | own d => obtain ⟨b, e1, g1, w⟩ := z; exact ⟨b, e1, g1, w.drop g h (nb g1)⟩
    | rd d => obtain ⟨b, e', e1, g1, w, kk⟩ := z; exact ⟨b, e', e1, g1, w.drop g h (nb g1), kk⟩
    | br d => exact z
  · obtain ⟨o, ho⟩ := F.rel.trk b r e
    exact ⟨o, (drop_ne (nb e)).trans ho⟩
  · obtain ⟨v, e1, z⟩ := F.slt i c e
    refine ⟨v, e1, ?_⟩
    cases c with
    | fz d => exact RZ.stay (drop_fz g h) z
    | own d => obtain ⟨b, e1, g1, w⟩ := z; exact ⟨b, e1, g1, w.drop g h (nb g1)⟩
    | rd d => obtain ⟨b, e1, g1, w, kk⟩ := z; exact ⟨b, e1, g1, w.drop g h (nb g1), kk⟩
    | br d => exact RZ.stay (drop_bp g h) z
theorem drop_evo {a : Addr} {o : HO} (h0 : W.H a = none) (x : Evo false (W.nw a o) W') : Evo false W (W'.drop a) := by
  have ne : ∀ {b u}, W.H b = some u → b ≠ a := fun {b u} e => ne_of_none e h0
  have up : ∀ {b u}, W.H b = some u → (W.nw a o).H b = some u := fun {b u} e => nw_keep h0 b u e
  refine ⟨x.io, fun b vs e => (drop_ne (ne e)).trans (x.tup b vs (up e)), fun b u e m => (drop_ne (ne e)).trans (x.keep b u (up e) m), fun b u e q => x.role b u (up e) q, x.slot, fun b u e => ?_, x.lk, x.fld⟩
  obtain ⟨u', h'⟩ := x.there b u (up e)
  exact ⟨u', (drop_ne (ne e)).trans h'⟩
end
end Lk

namespace Lk
open PySem L2 PyProof.Rows

def WxF : WX := fun _ _ _ _ => False
section
variable {X : Cx} {G : Gm} {Wx : WX} {P : Pg} {a b c o tg iter elt : Expr} {ea eb ec eo ee : Ex} {pos apos p : Pos} {f : Bool} {es : List Expr} {xs : List Ex}
def tC (G : Gm) (Wx : WX) (P : Pg) (xs : List Ex) : TT := fun t H Q => ∃ W s r s', W.H = H ∧ Fr G W s t ∧ evTA0 P xs s = some (r, s') ∧ EndT G Wx W s' t Q r
theorem ptsImp {es : List Expr} {t t' : TT} (h : PTs X es t) (i : ∀ σ H Q, t' σ H Q → t σ H Q) : PTs X es t' := ⟨fun pins s σ H Q I q => h.run pins s σ H Q I (i _ _ _ q)⟩
theorem c_nil : PTs X [] (tC G Wx P []) := ptsImp pts_nil fun t H Q ⟨W, s, r, s', hH, F, e, q⟩ => by
  subst hH
  unfold evTA0 at e
  cases e
  exact q W .refl F
theorem c_one (h : PT X a (tT G Wx P ea)) : PTs X [a] (tC G Wx P [ea]) := ptsImp (pts_one h) fun t H Q ⟨W, s, r, s', hH, F, e, q⟩ => by
  unfold evTA0 at e
  rcases M.bind_some e with ⟨b, s1, e1, e2⟩ | ⟨c, p, e1, e2⟩
  · cases b with
    | true =>
      rw [if_pos rfl] at e2
      unfold evTA0 at e2
      cases e2
      exact ⟨W, s, _, s', hH, F, e1, q⟩
    | false =>
      rw [if_neg (by decide)] at e2
      cases e2
      exact ⟨W, s, _, s', hH, F, e1, q⟩
  · subst e2
    exact ⟨W, s, _, s', hH, F, e1, q⟩
/-! a comprehension's turns, from a place on -/
def turnF (P : Pg) (pat : Pat) (own : List Nat) (cond : List Ex) (ee : Ex) : Bool → D → Stt → Option (Ou (Option Cell) × Stt) := fun pb d s => match bindP pat pb d (wipeE own s.r) with
  | some r' => ((evTA0 P cond).bind fun b => if b then ((evV P false ee).bind asC).bind fun c => M.ok (some c) else M.ok none) { s with r := r' }
  | none => none
theorem turn_some {pat : Pat} {own : List Nat} {cond : List Ex} {pb : Bool} {d : D} {s s' : Stt} {oc : Option Cell} (e : turnF P pat own cond ee pb d s = some (.ok oc, s')) :
    ∃ r' b s1, bindP pat pb d (wipeE own s.r) = some r' ∧ evTA0 P cond { s with r := r' } = some (.ok b, s1) ∧ ((b = true ∧ ∃ c, evR P ee s1 = some (.ok c, s') ∧ oc = some c) ∨ (b = false ∧ oc = none ∧ s' = s1)) := by
  unfold turnF at e
  split at e
  · rename_i r' hr
    rcases M.bind_some e with ⟨b, s1, e1, e2⟩ | ⟨c, p, e1, e2⟩
    · refine ⟨r', b, s1, hr, e1, ?_⟩
      cases b with
      | true =>
        rw [if_pos rfl] at e2
        rcases M.bind_some e2 with ⟨c, s2, e3, e4⟩ | ⟨c, p, e3, e4⟩
        · cases e4
          exact .inl ⟨rfl, c, e3, rfl⟩
        · cases e4
      | false =>
        rw [if_neg (by decide)] at e2
        cases e2
        exact .inr ⟨rfl, rfl, rfl⟩
    · cases e2
  · cases e
theorem compL_cons {g : Bool → D → Stt → Option (Ou (Option Cell) × Stt)} {pb : Bool} {d : D} {ds : List D} {s : Stt} {q : Bool × List D × Stt} (e : compL g pb (d :: ds) s = some q) :
    ∃ oc s1 q1, g pb d s = some (.ok oc, s1) ∧ compL g pb ds s1 = some q1 ∧ ((oc = none ∧ q = q1) ∨ (∃ x, (oc = some (.fz x) ∨ oc = some (.own x)) ∧ q = (q1.1, x :: q1.2.1, q1.2.2)) ∨ ∃ x, oc = some (.br x) ∧ q = (true, x :: q1.2.1, q1.2.2)) := by
  unfold compL at e
  split at e
  · rename_i x s1 h
    obtain ⟨q1, h1, h2⟩ := Option.map_eq_some_iff.mp e
    exact ⟨_, s1, q1, h, h1, .inr (.inl ⟨x, .inl rfl, h2.symm⟩)⟩
  · rename_i x s1 h
    obtain ⟨q1, h1, h2⟩ := Option.map_eq_some_iff.mp e
    exact ⟨_, s1, q1, h, h1, .inr (.inl ⟨x, .inr rfl, h2.symm⟩)⟩
  · rename_i x s1 h
    obtain ⟨q1, h1, h2⟩ := Option.map_eq_some_iff.mp e
    exact ⟨_, s1, q1, h, h1, .inr (.inr ⟨x, rfl, h2.symm⟩)⟩
  · rename_i s1 h
    exact ⟨_, s1, q, h, e, .inl ⟨rfl, rfl⟩⟩
  · cases e
theorem tz_srcs {W W' : Wd} {pb : Bool} : ∀ {qs : List (Md × D)} {vs : List V}, Paired (ArgT G W) qs vs → (∀ z ∈ qs, isBp z = true → pb = true) → SrcY G pb (qs.map (·.2)) vs W := fun h i => args_tz i h
theorem v_comp (C : Cxt X G) {it : It} {pat : Pat} {src cond : List Ex} {ifs : List Expr} {scope : Scope} {own : List (Str × Nat)} (hi : PI X tg iter (tIt G Wx P it src)) (ok : BlkOk X.N X.env.scope scope own)
    (hg : ∀ (s : Shared) (H : Hp) (C : Addr) (cl : List (Str × Addr)) (fp : List Addr), PG (X.blk s H scope (compEnvC scope cl C X.env) fp) tg (gPat X.K pat))
    (ht : ∀ (s : Shared) (H : Hp) (C : Addr) (cl : List (Str × Addr)) (fp : List Addr), PTs (X.blk s H scope (compEnvC scope cl C X.env) fp) ifs (tC G WxF P cond))
    (he : ∀ (s : Shared) (H : Hp) (C : Addr) (cl : List (Str × Addr)) (fp : List Addr), PE (X.blk s H scope (compEnvC scope cl C X.env) fp) elt (tV G WxF P false ee))
    (hp : ∀ i ∈ patIs pat, i ∈ own.map (·.2)) :
    ∀ t H Q, tV G Wx P f (.comp ee pat it src cond (own.map (·.2))) t H Q → tLc (tIt G Wx P it src) (gPat X.K pat) (tC G WxF P cond) (tR G WxF P ee) (own.map (·.2)) t H Q := by
  intro t H Q ⟨W, s, r, s', hH, F, e, q⟩
  subst hH
  unfold evV at e
  have tr := F.rel.trk
  rcases M.bind_some e with ⟨qs, s1, e1, e2⟩ | ⟨c, p, e1, e2⟩
  · refine ⟨W, s, _, s1, rfl, F, e1, ?_⟩
    cases hit : itD it (qs.map (·.2)) with
    | none => rw [hit] at e2; cases e2
    | some items =>
    rw [hit] at e2
    simp only at e2
    split at e2
    · rename_i hlen
      refine ⟨items, hit, fun W1 vs J x1 F1 pv wk D hD => ?_⟩
      obtain ⟨Wg, sg, s2, hgH, Fg, ag, eg, _, back⟩ := guardLs_ok pv F1 e2
      have trg := Fg.rel.trk
      have eg : (match compL (turnF P pat (own.map (·.2)) cond ee) (qs.any isBp) items { sg with r := wipeE (own.map (·.2)) sg.r } with
        | some (p, ds, s') => some (Ou.ok (Vl.nw (cellNew p (.lst ds))), ({ s' with r := wipeE (own.map (·.2)) s'.r } : Stt))
        | none => none) = some (r, s2) := eg
      cases hc : compL (turnF P pat (own.map (·.2)) cond ee) (qs.any isBp) items { sg with r := wipeE (own.map (·.2)) sg.r } with
      | none => rw [hc] at eg; cases eg
      | some qf =>
      obtain ⟨pf, dsf, sf⟩ := qf
      rw [hc] at eg
      cases eg
      have hDg : Wg.H D = none := by rw [hgH]; exact hD
      let Inv := fun (i m : Nat) (H : Hp) => ∃ Wi si accD accV pa, Evo false Wg Wi ∧ Wi.H D = none ∧ H = upd Wi.H D (.lst accV) ∧ Fr G Wi { si with r := wipeE (own.map (·.2)) si.r } (L2.wipe t (own.map (·.2))) ∧ RZs G (Wi.vw pa) accD accV ∧
        accD.length ≤ i ∧ m = items.length - i ∧ i ≤ items.length ∧ ∃ p' ds' se, compL (turnF P pat (own.map (·.2)) cond ee) (qs.any isBp) (items.drop i) si = some (p', ds', se) ∧ (pa || p') = pf ∧ accD ++ ds' = dsf ∧ se = sf
      refine ⟨Inv, ⟨items.length, Wg, _, [], [], false, .refl, hDg, by rw [hgH], Fg.wipe.unwipe.wipe, .nil, Nat.le_refl _, by simp, Nat.zero_le _, pf, dsf, sf, by simpa using hc, by simp, rfl, rfl⟩, ?_⟩
      rintro i m H ⟨Wi, si, accD, accV, pa, xi, hDi, hHi, Fi, ra, hla, hm, hile, p', ds', se, hcl, hp1, hp2, hp3⟩
      have tri := Fi.rel.trk
      have Yi : SrcY G (qs.any isBp) (qs.map (·.2)) vs Wi := tz_srcs (W' := Wi) (Paired.mapP ag fun q v h => h.stay xi trg) fun z hz hb => List.any_eq_true.mpr ⟨z, hz, hb⟩
      have gn : Grow Wi (Wi.nw D (.lst accV)) := .nw hDi
      have Yn : SrcY G (qs.any isBp) (qs.map (·.2)) vs (Wi.nw D (.lst accV)) := tz_srcs (W' := Wi) (Paired.mapP ag fun q v h => (h.stay xi trg).stay gn.evo tri) fun z hz hb => List.any_eq_true.mpr ⟨z, hz, hb⟩
      have hHn : (Wi.nw D (.lst accV)).H = H := hHi.symm
      by_cases hlt : i < items.length
      · -- one turn
        refine .inr ⟨by rw [← hHn]; exact wk.go _ i Yn hlt, fun H' => ∃ m', m' < m ∧ Inv (i + 1) m' H', fun H' h => h, fun x H' yl => ?_⟩
        rw [← hHn] at yl
        have hdrop : items.drop i = items[i] :: items.drop (i + 1) := List.drop_eq_getElem_cons hlt
        obtain ⟨W', hW', g', rz⟩ := wk.yld _ i x H' items[i] Yn (List.getElem?_eq_getElem hlt) yl
        rw [hdrop] at hcl
        obtain ⟨oc, s3, q1, h1, h2, h3⟩ := compL_cons hcl
        obtain ⟨r', bb, s4, hb1, hb2, hb3⟩ := turn_some h1
        have Fn := gn.fr Fi
        have F' := g'.fr Fn
        rw [← hW']
        refine patOk C.K (own := own.map (·.2)) F' rz hb1 hp fun t' F4 st => ?_
        refine ⟨wipe_of st, W', _, _, s4, rfl, F4, hb2, fun W4 x4 F5 => ?_⟩
        -- D as it stands while others run
        have gD : (Wi.nw D (.lst accV)).g D = none := Fi.rel.free hDi
        have hDn : (Wi.nw D (.lst accV)).H D = some (.lst accV) := upd_same
        have hD' : W'.H D = some (.lst accV) := g'.H D _ hDn
        have gD' : W'.g D = none := by rw [g'.g]; exact gD
        have fin : ∀ {We : Wd} {se2 : Stt} {accD' : List Lk.D} {accV' : List V} {pa' : Bool} {HH : Hp}, Evo false (Wi.nw D (.lst accV)) We → Fr G We se2 t' → We.g D = none → (∃ vs, We.H D = some (.lst vs)) → HH = upd We.H D (.lst accV') → RZs G ((We.drop D).vw pa') accD' accV' → accD'.length ≤ i + 1 →
            (∃ p' ds' se, compL (turnF P pat (own.map (·.2)) cond ee) (qs.any isBp) (items.drop (i + 1)) se2 = some (p', ds', se) ∧ (pa' || p') = pf ∧ accD' ++ ds' = dsf ∧ se = sf) → ∃ m', m' < m ∧ Inv (i + 1) m' HH := fun {We se2 accD' accV' pa' HH} xe Fe ge he hH hra hl2 hrest => by
          obtain ⟨vs2, he⟩ := he
          refine ⟨items.length - (i + 1), by omega, We.drop D, se2, accD', accV', pa', xi.trans (drop_evo hDi xe) trg, drop_at, ?_, ?_, hra, hl2, rfl, hlt, hrest⟩
          · rw [hH]
            funext b
            unfold upd
            by_cases hb : b = D
            · rw [if_pos hb, if_pos hb]
            · rw [if_neg hb, if_neg hb, drop_ne hb]
          · have := (Fe.wipe (own := own.map (·.2))).drop ge he
            rw [wipe_of st] at this; exact this
        have x24 : Evo false (Wi.nw D (.lst accV)) W4 := g'.evo.trans x4 Fn.rel.trk
        have g4 : W4.g D = none := (x4.role D _ hD' (by rw [gD']; trivial)).trans gD'
        have h4 : W4.H D = some (.lst accV) := x4.keep D _ hD' (by rw [gD']; exact id)
        have accStay : ∀ {We : Wd} {pa2 : Bool}, Evo false (Wi.nw D (.lst accV)) We → We.g D = none → (∃ vs, We.H D = some (.lst vs)) → (pa = true → pa2 = true) → RZs G ((We.drop D).vw pa2) accD accV := fun {We pa2} xe ge he hpa => by
          obtain ⟨vs2, he⟩ := he
          have r1 : RZs G ((Wi.nw D (.lst accV)).vw pa) accD accV := ra.stay gn.vw
          have r2 : RZs G (We.vw pa) accD accV := by
            cases pa
            · exact r1.stay (xe.fz Fn.rel.trk)
            · exact r1.stay (xe.bp Fn.rel.trk)
          have r3 : RZs G ((We.drop D).vw pa) accD accV := r2.stay (drop_vw ge he)
          cases pa with
          | true => rw [hpa rfl]; exact r3
          | false => exact r3.stay fz_vw
        rcases hb3 with ⟨eb, c, hce, hoc⟩ | ⟨eb, hoc, hs4⟩
        · subst eb hoc
          show if true = true then _ else _
          rw [if_pos rfl]
          refine ⟨W4, s4, _, s3, rfl, F5, hce, fun W5 y x5 F6 cr => ?_⟩
          have x25 := x24.trans x5 Fn.rel.trk
          have g5 : W5.g D = none := (x5.role D _ h4 (by rw [g4]; trivial)).trans g4
          have h5 : W5.H D = some (.lst accV) := x5.keep D _ h4 (by rw [g4]; exact id)
          refine ⟨accV, h5, ?_, ?_⟩
          · rw [← ra.length]
            have := line_size hlen
            have hs : sizeLine = 16777216 := sizeLine_eq
            have hlen' : items.length ≤ 4000000 := hlen
            omega
          · -- the new item: in the world We
            have put : ∀ {We : Wd} {pa' : Bool} {x2 : Lk.D}, We.H = W5.H → Evo false (Wi.nw D (.lst accV)) We → Fr G We s3 t' → We.g D = none → RZ G (We.vw pa') x2 y → (pa = true → pa' = true) →
                (∃ p' ds' se, compL (turnF P pat (own.map (·.2)) cond ee) (qs.any isBp) (items.drop (i + 1)) s3 = some (p', ds', se) ∧ (pa' || p') = pf ∧ (accD ++ [x2]) ++ ds' = dsf ∧ se = sf) → ∃ m', m' < m ∧ Inv (i + 1) m' (upd W5.H D (.lst (accV ++ [y]))) := fun {We pa' x2} hWe xe Fe ge ry hpa hrest => by
              have he : We.H D = some (.lst accV) := by rw [hWe]; exact h5
              refine fin xe Fe ge ⟨_, he⟩ (by rw [hWe]) ((accStay xe ge ⟨_, he⟩ hpa).append (.cons (ry.stay (drop_vw ge he)) .nil)) (by simp; omega) hrest
            rcases h3 with ⟨z, _⟩ | ⟨x2, hx, hq⟩ | ⟨x2, hx, hq⟩
            · cases z
            · cases hq
              have hrest : ∃ p' ds' se, compL (turnF P pat (own.map (·.2)) cond ee) (qs.any isBp) (items.drop (i + 1)) s3 = some (p', ds', se) ∧ (pa || p') = pf ∧ (accD ++ [x2]) ++ ds' = dsf ∧ se = sf := ⟨q1.1, q1.2.1, q1.2.2, h2, hp1, by rw [List.append_assoc]; exact hp2, hp3⟩
              rcases hx with hx | hx
              · cases hx
                exact put (pa' := pa) rfl x25 F6 g5 (RZ.stay fz_vw cr) id hrest
              · cases hx
                obtain ⟨ay, ey, zy, ly, hy0⟩ := cr
                subst ey
                obtain ⟨F7, ry⟩ := claim_fro F6 ly zy
                have nD : D ≠ ay := fun z => by
                  subst z
                  rw [h4] at hy0; cases hy0
                have h0y : (Wi.nw D (.lst accV)).H ay = none := by
                  have := x24.hnone hy0
                  exact this
                exact put (We := W5.sg ay (some .fro)) (pa' := pa) rfl (x25.claim h0y Fn.rel.trk) F7 ((sg_ne nD).trans g5) (RZ.stay fz_vw ry) id hrest
            · cases hx
              cases hq
              refine put (pa' := true) rfl x25 F6 g5 cr (fun _ => rfl) ⟨q1.1, q1.2.1, q1.2.2, h2, by simpa using hp1, by rw [List.append_assoc]; exact hp2, hp3⟩
        · subst eb hoc
          show if false = true then _ else _
          rw [if_neg (by decide)]
          rcases h3 with ⟨_, hq⟩ | ⟨x2, hx, hq⟩ | ⟨x2, hx, hq⟩
          · subst hq hs4
            have hH4 : W4.H = upd W4.H D (.lst accV) := by
              funext b
              unfold upd
              by_cases hb : b = D
              · rw [if_pos hb, hb, h4]
              · rw [if_neg hb]
            exact fin x24 F5 g4 ⟨_, h4⟩ hH4 (accStay x24 g4 ⟨_, h4⟩ id) (by omega) ⟨p', ds', se, h2, hp1, hp2, hp3⟩
          · rcases hx with hx | hx <;> cases hx
          · cases hx
      · -- the end
        have hi' : i = items.length := by omega
        subst hi'
        have : items.drop items.length = [] := List.drop_length ..
        rw [this] at hcl
        unfold compL at hcl
        cases hcl
        simp only [Bool.or_false, List.append_nil] at hp1 hp2
        subst hp1 hp2 hp3
        refine .inl ⟨by rw [← hHn]; exact wk.stop _ _ Yn (Nat.le_refl _), ?_⟩
        rw [← hHn]
        have Fu := Fi.unwipe
        have h0 : ∀ a, Wi.H a = none → W.H a = none := fun a ha => x1.hnone (by rw [← hgH]; exact xi.hnone ha)
        obtain ⟨W3, u, F3⟩ := back (Wi.nw D (.lst accV)) (xi.trans gn.evo trg) (gn.fr Fu)
        have pr := new_pre (new_lst (G := G) (p := pa) hDi ra)
        obtain ⟨W5, h5, x5, F5, c5, _⟩ := pre_fin (W2 := Wi) (x1.trans u.evo tr) tr u.H u.fz u.bp (fun a ha => ⟨u.free a (by rw [gn.g]; exact Fi.rel.free ha), h0 a ha⟩) F3 pr
        rw [← h5]
        exact q W5 _ x5 F5 c5 fun z => by cases z
    · cases e2
  · subst e2
    exact ⟨W, s, _, s', rfl, F, e1, q⟩
end
end Lk

namespace Lk
open PySem L2 PyProof.Rows

/-! ### what stands at an address is changed -/
def chR : Option Role → Prop
  | some (.box _) => True
  | some (.fld _ _) => True
  | some (.slot _) => True
  | _ => False
section
variable {G : Gm} {W W' : Wd} {s s' : Stt} {t : L2.St} {x v : V} {d : D} {pb b : Bool} {a : Addr} {ho : HO} {S : Sto}
theorem chR_fz (h : chR (W.g a)) : W.g a ≠ some .fro := fun z => by rw [z] at h; exact h
theorem chR_bp (h : chR (W.g a)) : ¬ readP (W.g a) := fun z => by
  cases e : W.g a with
  | none => rw [e] at h; exact h
  | some r => rw [e] at h z; cases r <;> first | exact h | exact z
theorem put_fz (h : chR (W.g a)) (hn : ∀ vs, W.H a ≠ some (.tup vs)) : Stay W.fz (W.nw a ho).fz :=
  ⟨fun l hl => ⟨rfl, hl⟩, fun c vs e => (upd_ne (fun z => by subst z; exact hn vs e)).trans e, fun c o z e => ⟨z, (upd_ne (fun q => by subst q; exact chR_fz h z)).trans e⟩⟩
theorem put_bp (h : chR (W.g a)) (hn : ∀ vs, W.H a ≠ some (.tup vs)) : Stay W.bp (W.nw a ho).bp :=
  ⟨fun l hl => ⟨rfl, hl⟩, fun c vs e => (upd_ne (fun z => by subst z; exact hn vs e)).trans e, fun c o z e => ⟨z, (upd_ne (fun q => by subst q; exact chR_bp h z)).trans e⟩⟩
theorem put_evo (h : mutR b (W.g a)) (hc : chR (W.g a)) (hn : ∀ vs, W.H a ≠ some (.tup vs)) (tr : ∀ a r, W.g a = some r → ∃ o, W.H a = some o) : Evo b W (W.nw a ho) := by
  refine ⟨fun _ _ => rfl, fun c vs e => (upd_ne (fun z => by subst z; exact hn vs e)).trans e, fun c o e m => (upd_ne (fun z => by subst z; exact m h)).trans e, fun _ _ _ _ => rfl, fun _ _ _ e => .inl e, fun c o e => ?_, fun _ _ _ e => e, fun _ _ _ e => .inl e⟩
  by_cases z : c = a
  · subst z; exact ⟨ho, upd_same⟩
  · exact ⟨o, (upd_ne z).trans e⟩
theorem LR.put (h : chR (W.g a)) (hn : ∀ vs, W.H a ≠ some (.tup vs)) {c : Addr} (l : LR G W d c) (ne : c ≠ a) : LR G (W.nw a ho) d c := l.stay (put_fz h hn) (upd_ne ne)
/-! the boxed things but the one at l, where a is none of theirs -/
theorem put_fld {l k : Nat} {c : Cell} (h : chR (W.g a)) (hn : ∀ vs, W.H a ≠ some (.tup vs)) (x : FldR G W l k c v) (ne : W.g a ≠ some (.fld l k)) : FldR G (W.nw a ho) l k c v := by
  cases c with
  | fz d => exact RZ.stay (put_fz h hn) x
  | own d =>
    obtain ⟨b, e, g, q⟩ := x
    exact ⟨b, e, g, q.put h hn (fun z => by subst z; exact ne g)⟩
  | rd d =>
    obtain ⟨b, e', e, g, q, kk⟩ := x
    exact ⟨b, e', e, g, q.put h hn (fun z => by subst z; rw [g] at h; exact h), kk⟩
  | br d => exact x
theorem put_slt {i : Nat} {c : Cell} (h : chR (W.g a)) (hn : ∀ vs, W.H a ≠ some (.tup vs)) (x : SltR G W i c v) (ne : W.g a ≠ some (.slot i)) : SltR G (W.nw a ho) i c v := by
  cases c with
  | fz d => exact RZ.stay (put_fz h hn) x
  | own d =>
    obtain ⟨b, e, g, q⟩ := x
    exact ⟨b, e, g, q.put h hn (fun z => by subst z; exact ne g)⟩
  | rd d =>
    obtain ⟨b, e, g, q, kk⟩ := x
    exact ⟨b, e, g, q.put h hn (fun z => by subst z; rw [g] at h; exact h), kk⟩
  | br d => exact RZ.stay (put_bp h hn) x
theorem put_trk (tr : ∀ a r, W.g a = some r → ∃ o, W.H a = some o) : ∀ c r, (W.nw a ho).g c = some r → ∃ o, (W.nw a ho).H c = some o := fun c r e => by
  by_cases z : c = a
  · subst z; exact ⟨ho, upd_same⟩
  · obtain ⟨o, h⟩ := tr c r e
    exact ⟨o, (upd_ne z).trans h⟩
/-! a boxed thing is changed -/
theorem put_box {l : Nat} {o o' : Obj} (F : Fr G W s t) (hS : s.S[l]? = some o) (hn : ∀ vs, W.H (W.i l) ≠ some (.tup vs)) (new : ObjR G (W.nw (W.i l) ho) l o') : Fr G (W.nw (W.i l) ho) { s with S := s.S.set l o' } t := by
  have hb := (F.rel.box l o hS).1
  have hc : chR (W.g (W.i l)) := by rw [show W.g (W.i l) = _ from hb]; trivial
  have hl : l < s.S.length := (List.getElem?_eq_some_iff.mp hS).1
  have nf : ∀ l' k, W.g (W.i l) ≠ some (.fld l' k) := fun l' k z => by rw [show W.g (W.i l) = _ from hb] at z; cases z
  have ns : ∀ i, W.g (W.i l) ≠ some (.slot i) := fun i z => by rw [show W.g (W.i l) = _ from hb] at z; cases z
  refine ⟨⟨fun l' u e => ?_, fun l' h => F.rel.top l' (by simpa using h), put_trk F.rel.trk⟩, F.len, fun i c e => ?_⟩
  · have e : (s.S.set l o')[l']? = some u := e
    by_cases z : l' = l
    · subst z
      rw [List.getElem?_set_self hl] at e
      cases e
      exact ⟨hb, new⟩
    · rw [List.getElem?_set_ne (Ne.symm z)] at e
      obtain ⟨hb', q⟩ := F.rel.box l' u e
      refine ⟨hb', q.stay (put_fz hc hn) hb' (upd_ne fun ez => ?_) fun c k v z => put_fld hc hn z (nf _ _)⟩
      have hb' : W.g (W.i l') = some (.box l') := hb'
      rw [ez, show W.g (W.i l) = _ from hb] at hb'
      cases hb'; exact z rfl
  · obtain ⟨v, e1, q⟩ := F.slt i c e
    exact ⟨v, e1, put_slt hc hn q (ns _)⟩
/-! a slot's own list is changed -/
theorem put_slot {i : Nat} {d d' : D} (F : Fr G W s t) (hr : s.r[i]? = some (some (.own d))) (hv : t[i]? = some (some (.ref a))) (hg : W.g a = some (.slot i)) (hn : ∀ vs, W.H a ≠ some (.tup vs)) (new : LR G (W.nw a ho) d' a) :
    Fr G (W.nw a ho) { s with r := s.r.set i (some (.own d')) } t := by
  have hc : chR (W.g a) := by rw [hg]; trivial
  have hl : i < s.r.length := (List.getElem?_eq_some_iff.mp hr).1
  refine ⟨⟨fun l' u e => ?_, F.rel.top, put_trk F.rel.trk⟩, by simpa using F.len, fun j c e => ?_⟩
  · obtain ⟨hb', q⟩ := F.rel.box l' u e
    refine ⟨hb', q.stay (put_fz hc hn) hb' (upd_ne fun ez => ?_) fun c k v z => put_fld hc hn z (by rw [hg]; intro z; cases z)⟩
    have hb' : W.g (W.i l') = some (.box l') := hb'
    rw [ez, hg] at hb'
    cases hb'
  · have e : (s.r.set i (some (.own d')))[j]? = some (some c) := e
    by_cases z : j = i
    · subst z
      rw [List.getElem?_set_self hl] at e
      cases e
      exact ⟨_, hv, a, rfl, hg, new⟩
    · rw [List.getElem?_set_ne (Ne.symm z)] at e
      obtain ⟨v, e1, q⟩ := F.slt j c e
      exact ⟨v, e1, put_slt hc hn q (by rw [hg]; intro q; cases q; exact z rfl)⟩
/-! a field's own list is changed -/
theorem put_field {l k : Nat} {d d' : D} (F : Fr G W s t) (hr : getFld l k s.S = some (.own d)) (hv : FldAt W l k (.ref a)) (hg : W.g a = some (.fld l k)) (hn : ∀ vs, W.H a ≠ some (.tup vs)) (new : LR G (W.nw a ho) d' a) :
    Fr G (W.nw a ho) { s with S := setFld l k (.own d') s.S } t := by
  have hc : chR (W.g a) := by rw [hg]; trivial
  obtain ⟨cl, fs, e1, e2⟩ := getFld_some hr
  have hl : l < s.S.length := (List.getElem?_eq_some_iff.mp e1).1
  have hk : k < fs.length := (List.getElem?_eq_some_iff.mp e2).1
  have eS : setFld l k (.own d') s.S = s.S.set l (.ins cl (fs.set k (.own d'))) := by unfold setFld; rw [e1]
  refine ⟨⟨fun l' u e => ?_, fun l' h => F.rel.top l' (by rw [eS] at h; simpa using h), put_trk F.rel.trk⟩, F.len, fun j c e => ?_⟩
  · have e : (setFld l k (.own d') s.S)[l']? = some u := e
    rw [eS] at e
    have nb : ∀ {m : Nat}, W.B m → W.i m ≠ a := fun {m} hm z => by
      have hm : W.g (W.i m) = _ := hm
      rw [z, hg] at hm; cases hm
    by_cases z : l' = l
    · subst z
      rw [List.getElem?_set_self hl] at e
      cases e
      obtain ⟨hb, dx, vs, h1, h2, h3, h4⟩ := F.rel.box l' _ e1
      refine ⟨hb, dx, vs, (upd_ne (nb hb)).trans h1, by rw [List.length_set]; exact h2, by rw [List.length_set]; exact h3, fun k' x v e3 e4 => ?_⟩
      by_cases zk : k' = k
      · subst zk
        rw [List.getElem?_set_self hk] at e3
        cases e3
        have : v = .ref a := (fld_zip h1 (by omega) e4).uniq hv
        exact ⟨a, this, hg, new⟩
      · rw [List.getElem?_set_ne (Ne.symm zk)] at e3
        exact put_fld hc hn (h4 k' x v e3 e4) (by rw [hg]; intro q; cases q; exact zk rfl)
    · rw [List.getElem?_set_ne (Ne.symm z)] at e
      obtain ⟨hb', q⟩ := F.rel.box l' u e
      exact ⟨hb', q.stay (put_fz hc hn) hb' (upd_ne (nb hb')) fun c k' v y => put_fld hc hn y (by rw [hg]; intro q; cases q; exact z rfl)⟩
  · obtain ⟨v, e3, q⟩ := F.slt j c e
    exact ⟨v, e3, put_slt hc hn q (by rw [hg]; intro q; cases q)⟩
end

/-! ### statements -/
def RetR (G : Gm) (W W' : Wd) : Cell → V → Prop
  | .fz d, v => RZ G W'.fz d v
  | .own d, v => ∃ a, v = .ref a ∧ LR G W' d a ∧ ((∃ i, W'.g a = some (.slot i)) ∨ (W'.g a = none ∧ W.H a = none))
  | _, _ => False
def EndF (G : Gm) (Wx : WX) (W : Wd) (s' : Stt) (D : Ends) : Ou Fl → Prop
  | .ok .next => ∀ W' t', Evo true W W' → Fr G W' s' t' → D.nx t' W'.H
  | .ok .brk => ∀ W' t', Evo true W W' → Fr G W' s' t' → D.bk t' W'.H
  | .ok .cnt => ∀ W' t', Evo true W W' → Fr G W' s' t' → D.ct t' W'.H
  | .ok (.ret c) => ∀ W' t' v, Evo true W W' → Fr G W' s' t' → RetR G W W' c v → D.rt v W'.H
  | .ex c p => ∀ W' t' dx, Evo true W W' → Fr G W' s' t' → ExR G W' p dx → Wx (.ref (G.E c)) dx t' W'.H
def tS (G : Gm) (Wx : WX) (P : Pg) (n : Nat) (st : St) : TS := fun D σ H => ∃ W s r s', W.H = H ∧ Fr G W s σ ∧ exec P n st s = some (r, s') ∧ EndF G Wx W s' D r
def tSs' (G : Gm) (Wx : WX) (P : Pg) (n : Nat) (sts : List St) : TS := fun D σ H => ∃ W s r s', W.H = H ∧ Fr G W s σ ∧ execs P n sts s = some (r, s') ∧ EndF G Wx W s' D r
section
variable {X : Cx} {G : Gm} {Wx : WX} {P : Pg} {n : Nat} {a b c o e tg iter : Expr} {ea eb ec eo ee : Ex} {pos apos p : Pos} {f : Bool} {es : List Expr} {xs : List Ex} {sts : List Stmt} {st : Stmt} {x1 : St} {xss : List St}
theorem psImp {t t' : TS} (h : PS X st t) (i : ∀ D σ H, t' D σ H → t D σ H) : PS X st t' := ⟨fun pins s σ H D I q => h.run pins s σ H D I (i _ _ _ q)⟩
theorem pssImp {t t' : TS} (h : PSs X sts t) (i : ∀ D σ H, t' D σ H → t D σ H) : PSs X sts t' := ⟨fun pins s σ H D I q => h.run pins s σ H D I (i _ _ _ q)⟩
theorem endF_trans {W W1 : Wd} {s' : Stt} {D : Ends} {r : Ou Fl} (x : Evo true W W1) (tr : ∀ a r, W.g a = some r → ∃ o, W.H a = some o) (q : EndF G Wx W s' D r) : EndF G Wx W1 s' D r := by
  cases r with
  | ex c p => exact fun W' t' dx x' F' hx => q W' t' dx (x.trans x' tr) F' hx
  | ok f =>
    cases f with
    | next => exact fun W' t' x' F' => q W' t' (x.trans x' tr) F'
    | brk => exact fun W' t' x' F' => q W' t' (x.trans x' tr) F'
    | cnt => exact fun W' t' x' F' => q W' t' (x.trans x' tr) F'
    | ret c =>
      intro W' t' v x' F' hv
      refine q W' t' v (x.trans x' tr) F' ?_
      cases c with
      | own d =>
        obtain ⟨a, e, l, h⟩ := hv
        exact ⟨a, e, l, h.imp id fun ⟨g, h0⟩ => ⟨g, x.hnone h0⟩⟩
      | _ => exact hv
theorem ss_nil : PSs X [] (tSs' G Wx P n []) := pssImp pss_nil fun D t H ⟨W, s, r, s', hH, F, e, q⟩ => by
  subst hH
  unfold execs at e
  cases e
  exact q W t .refl F
theorem ss_cons (h : PS X st (tS G Wx P n x1)) (hs : PSs X sts (tSs' G Wx P n xss)) : PSs X (st :: sts) (tSs' G Wx P n (x1 :: xss)) := by
  refine pssImp (pss_cons h hs) fun D t H ⟨W, s, r, s', hH, F, e, q⟩ => ?_
  unfold execs at e
  rcases M.bind_some e with ⟨f, s1, e1, e2⟩ | ⟨c, p, e1, e2⟩
  · refine ⟨W, s, _, s1, hH, F, e1, ?_⟩
    cases f with
    | next => exact fun W1 t1 x1 F1 => ⟨W1, s1, r, s', rfl, F1, e2, endF_trans x1 F.rel.trk q⟩
    | brk => cases e2; exact q
    | cnt => cases e2; exact q
    | ret c => cases e2; exact q
  · subst e2
    exact ⟨W, s, _, s', hH, F, e1, q⟩
theorem s_pass : PS X (.Pass pos) (tS G Wx P n .pass) := psImp ps_pass fun D t H ⟨W, s, r, s', hH, F, e, q⟩ => by
  subst hH
  unfold exec at e
  cases e
  exact q W t .refl F
theorem s_brk : PS X (.Break pos) (tS G Wx P n .brk) := psImp ps_break fun D t H ⟨W, s, r, s', hH, F, e, q⟩ => by
  subst hH
  unfold exec at e
  cases e
  exact q W t .refl F
theorem s_cnt : PS X (.Continue pos) (tS G Wx P n .cnt) := psImp ps_continue fun D t H ⟨W, s, r, s', hH, F, e, q⟩ => by
  subst hH
  unfold exec at e
  cases e
  exact q W t .refl F
theorem s_nev {st : Stmt} : PS X st (tS G Wx P n .nev) := psImp ps_never fun D t H ⟨W, s, r, s', hH, F, e, q⟩ => by
  unfold exec at e
  cases e
theorem s_retN : PS X (.Return none pos) (tS G Wx P n .retN) := psImp ps_retN fun D t H ⟨W, s, r, s', hH, F, e, q⟩ => by
  subst hH
  unfold exec at e
  cases e
  exact q W t .non .refl F .non
theorem s_ite {A B : List Stmt} {ya yb : List St} (hc : PT X c (tT G Wx P ec)) (ha : PSs X A (tSs' G Wx P n ya)) (hb : PSs X B (tSs' G Wx P n yb)) : PS X (.If c A B pos) (tS G Wx P n (.ite ec ya yb)) := by
  refine psImp (ps_if hc ha hb) fun D t H ⟨W, s, r, s', hH, F, e, q⟩ => ?_
  unfold exec at e
  rcases M.bind_some e with ⟨b, s1, e1, e2⟩ | ⟨c, p, e1, e2⟩
  · refine ⟨W, s, _, s1, hH, F, e1, fun W1 x1 F1 => ?_⟩
    have q1 := endF_trans x1.weak F.rel.trk q
    cases b with
    | true =>
      show if true = true then _ else _
      rw [if_pos rfl]
      exact ⟨W1, s1, r, s', rfl, F1, e2, q1⟩
    | false =>
      show if false = true then _ else _
      rw [if_neg (by decide)]
      exact ⟨W1, s1, r, s', rfl, F1, e2, q1⟩
  · subst e2
    exact ⟨W, s, _, s', hH, F, e1, fun W' dx x' F' hx => q W' t dx x'.weak F' hx⟩
def notComp : Expr → Bool
  | .ListComp _ _ _ _ => false
  | .SetComp _ _ _ _ => false
  | .DictComp _ _ _ _ _ => false
  | _ => true
theorem no_swap {e : Expr} {t : Option Expr} {l : Nat} {env : PySem.Env} (h : notComp e = true) : swapsWith e t l env = pure false := by
  cases e <;> first | rfl | cases h
theorem s_exp (he : PE X e (tV G Wx P false ee)) (hc : notComp e = true) : PS X (.Expr e pos) (tS G Wx P n (.exp ee)) := by
  refine psImp (ps_expr (peR he) (no_swap hc)) fun D t H ⟨W, s, r, s', hH, F, e, q⟩ => ?_
  unfold exec at e
  rcases M.bind_some e with ⟨c, s1, e1, e2⟩ | ⟨c, p, e1, e2⟩
  · cases e2
    exact ⟨W, s, _, s', hH, F, e1, fun W1 v x1 F1 _ => q W1 t x1.weak F1⟩
  · subst e2
    exact ⟨W, s, _, s', hH, F, e1, fun W' dx x' F' hx => q W' t dx x'.weak F' hx⟩
theorem asg_imp {i : Nat} {D : Ends} {t : L2.St} {H : Hp} (h : tS G Wx P n (.asg i ee) D t H) : tR G Wx P ee t H fun x H1 => gName i x t H1 D.nx := by
  obtain ⟨W, s, r, s', hH, F, e, q⟩ := h
  unfold exec at e
  rcases M.bind_some e with ⟨c, s1, e1, e2⟩ | ⟨c, p, e1, e2⟩
  · refine ⟨W, s, _, s1, hH, F, e1, fun W1 v x1 F1 hv => ?_⟩
    cases e2
    show D.nx (t.set i (some v)) W1.H
    cases c with
    | fz d => exact q W1 _ x1.weak (F1.set (c := .fz d) hv)
    | br d => exact q W1 _ x1.weak (F1.set (c := .br d) hv)
    | rd d => exact hv.elim
    | own d =>
      obtain ⟨a, e, g, l, h0⟩ := hv
      subst e
      refine q (W1.sg a (some (.slot i))) _ (x1.weak.claim h0 F.rel.trk) ((F1.claim g l.there (fun _ z => by cases z)).set (c := .own d) ⟨a, rfl, sg_at, sg_LR (by rw [g]; trivial) l⟩)
  · subst e2
    exact ⟨W, s, _, s', hH, F, e1, fun W' dx x' F' hx => q W' t dx x'.weak F' hx⟩
theorem s_asg {i : Nat} {y : Str} (C : Cxt X G) (hi : X.N[i]? = some y) (hy : Loc X.env.scope y) (hf : X.fn y = true ∨ X.env.scope.names.lookup y = some .local) (he : PE X e (tV G Wx P false ee)) (hc : notComp e = true) : PS X (.Assign [.Name y p] e pos) (tS G Wx P n (.asg i ee)) :=
  psImp (ps_set C.nd hi hy (peR he) (no_swap hc) hf) fun D t H h => asg_imp h
theorem tR_tV {t : L2.St} {H : Hp} {Q : VK} (h : tR G Wx P ee t H Q) : tV G Wx P false ee t H Q := by
  obtain ⟨W, s, r, s', hH, R, e, q⟩ := h
  unfold evR at e
  rcases M.bind_some e with ⟨vl, s1, e1, e2⟩ | ⟨c, p, e1, e2⟩
  · refine ⟨W, s, _, s1, hH, R, e1, fun W' v x R' hv hs => ?_⟩
    cases vl with
    | pl m d =>
      cases r with
      | ex c p => exact (settle_noex e2).elim
      | ok c =>
        obtain ⟨W2, h2, x2, R2, p2⟩ := settle_ok (q := (m, d)) x R.rel.trk R' hv e2
        rw [← h2]
        exact q W2 v x2 R2 p2
    | nw c =>
      cases e2
      exact q W' v x R' hv
  · subst e2
    exact ⟨W, s, _, s', hH, R, e1, q⟩
theorem s_ret (he : PE X e (tV G Wx P false ee)) : PS X (.Return (some e) pos) (tS G Wx P n (.ret ee)) := by
  refine psImp (ps_ret he) fun D t H ⟨W, s, r, s', hH, F, e, q⟩ => ?_
  unfold exec at e
  rcases M.bind_some e with ⟨vl, s1, e1, e2⟩ | ⟨c, p, e1, e2⟩
  · refine ⟨W, s, _, s1, hH, F, e1, fun W1 v x1 F1 hv _ => ?_⟩
    have gen : (asC vl).bind (fun c => (match c with | .br _ => M.of none | c => M.ok (Fl.ret c))) s1 = some (r, s') → (∀ i d, vl ≠ .pl (.sl i) d) → D.rt v W1.H := fun e2 nsl => by
      rcases M.bind_some e2 with ⟨c, s2, e3, e4⟩ | ⟨c, p, e3, e4⟩
      · have key : ∀ {W2 : Wd}, W2.H = W1.H → Evo false W W2 → Fr G W2 s2 t → CelR G W W2 c v → D.rt v W1.H := fun {W2} h2 x2 F2 hc => by
          rw [← h2]
          cases c with
          | fz d => cases e4; exact q W2 t v x2.weak F2 hc
          | own d =>
            cases e4
            obtain ⟨a, ea, g, l, h0⟩ := hc
            exact q W2 t v x2.weak F2 ⟨a, ea, l, .inr ⟨g, h0⟩⟩
          | br d => cases e4
          | rd d => exact hc.elim
        cases vl with
        | pl m d =>
          obtain ⟨W2, h2, x2, F2, p2⟩ := settle_ok (q := (m, d)) x1 F.rel.trk F1 hv e3
          exact key h2 x2 F2 p2
        | nw c' =>
          cases e3
          exact key rfl x1 F1 hv
      · cases vl with
        | pl m d => exact (settle_noex e3).elim
        | nw c' => cases e3
    cases vl with
    | pl m d =>
      cases m with
      | sl i =>
        have e2 : (match s1.r[i]? with
          | some (some (.own d)) => some (Ou.ok (Fl.ret (.own d)), s1)
          | _ => none) = some (r, s') := e2
        split at e2
        · rename_i d' hd
          cases e2
          obtain ⟨ev, a, ea, _, _⟩ := hv
          obtain ⟨w, e5, b, eb, g, l⟩ := F1.slt i _ hd
          rw [ev] at e5
          cases e5
          exact q W1 t v x1.weak F1 ⟨b, eb, l, .inl ⟨i, g⟩⟩
        · cases e2
      | _ => exact gen e2 (fun _ _ z => by cases z)
    | nw c => exact gen e2 (fun _ _ z => by cases z)
  · subst e2
    exact ⟨W, s, _, s', hH, F, e1, fun W' dx x' F' hx => q W' t dx x'.weak F' hx⟩
/-! while -/
theorem s_whl {body : List Stmt} {xb : List St} (po : PassesOwn (model X.prog X.w) X.A X.env X.xe) (hc : PT X c (tT G Wx P ec)) (hb : PSs X body (tSs' G Wx P n xb)) : PS X (.While c body [] pos) (tS G Wx P n (.whl ec xb)) := by
  refine psImp (ps_while po hc hb) fun D t H ⟨W, s, r, s', hH, F, e, q⟩ => ?_
  unfold exec at e
  refine ⟨fun m t H => ∃ W1 s1, W1.H = H ∧ Fr G W1 s1 t ∧ Evo true W W1 ∧ whlL (evT P ec) (execs P n xb) m s1 = some (r, s'), ⟨n, W, s, hH, F, .refl, e⟩, ?_⟩
  rintro m t1 H1 ⟨W1, s1, h1, F1, x1, e1⟩
  cases m with
  | zero => cases e1
  | succ m =>
    unfold whlL at e1
    have tr := F.rel.trk
    rcases M.bind_some e1 with ⟨b, s2, e2, e3⟩ | ⟨c, p, e2, e3⟩
    · refine ⟨W1, s1, _, s2, h1, F1, e2, fun W2 x2 F2 => ?_⟩
      have x12 := x1.trans x2.weak tr
      cases b with
      | false =>
        show if false = true then _ else _
        rw [if_neg (by decide)]
        cases e3
        exact q W2 t1 x12 F2
      | true =>
        show if true = true then _ else _
        rw [if_pos rfl]
        rw [if_pos rfl] at e3
        refine ⟨fun t H => ∃ W1 s1, W1.H = H ∧ Fr G W1 s1 t ∧ Evo true W W1 ∧ whlL (evT P ec) (execs P n xb) m s1 = some (r, s'), fun t' H' h => ⟨m, Nat.lt_succ_self _, h⟩, ?_⟩
        cases eb : execs P n xb s2 with
        | none => rw [eb] at e3; cases e3
        | some z =>
        obtain ⟨rb, s3⟩ := z
        rw [eb] at e3
        refine ⟨W2, s2, rb, s3, rfl, F2, eb, ?_⟩
        cases rb with
        | ex c p => cases e3; exact endF_trans (r := .ex c p) x12 tr q
        | ok f =>
          cases f with
          | next => exact fun W3 t3 x3 F3 => ⟨W3, s3, rfl, F3, x12.trans x3 tr, e3⟩
          | cnt => exact fun W3 t3 x3 F3 => ⟨W3, s3, rfl, F3, x12.trans x3 tr, e3⟩
          | brk =>
            cases e3
            exact fun W3 t3 x3 F3 => q W3 t3 (x12.trans x3 tr) F3
          | ret c =>
            cases e3
            exact endF_trans (r := .ok (.ret c)) x12 tr q
    · subst e3
      exact ⟨W1, s1, _, s', h1, F1, e2, fun W' dx x' F' hx => q W' t1 dx (x1.trans x'.weak tr) F' hx⟩
end
end Lk

namespace Lk
open PySem L2 PyProof.Rows

/-! ### for -/
def srcL : Option Role → Prop
  | some .fro => True
  | some .brw => True
  | some (.rdf _ _ _) => True
  | some (.rds _) => True
  | _ => False
/-! what is walked, while its loop runs -/
def SrcR (G : Gm) (W : Wd) (q : Md × D) (v : V) : Prop :=
  match q.1 with
  | .fz => RZ G W.fz q.2 v
  | .bp => RZ G W.bp q.2 v
  | _ => ∃ a, v = .ref a ∧ LR G W q.2 a ∧ srcL (W.g a)
structure UnlF (G : Gm) (W W2 W3 : Wd) : Prop where
  H : W3.H = W2.H
  evo : Evo true W W3
  fz : Stay W2.fz W3.fz
  bp : Stay W2.bp W3.bp
  free : ∀ c, W2.g c = none → W3.g c = none
  slot : ∀ c j, W2.g c = some (.slot j) → W3.g c = some (.slot j)
section
variable {G : Gm} {W W' : Wd} {s s' : Stt} {t : L2.St} {v : V} {d : D} {m : Md}
theorem SrcR.stay {q : Md × D} (x : Evo true W W') (tr : ∀ a r, W.g a = some r → ∃ o, W.H a = some o) (h : SrcR G W q v) : SrcR G W' q v := by
  have own : (∃ a, v = .ref a ∧ LR G W q.2 a ∧ srcL (W.g a)) → ∃ a, v = .ref a ∧ LR G W' q.2 a ∧ srcL (W'.g a) := fun ⟨a, e, l, r⟩ => by
    obtain ⟨o, ho⟩ := l.there
    refine ⟨a, e, l.evo x tr ?_, ?_⟩
    · cases e : W.g a with
      | none => exact id
      | some z =>
        rw [e] at r
        cases z <;> first | exact id | exact r.elim
    · cases e : W.g a with
      | none => rw [e] at r; exact r.elim
      | some z =>
        rw [e] at r
        cases z with
        | slot j => exact r.elim
        | fld l k => exact r.elim
        | box l => exact r.elim
        | _ => rw [x.role a o ho (by rw [e]; trivial), e]; exact r
  obtain ⟨m, d⟩ := q
  cases m with
  | fz => exact RZ.stay (x.fz tr) h
  | bp => exact RZ.stay (x.bp tr) h
  | sl i => exact own h
  | fl l k => exact own h
theorem SrcR.tz {z : Md × D} (h : SrcR G W z v) : TZ G W (isBp z) z.2 v := by
  obtain ⟨m, d⟩ := z
  cases m with
  | fz => exact .inl h
  | bp => exact PlR.tz (t := []) (m := .bp) h
  | sl i => obtain ⟨a, e, l, _⟩ := h; exact .inr ⟨a, e, l.lp⟩
  | fl l k => obtain ⟨a, e, l, _⟩ := h; exact .inr ⟨a, e, l.lp⟩
theorem srcs_tz {pb : Bool} : ∀ {qs : List (Md × D)} {vs : List V} (i : ∀ z ∈ qs, isBp z = true → pb = true), Paired (SrcR G W) qs vs → SrcY G pb (qs.map (·.2)) vs W
  | _, _, _, .nil => .nil
  | _, _, i, .cons r t => .cons ((SrcR.tz r).up (i _ (List.mem_cons_self ..))) (srcs_tz (fun z hz => i z (List.mem_cons_of_mem _ hz)) t)
/-! what a lock keeps -/
structure Lck (G : Gm) (W W1 : Wd) (t : L2.St) : Prop where
  src : ∀ q z, SrcR G W q z → SrcR G W1 q z
  pl : ∀ m d z, PlR G W t m d z → PlR G W1 t m d z
theorem lockS_ok {α : Type} {i : Nat} {x : M α} {r : Ou α} (F : Fr G W s t) (hp : PlR G W t (.sl i) d v) (e : lockS i x s = some (r, s')) :
    ∃ W1 s1 s2, W1.H = W.H ∧ Fr G W1 s1 t ∧ SrcR G W1 (.sl i, d) v ∧ Lck G W W1 t ∧ x s1 = some (r, s2) ∧ ∀ W2 t2, Evo true W1 W2 → Fr G W2 s2 t2 → ∃ W3, UnlF G W W2 W3 ∧ Fr G W3 s' t2 := by
  obtain ⟨et, a, ev, hr, l⟩ := hp
  unfold lockS at e
  split at e
  · rename_i d0 hd
    obtain ⟨w, ew, b, eb, gb, lb⟩ := F.slt i _ hd
    rw [et] at ew
    cases ew
    rw [ev] at eb
    cases eb
    have lo : loose (W.g a) := by rw [gb]; trivial
    -- locked
    let W1 : Wd := ⟨(W.sg a (some (.rds i))).g, W.i, W.H, fun l' k' => if (l', k') = (i, 0) then some a else W.k l' k'⟩
    have k1 : W1.k i 0 = some a := if_pos rfl
    have ko : ∀ l' k', (l', k') ≠ (i, 0) → W1.k l' k' = W.k l' k' := fun l' k' h => if_neg h
    have g1 : W1.g a = some (.rds i) := sg_at
    have go : ∀ c, c ≠ a → W1.g c = W.g c := fun c h => sg_ne h
    have yf : Stay W.fz W1.fz := ⟨fun l hl => ⟨rfl, sg_B lo hl⟩, fun _ _ e => e, fun c o z e => ⟨(sg_fz lo).z c o z e |>.1, e⟩⟩
    have yb : Stay W.bp W1.bp := ⟨fun l hl => ⟨rfl, sg_B lo hl⟩, fun _ _ e => e, fun c o z e => ⟨(sg_bp lo (by rw [gb]; exact False.elim)).z c o z e |>.1, e⟩⟩
    have F1 : Fr G W1 { s with r := s.r.set i (some (.rd d0)) } t := by
      refine ⟨⟨fun l' o h => ?_, fun l' h z => sg_top F.rel.top (fun _ q => by cases q) l' h z, sg_trk F.rel.trk lb.there⟩, by simpa using F.len, fun j c h => ?_⟩
      · obtain ⟨hb, q⟩ := F.rel.box l' o h
        refine ⟨sg_B lo hb, q.stay yf hb rfl fun c k v z => ?_⟩
        cases c with
        | fz d => exact RZ.stay yf z
        | own d => obtain ⟨c, e, g, q⟩ := z; exact ⟨c, e, (go c (fun z => by subst z; rw [gb] at g; cases g)).trans g, q.stay yf rfl⟩
        | rd d => obtain ⟨c, e', e, g, q, kk⟩ := z; exact ⟨c, e', e, (go c (fun z => by subst z; rw [gb] at g; cases g)).trans g, q.stay yf rfl, (ko _ _ (fun z => by cases z)).trans kk⟩
        | br d => exact z
      · have h : (s.r.set i (some (.rd d0)))[j]? = some (some c) := h
        have hl : i < s.r.length := (List.getElem?_eq_some_iff.mp hd).1
        by_cases z : j = i
        · subst z
          rw [List.getElem?_set_self hl] at h
          cases h
          exact ⟨_, et, a, ev, g1, lb.stay yf rfl, k1⟩
        · rw [List.getElem?_set_ne (Ne.symm z)] at h
          obtain ⟨v', e1, q⟩ := F.slt j c h
          refine ⟨v', e1, ?_⟩
          cases c with
          | fz d => exact RZ.stay yf q
          | own d => obtain ⟨c, e, g, q⟩ := q; exact ⟨c, e, (go c (fun y => by subst y; rw [gb] at g; cases g; exact z rfl)).trans g, q.stay yf rfl⟩
          | rd d => obtain ⟨c, e, g, q, kk⟩ := q; exact ⟨c, e, (go c (fun y => by subst y; rw [gb] at g; cases g)).trans g, q.stay yf rfl, (ko _ _ (fun y => z (by cases y; rfl))).trans kk⟩
          | br d => exact RZ.stay yb q
    have lk : Lck G W W1 t := by
      refine ⟨fun q z h => ?_, fun m d z h => ?_⟩
      · have own : (∃ c, z = .ref c ∧ LR G W q.2 c ∧ srcL (W.g c)) → ∃ c, z = .ref c ∧ LR G W1 q.2 c ∧ srcL (W1.g c) := fun ⟨c, e, l, r⟩ =>
          ⟨c, e, l.stay yf rfl, by rw [go c (fun y => by subst y; rw [gb] at r; exact r)]; exact r⟩
        obtain ⟨m, d⟩ := q
        cases m with
        | fz => exact RZ.stay yf h
        | bp => exact RZ.stay yb h
        | sl i => exact own h
        | fl l k => exact own h
      · cases m with
        | fz => exact RZ.stay yf h
        | bp => exact RZ.stay yb h
        | sl j =>
          obtain ⟨e1, c, e2, r, l⟩ := h
          refine ⟨e1, c, e2, ?_, l.stay yf rfl⟩
          by_cases y : c = a
          · subst y
            rw [gb] at r
            rw [g1]; exact r
          · rw [go c y]; exact r
        | fl l' k' =>
          obtain ⟨f, c, e3, l⟩ := h
          exact ⟨f, c, e3, l.stay yf rfl⟩
    split at e
    · rename_i r1 s2 hx
      refine ⟨W1, _, s2, rfl, F1, ⟨a, ev, l.stay yf rfl, by rw [g1]; trivial⟩, lk, ?_, fun W2 t2 x2 F2 => ?_⟩
      · rw [hx]
        split at e <;> (cases e; rfl)
      · have tr1 := F1.rel.trk
        have tr := F.rel.trk
        obtain ⟨o, ho⟩ := lb.there
        let lk3 : Nat → Nat → Option Addr := fun l' k' => if (l', k') = (i, 0) then W.k i 0 else W2.k l' k'
        have hl1 : lk3 i 0 = W.k i 0 := if_pos rfl
        have hl2 : ∀ l' k', (l', k') ≠ (i, 0) → lk3 l' k' = W2.k l' k' := fun l' k' h => if_neg h
        let W3 : Wd := ⟨(W2.sg a (some (.slot i))).g, W2.i, W2.H, lk3⟩
        have g2 : W2.g a = some (.rds i) := (x2.role a o ho (by rw [g1]; trivial)).trans g1
        have lo2 : loose (W2.g a) := by rw [g2]; trivial
        have g3 : W3.g a = some (.slot i) := sg_at
        have go3 : ∀ c, c ≠ a → W3.g c = W2.g c := fun c h => sg_ne h
        have yf3 : Stay W2.fz W3.fz := ⟨fun l hl => ⟨rfl, sg_B lo2 hl⟩, fun _ _ e => e, fun c o z e => ⟨(sg_fz lo2).z c o z e |>.1, e⟩⟩
        have yb3 : Stay W2.bp W3.bp := ⟨fun l hl => ⟨rfl, sg_B lo2 hl⟩, fun _ _ e => e, fun c o z e => ⟨(sg_bp lo2 (by rw [g2]; exact False.elim)).z c o z e |>.1, e⟩⟩
        have na : ∀ c o, W.H c = some o → stabR (W.g c) → c ≠ a := fun c o _ q y => by subst y; rw [gb] at q; exact q
        have bx : ∀ l, W.B l → W1.B l := fun l h => sg_B lo h
        have x3 : Evo true W W3 := by
          refine ⟨fun l h => x2.io l (bx l h), x2.tup, fun c o h q => x2.keep c o h ?_, fun c o h q => ?_, fun z => (by cases z), x2.there, fun l' k' c h => ?_, fun c l k h => ?_⟩
          · have hc : c ≠ a := fun y => by subst y; rw [gb] at q; exact q rfl
            rw [go c hc]; exact q
          · have hc := na c o h q
            exact (go3 c hc).trans ((x2.role c o h (by rw [go c hc]; exact q)).trans (go c hc))
          · show lk3 l' k' = _
            by_cases z : (l', k') = (i, 0)
            · cases z
              rw [hl1]; exact h
            · rw [hl2 _ _ z]
              exact x2.lk _ _ _ ((ko _ _ z).trans h)
          · have hc : c ≠ a := fun y => by subst y; rw [gb] at h; cases h
            rw [go3 c hc]
            exact x2.fld c l k ((go c hc).trans h)
        have k2 : W2.k i 0 = some a := x2.lk _ _ _ k1
        have rel3 : Rel G W3 s2.S := by
          refine ⟨fun l' o h => ?_, fun l' h z => sg_top F2.rel.top (fun _ q => by cases q) l' h z, fun c r h => ?_⟩
          · obtain ⟨hb, q⟩ := F2.rel.box l' o h
            refine ⟨sg_B lo2 hb, q.stay yf3 hb rfl fun c k v z => ?_⟩
            cases c with
            | fz d => exact RZ.stay yf3 z
            | own d => obtain ⟨c, e, g, q⟩ := z; exact ⟨c, e, (go3 c (fun z => by subst z; rw [g2] at g; cases g)).trans g, q.stay yf3 rfl⟩
            | rd d => obtain ⟨c, e', e, g, q, kk⟩ := z; exact ⟨c, e', e, (go3 c (fun z => by subst z; rw [g2] at g; cases g)).trans g, q.stay yf3 rfl, (hl2 _ _ (fun z => by cases z)).trans kk⟩
            | br d => exact z
          · by_cases y : c = a
            · subst y; exact x2.there c o ho
            · rw [go3 c y] at h; exact F2.rel.trk c r h
        -- any other cell
        have cell : ∀ {j : Nat} {c : Cell} {w : V}, SltR G W2 j c w → (j = i → ∀ d, c ≠ .rd d) → SltR G W3 j c w := fun {j c w} q ne => by
          cases c with
          | fz d => exact RZ.stay yf3 q
          | own d => obtain ⟨c, e, g, q⟩ := q; exact ⟨c, e, (go3 c (fun y => by subst y; rw [g2] at g; cases g)).trans g, q.stay yf3 rfl⟩
          | rd d =>
            obtain ⟨c, e, g, q, kk⟩ := q
            have hj : j ≠ i := fun y => ne y d rfl
            exact ⟨c, e, (go3 c (fun y => by subst y; rw [g2] at g; cases g; exact hj rfl)).trans g, q.stay yf3 rfl, (hl2 _ _ (fun y => hj (by cases y; rfl))).trans kk⟩
          | br d => exact RZ.stay yb3 q
        have ufin : UnlF G W W2 W3 := ⟨rfl, x3, yf3, yb3, fun c h => (go3 c (fun y => by subst y; rw [g2] at h; cases h)).trans h, fun c j h => (go3 c (fun y => by subst y; rw [g2] at h; cases h)).trans h⟩
        refine ⟨W3, ufin, ?_⟩
        split at e
        · rename_i d' hd'
          cases e
          obtain ⟨w', ew', b', eb', gb', lb', kk'⟩ := F2.slt i _ hd'
          have eab : b' = a := by rw [k2] at kk'; exact (Option.some.inj kk').symm
          subst eab
          have hl : i < s2.r.length := (List.getElem?_eq_some_iff.mp hd').1
          refine ⟨rel3, by simpa using F2.len, fun j c h => ?_⟩
          have h : (s2.r.set i (some (.own d')))[j]? = some (some c) := h
          by_cases z : j = i
          · subst z
            rw [List.getElem?_set_self hl] at h
            cases h
            exact ⟨_, ew', b', eb', g3, lb'.stay yf3 rfl⟩
          · rw [List.getElem?_set_ne (Ne.symm z)] at h
            obtain ⟨v', e1, q⟩ := F2.slt j c h
            exact ⟨v', e1, cell q (fun y => absurd y z)⟩
        · rename_i hne
          cases e
          refine ⟨rel3, F2.len, fun j c h => ?_⟩
          obtain ⟨v', e1, q⟩ := F2.slt j c h
          refine ⟨v', e1, cell q fun y d ec => ?_⟩
          subst y ec
          exact hne d h
    · cases e
  · rename_i d0 hd
    obtain ⟨w, ew, b, eb, gb, lb, kk⟩ := F.slt i _ hd
    rw [et] at ew
    cases ew
    rw [ev] at eb
    cases eb
    exact ⟨W, s, s', rfl, F, ⟨a, ev, l, by rw [gb]; trivial⟩, ⟨fun _ _ h => h, fun _ _ _ h => h⟩, e, fun W2 t2 x2 F2 => ⟨W2, ⟨rfl, x2, .refl, .refl, fun _ h => h, fun _ _ h => h⟩, F2⟩⟩
  · cases e
end
end Lk

namespace Lk
open PySem L2 PyProof.Rows

section
variable {G : Gm} {W W' : Wd} {s s' : Stt} {t : L2.St} {v : V} {d : D} {m : Md}
theorem PlR.src (h : PlR G W t m d v) (hm : ∀ i, m ≠ .sl i) (hf : ∀ l k, m ≠ .fl l k) : SrcR G W (m, d) v := by
  cases m with
  | fz => exact h
  | bp => exact h
  | sl i => exact absurd rfl (hm i)
  | fl l k => exact absurd rfl (hf l k)
theorem unlF_refl {W1 W2 : Wd} (x : Evo true W1 W2) : UnlF G W1 W2 W2 := ⟨rfl, x, .refl, .refl, fun _ h => h, fun _ _ h => h⟩
theorem lock1_ok {α : Type} {x : M α} {r : Ou α} (F : Fr G W s t) (hp : PlR G W t m d v) (e : lockL [m] x s = some (r, s')) :
    ∃ W1 s1 s2, W1.H = W.H ∧ Fr G W1 s1 t ∧ SrcR G W1 (m, d) v ∧ Lck G W W1 t ∧ x s1 = some (r, s2) ∧ ∀ W2 t2, Evo true W1 W2 → Fr G W2 s2 t2 → ∃ W3, UnlF G W W2 W3 ∧ Fr G W3 s' t2 := by
  cases m with
  | fz => exact ⟨W, s, s', rfl, F, hp, ⟨fun _ _ h => h, fun _ _ _ h => h⟩, e, fun W2 t2 x2 F2 => ⟨W2, unlF_refl x2, F2⟩⟩
  | bp => exact ⟨W, s, s', rfl, F, hp, ⟨fun _ _ h => h, fun _ _ _ h => h⟩, e, fun W2 t2 x2 F2 => ⟨W2, unlF_refl x2, F2⟩⟩
  | sl i => exact lockS_ok F hp e
  | fl l k =>
    have e : guardF l k x s = some (r, s') := e
    unfold guardF at e
    split at e
    · rename_i d0 hd
      obtain ⟨a, W1, f, hH, hi, g1, g0, l0, l1, k1, R1, yf, yb, go, ko⟩ := lock_ok F hd
      split at e
      · rename_i r1 s2 hx
        split at e
        · rename_i d2 hd2
          cases e
          have ev : v = .ref a := hp.1.uniq f
          have lk : Lck G W W1 t := by
            refine ⟨fun q z h => ?_, fun m d z h => ?_⟩
            · have own : (∃ c, z = .ref c ∧ LR G W q.2 c ∧ srcL (W.g c)) → ∃ c, z = .ref c ∧ LR G W1 q.2 c ∧ srcL (W1.g c) := fun ⟨c, e, l, r⟩ =>
                ⟨c, e, l.stay yf (by rw [hH]), by rw [go c (fun y => by subst y; rw [g0] at r; exact r)]; exact r⟩
              obtain ⟨m, d⟩ := q
              cases m with
              | fz => exact RZ.stay yf h
              | bp => exact RZ.stay yb h
              | sl i => exact own h
              | fl l k => exact own h
            · cases m with
              | fz => exact RZ.stay yf h
              | bp => exact RZ.stay yb h
              | sl j =>
                obtain ⟨e1, c, e2, r, l⟩ := h
                exact ⟨e1, c, e2, by rw [go c (fun y => by subst y; rw [g0] at r; exact r)]; exact r, l.stay yf (by rw [hH])⟩
              | fl l' k' =>
                obtain ⟨⟨C', dx', fs', e1, e2⟩, c, e3, l⟩ := h
                exact ⟨⟨C', dx', fs', by rw [hH, hi]; exact e1, e2⟩, c, e3, l.stay yf (by rw [hH])⟩
          refine ⟨W1, _, s2, hH, R1, ⟨a, ev, ?_, by rw [g1]; trivial⟩, lk, hx, fun W2 t2 y R2 => ?_⟩
          · obtain ⟨_, a', ea, la⟩ := hp
            rw [ev] at ea
            cases ea
            exact la.stay yf (by rw [hH])
          · obtain ⟨W3, h1, h2, h3, h4, h5, h6, h7, h8, h9⟩ := unlock_ok F.rel.trk g0 hH hi g1 k1 go ko y R2 hd2
            exact ⟨W3, ⟨h1, h3, h5, h6, fun c h => h7 c _ h fun _ _ _ z => (by cases z), fun c j h => h7 c _ h fun _ _ _ z => (by cases z)⟩, h4⟩
        · cases e
      · cases e
    · rename_i d0 hd
      obtain ⟨a, ex, ea, g, l0, kk⟩ := fld_val F.rel hd hp.1
      refine ⟨W, s, s', rfl, F, ⟨a, ea, ?_, by rw [g]; trivial⟩, ⟨fun _ _ h => h, fun _ _ _ h => h⟩, e, fun W2 t2 x2 F2 => ⟨W2, unlF_refl x2, F2⟩⟩
      obtain ⟨_, a', ea', la⟩ := hp
      rw [ea] at ea'
      cases ea'
      exact la
    · cases e
theorem lockL_cons {α : Type} {x : M α} {ms : List Md} : lockL (m :: ms) x = lockL [m] (lockL ms x) := by
  cases m <;> rfl
theorem lockL_ok {α : Type} {x : M α} {r : Ou α} : ∀ {qs : List (Md × D)} {vs : List V} {W : Wd} {s s' : Stt}, Paired (fun q v => PlR G W t q.1 q.2 v) qs vs → Fr G W s t → lockL (qs.map (·.1)) x s = some (r, s') →
    ∃ W1 s1 s2, W1.H = W.H ∧ Fr G W1 s1 t ∧ Paired (SrcR G W1) qs vs ∧ Lck G W W1 t ∧ x s1 = some (r, s2) ∧ ∀ W2 t2, Evo true W1 W2 → Fr G W2 s2 t2 → ∃ W3, UnlF G W W2 W3 ∧ Fr G W3 s' t2
  | [], _, W, s, s', .nil, F, e => ⟨W, s, s', rfl, F, .nil, ⟨fun _ _ h => h, fun _ _ _ h => h⟩, e, fun W2 t2 x2 F2 => ⟨W2, unlF_refl x2, F2⟩⟩
  | q :: qs, v :: vs, W, s, s', .cons p1 pr, F, e => by
    have e : lockL (q.1 :: qs.map (·.1)) x s = some (r, s') := e
    rw [lockL_cons] at e
    obtain ⟨W1, s1, s2, h1, F1, a1, k1, e1, back⟩ := lock1_ok F p1 e
    obtain ⟨W2, s3, s4, h2, F2, pv, k2, e2, bk⟩ := lockL_ok (Paired.mapP pr fun q v h => k1.pl q.1 q.2 v h) F1 e1
    refine ⟨W2, s3, s4, h2.trans h1, F2, .cons (k2.src _ _ a1) pv, ⟨fun q z h => k2.src q z (k1.src q z h), fun m d z h => k2.pl m d z (k1.pl m d z h)⟩, e2, fun W3 t3 x3 F3 => ?_⟩
    obtain ⟨W4, u4, F4⟩ := bk W3 t3 x3 F3
    obtain ⟨W5, u5, F5⟩ := back W4 t3 u4.evo F4
    exact ⟨W5, ⟨u5.H.trans u4.H, u5.evo, u4.fz.trans u5.fz, u4.bp.trans u5.bp, fun c h => u5.free c (u4.free c h), fun c j h => u5.slot c j (u4.slot c j h)⟩, F5⟩
end

section
variable {X : Cx} {G : Gm} {Wx : WX} {P : Pg} {n : Nat} {a b c o e tg iter : Expr} {ea eb ec eo ee : Ex} {pos apos p : Pos} {f : Bool} {es : List Expr} {xs : List Ex} {sts : List Stmt} {st : Stmt}
/-! an end, back behind the locks -/
theorem endF_back {W Wg Wi : Wd} {s' sn : Stt} {D : Ends} {r : Ou Fl} (xg : Evo true Wg Wi) (trg : ∀ a r, Wg.g a = some r → ∃ o, Wg.H a = some o) (h0 : ∀ a, Wg.H a = none → W.H a = none)
    (bk : ∀ W2 t2, Evo true Wg W2 → Fr G W2 sn t2 → ∃ W3, UnlF G W W2 W3 ∧ Fr G W3 s' t2) (q : EndF G Wx W s' D r) : EndF G Wx Wi sn D r := by
  cases r with
  | ex c p =>
    intro W2 t2 dx x2 F2 hx
    obtain ⟨W3, u, F3⟩ := bk W2 t2 (xg.trans x2 trg) F2
    rw [← u.H]
    refine q W3 t2 dx u.evo F3 ?_
    cases p with
    | none => cases dx <;> first | exact hx | exact hx.elim
    | some d =>
      cases dx with
      | none => exact hx.elim
      | some a =>
        obtain ⟨v, g1, h1, h2⟩ := hx
        exact ⟨v, (u.fz.z _ _ g1 h1).1, by rw [u.H]; exact h1, RZ.stay u.fz h2⟩
  | ok f =>
    cases f with
    | next =>
      intro W2 t2 x2 F2
      obtain ⟨W3, u, F3⟩ := bk W2 t2 (xg.trans x2 trg) F2
      rw [← u.H]
      exact q W3 t2 u.evo F3
    | brk =>
      intro W2 t2 x2 F2
      obtain ⟨W3, u, F3⟩ := bk W2 t2 (xg.trans x2 trg) F2
      rw [← u.H]
      exact q W3 t2 u.evo F3
    | cnt =>
      intro W2 t2 x2 F2
      obtain ⟨W3, u, F3⟩ := bk W2 t2 (xg.trans x2 trg) F2
      rw [← u.H]
      exact q W3 t2 u.evo F3
    | ret c =>
      intro W2 t2 v x2 F2 hv
      obtain ⟨W3, u, F3⟩ := bk W2 t2 (xg.trans x2 trg) F2
      rw [← u.H]
      refine q W3 t2 v u.evo F3 ?_
      cases c with
      | fz d => exact RZ.stay u.fz hv
      | own d =>
        obtain ⟨a, e, l, h⟩ := hv
        refine ⟨a, e, l.stay u.fz (by rw [u.H]), ?_⟩
        rcases h with ⟨i, g⟩ | ⟨g, hn⟩
        · exact .inl ⟨i, u.slot a i g⟩
        · exact .inr ⟨u.free a g, h0 a (xg.hnone hn)⟩
      | br d => exact hv.elim
      | rd d => exact hv.elim
theorem s_for (C : Cxt X G) (hc : X.calm = true) {it : It} {pat : Pat} {src : List Ex} {body : List Stmt} {xb : List St} (po : PassesOwn (model X.prog X.w) X.A X.env X.xe) (hi : PI X tg iter (tIt G Wx P it src)) (hg : PG X tg (gPat X.K pat)) (hb : PSs X body (tSs' G Wx P n xb))
    (hs : ∀ x, foldedSetIterable iter X.env x = pure x) : PS X (.For tg iter body [] pos) (tS G Wx P n (.for_ pat it src xb)) := by
  refine psImp (ps_for po hc hi hg hb hs) fun D t H ⟨W, s, r, s', hH, F, e, q⟩ => ?_
  subst hH
  unfold exec at e
  have tr := F.rel.trk
  rcases M.bind_some e with ⟨qs, s1, e1, e2⟩ | ⟨c, p, e1, e2⟩
  · refine ⟨W, s, _, s1, rfl, F, e1, ?_⟩
    cases hit : itD it (qs.map (·.2)) with
    | none => rw [hit] at e2; cases e2
    | some items =>
    rw [hit] at e2
    refine ⟨items, hit, fun W1 vs J x1 F1 pv wk => ?_⟩
    obtain ⟨Wg, sg, s2, hgH, Fg, ag, _, eg, back⟩ := lockL_ok pv F1 e2
    have trg := Fg.rel.trk
    have h0 : ∀ a, Wg.H a = none → W.H a = none := fun a ha => x1.hnone (by rw [← hgH]; exact ha)
    have q1 : EndF G Wx W1 s' D r := endF_trans x1.weak tr q
    have h01 : ∀ a, Wg.H a = none → W1.H a = none := fun a ha => by rw [← hgH]; exact ha
    rw [← hgH]
    refine ⟨fun i m t H => ∃ Wi si, Wi.H = H ∧ Fr G Wi si t ∧ Evo true Wg Wi ∧ forL pat (qs.any isBp) (execs P n xb) (items.drop i) si = some (r, s2) ∧ m = items.length - i ∧ i ≤ items.length, ⟨items.length, Wg, sg, rfl, Fg, .refl, by simpa using eg, by simp, Nat.zero_le _⟩, ?_⟩
    rintro i m ti H ⟨Wi, si, hHi, Fi, xi, ei, hm, hile⟩
    subst hHi
    have Yi : SrcY G (qs.any isBp) (qs.map (·.2)) vs Wi := srcs_tz (fun z hz hb => List.any_eq_true.mpr ⟨z, hz, hb⟩) (Paired.mapP ag fun q v h => h.stay xi trg)
    by_cases hlt : i < items.length
    · have hdrop : items.drop i = items[i] :: items.drop (i + 1) := List.drop_eq_getElem_cons hlt
      rw [hdrop] at ei
      unfold forL at ei
      refine .inr ⟨wk.go _ i Yi hlt, fun t H => ∃ Wi si, Wi.H = H ∧ Fr G Wi si t ∧ Evo true Wg Wi ∧ forL pat (qs.any isBp) (execs P n xb) (items.drop (i + 1)) si = some (r, s2), fun t' H' ⟨Wj, sj, a1, a2, a3, a4⟩ => ⟨items.length - (i + 1), by omega, Wj, sj, a1, a2, a3, a4, rfl, hlt⟩, fun x H' yl => ?_⟩
      obtain ⟨W', hW', g', rz⟩ := wk.yld _ i x H' items[i] Yi (List.getElem?_eq_getElem hlt) yl
      have F' := g'.fr Fi
      rw [← hW']
      split at ei
      · rename_i r' hb'
        refine patOk C.K (own := patIs pat) F' rz hb' (fun _ h => h) fun t' F4 _ => ?_
        have x4 : Evo true Wg W' := xi.trans g'.evo trg
        cases eb : execs P n xb { si with r := r' } with
        | none => rw [eb] at ei; cases ei
        | some z =>
        obtain ⟨rb, s3⟩ := z
        rw [eb] at ei
        refine ⟨W', _, rb, s3, rfl, F4, eb, ?_⟩
        have q4 := fun (hr : forL pat (qs.any isBp) (execs P n xb) [] si = some (r, si)) => hr
        cases rb with
        | ex c p =>
          cases ei
          exact endF_back (r := .ex c p) (D := { D with nx := _, ct := _, bk := D.nx }) x4 trg h01 back q1
        | ok f =>
          cases f with
          | next => exact fun W5 t5 x5 F5 => ⟨W5, s3, rfl, F5, x4.trans x5 trg, ei⟩
          | cnt => exact fun W5 t5 x5 F5 => ⟨W5, s3, rfl, F5, x4.trans x5 trg, ei⟩
          | brk =>
            cases ei
            exact endF_back (r := .ok .next) (D := D) x4 trg h01 back q1
          | ret c =>
            cases ei
            exact endF_back (r := .ok (.ret c)) (D := D) x4 trg h01 back q1
      · cases ei
    · have hi' : i = items.length := by omega
      subst hi'
      rw [List.drop_length] at ei
      unfold forL at ei
      cases ei
      exact .inl ⟨wk.stop _ _ Yi (Nat.le_refl _), endF_back (r := .ok .next) (D := D) xi trg h01 back q1 Wi ti .refl Fi⟩
  · subst e2
    exact ⟨W, s, _, s', rfl, F, e1, fun W' dx x' F' hx => q W' t dx x'.weak F' hx⟩
end
end Lk

namespace Lk
open PySem L2 PyProof.Rows

/-! ### targets of several names -/
def nameE : Expr → Option Str
  | .Name x _ => some x
  | _ => none
theorem putF_at {ns : List Str} {y : V} {f : Str} : ∀ {k : Nat} {vs : List V}, ns.Nodup → ns[k]? = some f → k < vs.length → putF f y (ns.zip vs) = ns.zip (vs.set k y) := by
  induction ns with
  | nil => intro k vs _ h _; simp at h
  | cons n ns ih =>
    intro k vs nd h hk
    cases vs with
    | nil => simp at hk
    | cons w vs =>
      cases k with
      | zero =>
        simp at h
        subst h
        show (if n = n then _ else _) = _
        rw [if_pos rfl]; rfl
      | succ k =>
        simp at h hk
        have hn : n ≠ f := fun z => (List.nodup_cons.mp nd).1 (by rw [z]; exact List.mem_of_getElem? h)
        show (if n = f then _ else (n, w) :: putF f y (ns.zip vs)) = _
        rw [if_neg hn, ih (List.nodup_cons.mp nd).2 h hk]; rfl
theorem putF_end {ns : List Str} {y : V} {f : Str} : ∀ {vs : List V}, ns.Nodup → ns[vs.length]? = some f → putF f y (ns.zip vs) = ns.zip (vs ++ [y]) := by
  induction ns with
  | nil => intro vs _ h; simp at h
  | cons n ns ih =>
    intro vs nd h
    cases vs with
    | nil =>
      simp at h
      subst h
      cases ns <;> rfl
    | cons w vs =>
      simp at h
      have hn : n ≠ f := fun z => (List.nodup_cons.mp nd).1 (by rw [z]; exact List.mem_of_getElem? h)
      show (if n = f then _ else (n, w) :: putF f y (ns.zip vs)) = _
      rw [if_neg hn, ih (List.nodup_cons.mp nd).2 h]; rfl
section
variable {X : Cx} {G : Gm} {Wx : WX} {P : Pg} {n : Nat} {a b c o e tg iter : Expr} {ea eb ec eo ee : Ex} {pos apos p p2 : Pos} {f : Bool} {es : List Expr} {xs : List Ex} {sts : List Stmt} {st : Stmt}
def noTup : Expr → Bool
  | .Tuple _ _ _ => false
  | _ => true
theorem s_unp (C : Cxt X G) (hk : X.calm = true) {ts : List Expr} {is : List Nat} {k : Nat} (he : PE X e (tV G Wx P false ee)) (hg : PGs X ts (gList is)) (hn : (assignEach ts X.env).length = is.length) (hst : (assignEach ts X.env).findIdx? (·.1) = none) (hc : notComp e = true) (ht : noTup e = true) :
    PS X (.Assign [.Tuple ts k p] e pos) (tS G Wx P n (.unp is ee)) := by
  have hsw : swapsWithSole [.Tuple ts k p] e pos.line X.env = pure false := by
    unfold swapsWithSole
    exact no_swap hc
  have hss : swappedStores [.Tuple ts k p] e X.env = pure none := by
    unfold swappedStores
    cases e <;> first | rfl | cases ht
  constructor
  intro pins s σ H D I ⟨W, st, r, st', hH, F, e1, q⟩
  subst hH
  unfold exec at e1
  rcases M.bind_some e1 with ⟨va, s1, e2, e3⟩ | ⟨c, p, e2, e3⟩
  · obtain ⟨m, d⟩ := va
    cases d with
    | tup ds =>
      simp only at e3
      split at e3
      · rename_i hl
        cases e3
        refine (ps_asg (peE he) (pg_tup hk hg hn hst) hsw hss rfl).run pins s σ W.H D I ⟨W, st, _, s1, rfl, F, e2, fun W1 x x1 F1 p1 _ => ?_⟩
        obtain ⟨a, vs, ex, h1, h2⟩ := p1.tz.tuple
        refine ⟨a, vs, ex, C.K ▸ h1, by rw [← h2.length]; exact hl, ?_⟩
        exact binds_ok (own := is) F1 h2 hl (fun _ h => h) .refl fun t' F2 _ => q W1 t' x1.weak F2
      · cases e3
    | lst ds =>
      simp only at e3
      split at e3
      · rename_i hl
        cases e3
        refine (ps_asg (peE he) (pg_lst hk hg hn hst) hsw hss rfl).run pins s σ W.H D I ⟨W, st, _, s1, rfl, F, e2, fun W1 x x1 F1 p1 _ => ?_⟩
        obtain ⟨a, vs, ex, h1, h2⟩ := p1.tz.list
        refine ⟨a, vs, ex, C.K ▸ h1, by rw [← h2.length]; exact hl, ?_⟩
        exact binds_ok (own := is) F1 h2 hl (fun _ h => h) .refl fun t' F2 _ => q W1 t' x1.weak F2
      · cases e3
    | _ => cases e3
  · subst e3
    exact (ps_asg (peE he) (pg_tup hk hg hn hst) hsw hss rfl).run pins s σ W.H D I ⟨W, st, _, st', rfl, F, e2, fun W' dx x' F' hx => q W' σ dx x'.weak F' hx⟩

theorem putFld_some {cl l k : Nat} {x : Cell} {s s' : Stt} {r : Ou Unit} (e : putFld cl l k x s = some (r, s')) :
    r = .ok () ∧ ∃ fs, s.S[l]? = some (.ins cl fs) ∧ ((k < fs.length ∧ s' = { s with S := s.S.set l (.ins cl (fs.set k x)) }) ∨ (k = fs.length ∧ s' = { s with S := s.S.set l (.ins cl (fs ++ [x])) })) := by
  unfold putFld at e
  split at e
  · rename_i c' fs hS
    split at e
    · rename_i ec
      subst ec
      split at e
      · rename_i hk
        split at e
        · cases e
        · cases e; exact ⟨rfl, fs, hS, .inl ⟨hk, rfl⟩⟩
      · split at e
        · rename_i hk
          cases e; exact ⟨rfl, fs, hS, .inr ⟨hk, rfl⟩⟩
        · cases e
    · cases e
  · cases e
/-! o.f = e -/
theorem s_fset (C : Cxt X G) {cl k : Nat} {fn : Str} (ho : PE X o (tV G Wx P false eo)) (he : PE X e (tV G Wx P false ee)) (hf : (G.fl cl)[k]? = some fn) (nd : (G.fl cl).Nodup) (hfl : (G.fl cl).length < 1000) (cls : Cls X.K (G.C cl)) (na : NoAttr X.K (G.C cl) fn) :
    PS X (.Assign [.Attribute o fn p] e pos) (tS G Wx P n (.fset cl k eo ee)) := by
  refine psImp (ps_fld (peE ho) (peR he) (by unfold swapsWith; cases e <;> rfl)) fun D t H ⟨W, s, r, s', hH, F, e, q⟩ => ?_
  subst hH
  unfold exec at e
  have tr := F.rel.trk
  rcases M.bind_some e with ⟨c, s1, e1, e2⟩ | ⟨cc, pp, e1, e2⟩
  · refine ⟨W, s, _, s1, rfl, F, e1, fun W1 y x1 F1 cr => ?_⟩
    rcases M.bind_some e2 with ⟨va, s2, e3, e4⟩ | ⟨cc, pp, e3, e4⟩
    · refine ⟨W1, s1, _, s2, rfl, F1, e3, fun W2 x x2 F2 p2 _ => ?_⟩
      split at e4
      · rename_i l
        have p2 : RZ G W2.fz (.ref l) x := p2
        cases p2 with
        | ref _ hb =>
          have fin : ∀ {W3 : Wd} {c : Cell}, W3.H = W2.H → W3.i = W2.i → Evo true W W3 → Fr G W3 s2 t → (∀ ho, chR (W3.g (W3.i l)) → (∀ vs, W3.H (W3.i l) ≠ some (.tup vs)) → FldR G (W3.nw (W3.i l) ho) l k c y) → ((putFld cl l k c).bind fun _ => M.ok Fl.next) s2 = some (r, s') →
              ∃ a C dx fs, V.ref (W2.i l) = .ref a ∧ W2.H a = some (.ins C dx fs) ∧ Cls X.K C ∧ NoAttr X.K C fn ∧ fs.length < 1000 ∧ D.nx t (upd W2.H a (.ins C dx (putF fn y fs))) := fun {W3 c} hH hi x3 F3 hnew e5 => by
            rcases M.bind_some e5 with ⟨u, s3, e6, e7⟩ | ⟨cc, pp, e6, e7⟩
            · obtain ⟨_, fs, hS, hcase⟩ := putFld_some e6
              have er : r = .ok .next := by cases e7; rfl
              have es : s' = s3 := by cases e7; rfl
              obtain ⟨hb3, dx, vs, h1, h2, h3, h4⟩ := F3.rel.box l _ hS
              have hn : ∀ vs, W3.H (W3.i l) ≠ some (.tup vs) := fun vs z => by rw [h1] at z; cases z
              have hch : chR (W3.g (W3.i l)) := by rw [show W3.g (W3.i l) = _ from hb3]; trivial
              have hH1 := h1
              rw [hH, hi] at hH1
              have lz : ((G.fl cl).zip vs).length < 1000 := by rw [List.length_zip]; omega
              refine ⟨_, _, dx, _, rfl, hH1, cls, na, lz, ?_⟩
              have go : ∀ {fs' : List Cell} {vs' : List V}, putF fn y ((G.fl cl).zip vs) = (G.fl cl).zip vs' → vs'.length = fs'.length → fs'.length ≤ (G.fl cl).length → (∀ k' x v, fs'[k']? = some x → vs'[k']? = some v → (k' = k ∧ x = c ∧ v = y) ∨ (fs[k']? = some x ∧ vs[k']? = some v)) →
                  s' = { s2 with S := s2.S.set l (.ins cl fs') } → D.nx t (upd W2.H (W2.i l) (.ins (G.C cl) dx (putF fn y ((G.fl cl).zip vs)))) := fun {fs' vs'} ep hl1 hl2 hz es => by
                rw [ep]
                have F4 := put_box (ho := .ins (G.C cl) dx ((G.fl cl).zip vs')) (o' := .ins cl fs') F3 hS hn ⟨dx, vs', upd_same, hl1, hl2, fun k' x v h5 h6 => by
                  rcases hz k' x v h5 h6 with ⟨hk', hx', hv'⟩ | ⟨h7, h8⟩
                  · rw [hk', hx', hv']; exact hnew _ hch hn
                  · exact put_fld hch hn (h4 k' x v h7 h8) (by rw [show W3.g (W3.i l) = _ from hb3]; intro z; cases z)⟩
                have x4 : Evo true W (W3.nw (W3.i l) (.ins (G.C cl) dx ((G.fl cl).zip vs'))) := x3.trans (put_evo (by rw [show W3.g (W3.i l) = _ from hb3]; trivial) hch hn F3.rel.trk) tr
                rw [er, es] at q
                have := q _ t x4 F4
                rw [← hH, ← hi]
                exact this
              rcases hcase with ⟨hk, hs'⟩ | ⟨hk, hs'⟩
              · refine go (fs' := fs.set k c) (vs' := vs.set k y) (putF_at nd hf (by omega)) (by simpa using h2) (by simpa using h3) (fun k' x v h5 h6 => ?_) (es.trans hs')
                by_cases z : k' = k
                · subst z
                  rw [List.getElem?_set_self hk] at h5
                  rw [List.getElem?_set_self (by omega)] at h6
                  exact .inl ⟨rfl, (Option.some.inj h5).symm, (Option.some.inj h6).symm⟩
                · rw [List.getElem?_set_ne (Ne.symm z)] at h5 h6
                  exact .inr ⟨h5, h6⟩
              · refine go (fs' := fs ++ [c]) (vs' := vs ++ [y]) (putF_end nd (by rw [h2, ← hk]; exact hf)) (by simp [h2]) (by have := (List.getElem?_eq_some_iff.mp hf).1; simp; omega) (fun k' x v h5 h6 => ?_) (es.trans hs')
                by_cases z : k' < fs.length
                · rw [List.getElem?_append_left z] at h5
                  rw [List.getElem?_append_left (by omega)] at h6
                  exact .inr ⟨h5, h6⟩
                · rw [List.getElem?_append_right (by omega)] at h5
                  rw [List.getElem?_append_right (by omega)] at h6
                  have hk0 : k' = fs.length := by
                    have := (List.getElem?_eq_some_iff.mp h5).1
                    simp at this; omega
                  subst hk0
                  simp at h5
                  simp [h2] at h6
                  exact .inl ⟨hk.symm, h5.symm, h6.symm⟩
            · cases (putFld_some e6).1
          have x12 := x1.trans x2 tr
          cases c with
          | br d => cases e4
          | rd d => exact cr.elim
          | fz d =>
            have rz : RZ G W2.fz d y := RZ.stay (x2.fz F1.rel.trk) cr
            exact fin (W3 := W2) (c := .fz d) rfl rfl x12.weak F2 (fun ho hch hn => RZ.stay (put_fz hch hn) rz) e4
          | own d =>
            obtain ⟨b, eb, gb, lb, h0⟩ := cr
            subst eb
            obtain ⟨ob, hob⟩ := lb.there
            have g2 : W2.g b = none := (x2.role b ob hob (by rw [gb]; trivial)).trans gb
            have l2 : LR G W2 d b := lb.evo x2 F1.rel.trk (by rw [gb]; exact id)
            have F3 := F2.claim (r := some (.fld l k)) g2 l2.there (fun _ z => by cases z)
            refine fin (W3 := W2.sg b (some (.fld l k))) (c := .own d) rfl rfl (x12.weak.claim h0 tr) F3 (fun ho hch hn => ?_) e4
            have l3 : LR G (W2.sg b (some (.fld l k))) d b := sg_LR (by rw [g2]; trivial) l2
            have nb : b ≠ (W2.sg b (some (.fld l k))).i l := fun z => by
              have hb : W2.g (W2.i l) = some (.box l) := hb
              have z : b = W2.i l := z
              rw [← z, g2] at hb; cases hb
            exact ⟨b, rfl, sg_at, l3.put hch hn nb⟩
      · cases e4
    · subst e4
      exact ⟨W1, s1, _, s', rfl, F1, e3, fun W' dx x' F' hx => q W' t dx (x1.trans x' tr).weak F' hx⟩
  · subst e2
    exact ⟨W, s, _, s', rfl, F, e1, fun W' dx x' F' hx => q W' t dx x'.weak F' hx⟩
end
end Lk

namespace Lk
open PySem L2 PyProof.Rows

section
variable {G : Gm} {W W' : Wd} {s s' : Stt} {t : L2.St} {v : V} {d : D} {m : Md}
/-! where a thing stands that is to be changed -/
def PlC (G : Gm) (W : Wd) (t : L2.St) (q : Md × D) (v : V) : Prop :=
  match q with
  | (.sl i, _) => t[i]? = some (some v)
  | (.fl l k, _) => FldAt W l k v
  | (.fz, .ref l) => v = .ref (W.i l) ∧ W.B l
  | _ => True
theorem PlR.plc {q : Md × D} (h : PlR G W t q.1 q.2 v) : PlC G W t q v := by
  obtain ⟨m, d⟩ := q
  cases m with
  | fz =>
    cases d with
    | ref l =>
      have h : RZ G W.fz (.ref l) v := h
      cases h with
      | ref _ hb => exact ⟨rfl, hb⟩
    | _ => trivial
  | bp => trivial
  | sl i => exact h.1
  | fl l k => exact h.1
structure Change (G : Gm) (W : Wd) (s' : Stt) (t : L2.St) (a : Addr) (d' : D) : Prop where
  fr : ∀ ho, LR G (W.nw a ho) d' a → Fr G (W.nw a ho) s' t
  evo : ∀ ho, Evo true W (W.nw a ho)
  fz : ∀ ho, Stay W.fz (W.nw a ho).fz
theorem changeAt_ok {α : Type} {f : D → Option (D × α)} {q : Md × D} {r : Ou α} (F : Fr G W s t) (h : PlC G W t q v) (e : changeAt f q s = some (r, s')) :
    ∃ a d d' y, v = .ref a ∧ LR G W d a ∧ f d = some (d', y) ∧ r = .ok y ∧ Change G W s' t a d' := by
  have tr := F.rel.trk
  obtain ⟨m, dd⟩ := q
  have hnt : ∀ {d : D} {a : Addr}, LR G W d a → ∀ vs, W.H a ≠ some (.tup vs) := fun {d a} l vs z => by
    cases l with
    | lst q _ => rw [q] at z; cases z
    | dic q _ _ => rw [q] at z; cases z
  unfold changeAt at e
  cases m with
  | bp => cases e
  | sl i =>
    simp only at e
    split at e
    · rename_i d hd
      obtain ⟨z, hz, e2⟩ := Option.map_eq_some_iff.mp e
      cases e2
      obtain ⟨w, ew, a, ea, g, l⟩ := F.slt i _ hd
      have h : t[i]? = some (some v) := h
      rw [h] at ew
      cases ew
      subst ea
      have hc : chR (W.g a) := by rw [g]; trivial
      exact ⟨a, d, z.1, z.2, rfl, l, hz, rfl, fun ho nl => put_slot F hd h g (hnt l) nl, fun ho => put_evo (by rw [g]; rfl) hc (hnt l) tr, fun ho => put_fz hc (hnt l)⟩
    · cases e
  | fl l k =>
    simp only at e
    split at e
    · rename_i d hd
      obtain ⟨z, hz, e2⟩ := Option.map_eq_some_iff.mp e
      cases e2
      obtain ⟨a, ea, g, lr⟩ := fld_val F.rel hd h
      subst ea
      have hc : chR (W.g a) := by rw [g]; trivial
      exact ⟨a, d, z.1, z.2, rfl, lr, hz, rfl, fun ho nl => put_field F hd h g (hnt lr) nl, fun ho => put_evo (by rw [g]; trivial) hc (hnt lr) tr, fun ho => put_fz hc (hnt lr)⟩
    · cases e
  | fz =>
    cases dd with
    | ref l =>
      obtain ⟨ev, hb⟩ := h
      subst ev
      have hc : chR (W.g (W.i l)) := by rw [show W.g (W.i l) = _ from hb]; trivial
      have hm : mutR true (W.g (W.i l)) := by rw [show W.g (W.i l) = _ from hb]; trivial
      simp only at e
      split at e
      · rename_i xs hS
        obtain ⟨z, hz, e2⟩ := Option.bind_eq_some_iff.mp e
        obtain ⟨_, vs, h1, h2⟩ := F.rel.box l _ hS
        have lr : LR G W (.lst xs) (W.i l) := .lst h1 h2
        obtain ⟨z1, z2⟩ := z
        cases z1 with
        | lst ys =>
          cases e2
          refine ⟨W.i l, .lst xs, .lst ys, z2, rfl, lr, hz, rfl, fun ho nl => ?_, fun ho => put_evo hm hc (hnt lr) tr, fun ho => put_fz hc (hnt lr)⟩
          refine put_box F hS (hnt lr) ?_
          cases nl with
          | lst q r => exact ⟨_, q, r⟩
        | _ => cases e2
      · rename_i ks xs hS
        obtain ⟨z, hz, e2⟩ := Option.bind_eq_some_iff.mp e
        obtain ⟨_, kvs, h1, h2, h3⟩ := F.rel.box l _ hS
        have lr : LR G W (.dic ks xs) (W.i l) := .dic h1 h2 h3
        obtain ⟨z1, z2⟩ := z
        cases z1 with
        | dic ks' ys =>
          cases e2
          refine ⟨W.i l, .dic ks xs, .dic ks' ys, z2, rfl, lr, hz, rfl, fun ho nl => ?_, fun ho => put_evo hm hc (hnt lr) tr, fun ho => put_fz hc (hnt lr)⟩
          refine put_box F hS (hnt lr) ?_
          cases nl with
          | dic q k r => exact ⟨_, q, k, r⟩
        | _ => cases e2
      · cases e
    | _ => cases e
theorem changeAt_noex {α : Type} {f : D → Option (D × α)} {q : Md × D} {c : Nat} {p : Option D} (e : changeAt f q s = some (.ex c p, s')) : False := by
  obtain ⟨m, dd⟩ := q
  unfold changeAt at e
  cases m with
  | bp => cases e
  | sl i =>
    simp only at e
    split at e
    · obtain ⟨z, hz, e2⟩ := Option.map_eq_some_iff.mp e
      cases e2
    · cases e
  | fl l k =>
    simp only at e
    split at e
    · obtain ⟨z, hz, e2⟩ := Option.map_eq_some_iff.mp e
      cases e2
    · cases e
  | fz =>
    cases dd with
    | ref l =>
      simp only at e
      split at e
      · obtain ⟨z, hz, e2⟩ := Option.bind_eq_some_iff.mp e
        obtain ⟨z1, z2⟩ := z
        cases z1 <;> cases e2
      · obtain ⟨z, hz, e2⟩ := Option.bind_eq_some_iff.mp e
        obtain ⟨z1, z2⟩ := z
        cases z1 <;> cases e2
      · cases e
    | _ => cases e
/-! a place stays one while others run -/
theorem PlC.stay {q : Md × D} (x : Evo false W W') (tr : ∀ a r, W.g a = some r → ∃ o, W.H a = some o) (h : PlC G W t q v) (nf : isFl q.1 = false) : PlC G W' t q v := by
  obtain ⟨m, d⟩ := q
  cases m with
  | fz =>
    cases d with
    | ref l =>
      obtain ⟨e, hb⟩ := h
      have := x.box tr hb
      exact ⟨by rw [e, this.1], this.2⟩
    | _ => trivial
  | bp => trivial
  | sl i => exact h
  | fl l k => cases nf
end
section
variable {X : Cx} {G : Gm} {Wx : WX} {P : Pg} {n : Nat} {a b c o e i tg iter : Expr} {ea eb ec eo ee ei : Ex} {pos apos p p2 : Pos} {f : Bool} {es : List Expr} {xs : List Ex} {sts : List Stmt} {st : Stmt}
theorem sub_form {o i : Expr} {p : Pos} {env : PySem.Env} (hs : noSlice i = true) : ∀ v, assign (.Subscript o i p) env v = (do
      let ov ← holding [v] (eval o env)
      let iv ← holding [v, ov] (eval i env)
      standAt p
      holding [v, ov, iv] (setItem ov iv v)
      release [v, ov, iv] []) := fun v => by
  cases i <;> first | rfl | cases hs
theorem evS_one {s s' : Stt} {r : Ou (Bool × List D)} (e : evS P [ea] s = some (r, s')) : (∃ c, evR P ea s = some (.ok c, s') ∧ ∃ d, ((c = .fz d ∨ c = .own d) ∧ r = .ok (false, [d])) ∨ (c = .br d ∧ r = .ok (true, [d]))) ∨ ∃ c p, evR P ea s = some (.ex c p, s') ∧ r = .ex c p := by
  unfold evS at e
  rcases M.bind_some e with ⟨c, s1, e1, e2⟩ | ⟨c, p, e1, e2⟩
  · cases c with
    | fz d => unfold evS at e2; cases e2; exact .inl ⟨_, e1, d, .inl ⟨.inl rfl, rfl⟩⟩
    | own d => unfold evS at e2; cases e2; exact .inl ⟨_, e1, d, .inl ⟨.inr rfl, rfl⟩⟩
    | br d => unfold evS at e2; cases e2; exact .inl ⟨_, e1, d, .inr ⟨rfl, rfl⟩⟩
    | rd d => cases e2
  · exact .inr ⟨c, p, e1, e2⟩
/-! a thing, then another one beside its lock -/
theorem beside {α : Type} {W : Wd} {s s' : Stt} {t : L2.St} {q : Md × D} {v : V} {x : M α} {r : Ou α} (F : Fr G W s t) (p1 : PlR G W t q.1 q.2 v) (e : guardM q.1 x s = some (r, s')) :
    ∃ W1 s1 s2, W1.H = W.H ∧ Fr G W1 s1 t ∧ x s1 = some (r, s2) ∧ ∀ W2, Evo false W1 W2 → Fr G W2 s2 t → ∃ W3, Unl G W W2 W3 ∧ Fr G W3 s' t ∧ PlC G W3 t q v := by
  have e2 : guardL q.1 x s = some (r, s') ∧ ∀ l k, q.1 = .fl l k → ∃ d2, getFld l k s.S = some (.own d2) := by
    obtain ⟨m, d⟩ := q
    cases m with
    | fl l k =>
      unfold guardM at e
      simp only at e
      split at e
      · rename_i d2 hd2
        refine ⟨e, fun l' k' z => ?_⟩
        cases z; exact ⟨d2, hd2⟩
      · cases e
    | _ => exact ⟨e, fun l k z => by cases z⟩
  obtain ⟨W1, s1, s2, h1, F1, _, e1, back⟩ := guardL_ok F p1 e2.1
  refine ⟨W1, s1, s2, h1, F1, e1, fun W2 x2 F2 => ?_⟩
  obtain ⟨_, W3, u, F3, hf⟩ := back W2 x2 F2
  refine ⟨W3, u, F3, ?_⟩
  cases nf : isFl q.1 with
  | false => exact (p1.plc).stay u.evo F.rel.trk nf
  | true =>
    obtain ⟨m, d⟩ := q
    cases m with
    | fl l k =>
      obtain ⟨d2, hd2⟩ := e2.2 l k rfl
      exact hf l k rfl d2 hd2
    | _ => cases nf
/-! a value that is kept -/
theorem kept {W W0 : Wd} {s1 : Stt} {t : L2.St} {c : Cell} {x : D} {y : V} (tr : ∀ a r, W.g a = some r → ∃ o, W.H a = some o) (x0 : Evo false W W0) (F0 : Fr G W0 s1 t) (cr : CelR G W W0 c y) (hc : c = .fz x ∨ c = .own x) :
    ∃ W1, W1.H = W0.H ∧ Evo false W W1 ∧ Fr G W1 s1 t ∧ RZ G W1.fz x y := by
  rcases hc with hc | hc
  · subst hc
    exact ⟨W0, rfl, x0, F0, cr⟩
  · subst hc
    obtain ⟨b, eb, gb, lb, h0⟩ := cr
    subst eb
    obtain ⟨F1, r1⟩ := claim_fro F0 lb gb
    exact ⟨W0.sg b (some .fro), rfl, x0.claim h0 tr, F1, r1⟩
/-! a dict's item is stored -/
theorem keq_self (key : Key) : keq (keyD key) (keyD key) = some true := by
  cases key <;> simp [keyD, keq]
theorem putD_rz {U : Vw} {key : Key} {x : D} {y : V} (rx : RZ G U x y) : ∀ {kvs : List (Key × V)} {ds : List D}, RZs G U ds (kvs.map (·.2)) → RZs G U (putD (keyD key) x (kvs.map fun p => keyD p.1) ds) ((kvs.map fun kv => if kv.1 = key then (kv.1, y) else kv).map (·.2))
  | [], _, .nil => .nil
  | p :: kvs, _, .cons (d := d) r t => by
    have ih := putD_rz (key := key) rx (kvs := kvs) t
    show RZs G U ((if keq (keyD p.1) (keyD key) = some true then x else d) :: putD (keyD key) x (kvs.map fun p => keyD p.1) _) ((if p.1 = key then (p.1, y) else p).2 :: _)
    by_cases h : p.1 = key
    · rw [h, if_pos (keq_self key), if_pos rfl]
      exact .cons rx ih
    · rw [if_neg h, if_neg (fun e => h (of_decide_eq_true (keq_key e).symm))]
      exact .cons r ih
theorem put_keys {key : Key} {y : V} (kvs : List (Key × V)) : (kvs.map fun kv => if kv.1 = key then (kv.1, y) else kv).map (fun p => keyD p.1) = kvs.map fun p => keyD p.1 := by
  rw [List.map_map]
  apply List.map_congr_left
  intro p _
  show keyD (if p.1 = key then (p.1, y) else p).1 = keyD p.1
  split <;> rfl
theorem set_both (hu : X.A.units + 1 < cLine) : PSet X (fun o i v H Q => rSetL o i v H Q ∨ rSetD o i v H Q) := by
  intro pins s σ H o i v ov iv u Q I ro ri rv h
  rcases h with h | h
  · exact set_list pins s σ H o i v ov iv u Q I ro ri rv h
  · exact set_dict hu pins s σ H o i v ov iv u Q I ro ri rv h
theorem s_sset (C : Cxt X G) (hv : PE X e (tV G Wx P false ee)) (ho : PE X o (tV G Wx P false eo)) (hi : PE X i (tV G Wx P false ei)) (hs : noSlice i = true) : PS X (.Assign [.Subscript o i p] e pos) (tS G Wx P n (.sset eo ei ee)) := by
  have hsw : swapsWithSole [.Subscript o i p] e pos.line X.env = pure false := by
    unfold swapsWithSole
    unfold swapsWith
    cases e <;> rfl
  have hss : swappedStores [.Subscript o i p] e X.env = pure none := by
    unfold swappedStores
    cases e <;> rfl
  refine psImp (ps_asg (peR hv) (pg_sub (peE ho) (peE hi) (set_both (by have := C.hu; omega)) (sub_form hs)) hsw hss rfl) fun Dn t H ⟨W, s, r, s', hH, F, e, q⟩ => ?_
  subst hH
  unfold exec at e
  have tr := F.rel.trk
  rcases M.bind_some e with ⟨z, s1, e1, e2⟩ | ⟨cc, pp, e1, e2⟩
  · rcases evS_one e1 with ⟨c, ec, x, hx⟩ | ⟨_, _, _, er⟩
    · refine ⟨W, s, _, s1, rfl, F, ec, fun W0 y x0 F0 cr => ?_⟩
      rcases hx with ⟨hc, er⟩ | ⟨hc, er⟩
      · cases er
        obtain ⟨W1, h1, x1, F1, rx⟩ := kept tr x0 F0 cr hc
        rw [← h1]
        have e2 : ((ev P eo).bind fun v => if isFl v.1 && !simple ei then M.of none else (ev P ei).bind fun w => (changeAt (fun d => (setD d w.2 x).map fun z => (z, ())) v).bind fun _ => M.ok Fl.next) s1 = some (r, s') := e2
        rcases M.bind_some e2 with ⟨va, s2, e3, e4⟩ | ⟨cc, pp, e3, e4⟩
        · refine ⟨W1, s1, _, s2, rfl, F1, e3, fun W2 ov x2 F2 p2 _ => ?_⟩
          have x12 := x1.trans x2 tr
          have rx2 : RZ G W2.fz x y := RZ.stay (x2.fz F1.rel.trk) rx
          split at e4
          · cases e4
          · rename_i hn
            rcases M.bind_some e4 with ⟨w, s4, e5, e6⟩ | ⟨cc, pp, e5, e6⟩
            · refine ⟨W2, s2, _, s4, rfl, F2, e5, fun W4 iv x4 F4 p4 sm => ?_⟩
              have pc : PlC G W4 t va ov := by
                cases nf : isFl va.1 with
                | false => exact (p2.plc).stay x4 F2.rel.trk nf
                | true =>
                  have : simple ei = true := by
                    rw [nf] at hn
                    simpa using hn
                  rw [sm this]; exact p2.plc
              rcases M.bind_some e6 with ⟨u, s5, e8, e9⟩ | ⟨cc, pp, e8, e9⟩
              · cases e9
                obtain ⟨a, d, d', yy, ea, l, hf, _, ch⟩ := changeAt_ok F4 pc e8
                subst ea
                obtain ⟨d2, hd2, e10⟩ := Option.map_eq_some_iff.mp hf
                cases e10
                have rx4 : RZ G W4.fz x y := RZ.stay (x4.fz F2.rel.trk) rx2
                have wz := p4.tz
                cases l with
                | lst hl rl =>
                  rename_i ds vs
                  cases hw : w.2 with
                  | int k =>
                    rw [hw] at hd2 wz
                    obtain ⟨j, hj, e11⟩ := Option.map_eq_some_iff.mp (show (ixD ds.length k).map (fun j => D.lst (ds.set j x)) = some d' from hd2)
                    subst e11
                    rw [rl.length] at hj
                    refine .inl ⟨a, vs, k, j, rfl, wz.int, hl, hj, ?_⟩
                    have nl : LR G (W4.nw a (.lst (vs.set j y))) (.lst (ds.set j x)) a := .lst upd_same ((rl.set j rx4).stay (ch.fz _))
                    exact q (W4.nw a (.lst (vs.set j y))) t ((x12.trans x4 tr).weak.trans (ch.evo _) tr) (ch.fr _ nl)
                  | _ => rw [hw] at hd2; cases hd2
                | dic hl ek rl =>
                  rename_i ks ds kvs
                  have hd2 : (match kfind w.2 ks with
                    | some none => if ks.length < line then some (D.dic (ks ++ [w.2]) (ds ++ [x])) else none
                    | some (some _) => if ks.length < line then some (D.dic ks (putD w.2 x ks ds)) else none
                    | none => none) = some d' := hd2
                  cases hkf : kfind w.2 ks with
                  | none => rw [hkf] at hd2; cases hd2
                  | some oj =>
                    obtain ⟨key, hkey⟩ := kfind_isk hkf
                    rw [hkf] at hd2
                    have hyk : iv = kV key ∧ w.2 = keyD key := by
                      revert hkey wz
                      generalize w.2 = kd
                      intro wz hkey
                      cases kd <;> simp [kV'] at hkey
                      · subst hkey; exact ⟨wz.int, rfl⟩
                      · subst hkey; exact ⟨wz.str, rfl⟩
                    obtain ⟨hiv, hw⟩ := hyk
                    rw [hw] at hkf hd2
                    subst ek
                    have hk2 := kfind_key hkf
                    have fin : ∀ (kvs' : List (Key × V)) (dz : D), putK kvs key y = kvs' → (if (kvs.map fun p => keyD p.1).length < line then some dz else none) = some d' → (∀ ho, W4.H = W4.H → LR G (W4.nw a (.dK kvs')) dz a) → rSetD (.ref a) iv y W4.H (fun H2 => Dn.nx t H2) := fun kvs' dz e1 e2 nl => by
                      split at e2
                      · rename_i hlen
                        cases e2
                        rw [List.length_map] at hlen
                        subst hiv
                        refine ⟨a, _, rfl, DPut.k hl (by have := line_size (n := kvs.length + 1) (by omega); omega), ?_⟩
                        rw [e1]
                        exact q (W4.nw a (.dK kvs')) t ((x12.trans x4 tr).weak.trans (ch.evo _) tr) (ch.fr _ (nl () rfl))
                      · cases e2
                    refine .inr ?_
                    cases oj with
                    | none =>
                      have hk2 : valV kvs key = none := hk2
                      refine fin (kvs ++ [(key, y)]) _ ?_ hd2 fun _ _ => ?_
                      · unfold putK
                        rw [valV_any, hk2]
                        rfl
                      · refine .dic upd_same ?_ ?_
                        · rw [List.map_append]; rfl
                        · rw [List.map_append]
                          exact (rl.append (.cons rx4 .nil)).stay (ch.fz _)
                    | some j =>
                      obtain ⟨pp, g1, g2, g3⟩ := hk2
                      refine fin (kvs.map fun kv => if kv.1 = key then (kv.1, y) else kv) _ ?_ hd2 fun _ _ => ?_
                      · unfold putK
                        rw [valV_any, g3]
                        rfl
                      · exact .dic upd_same (put_keys kvs).symm ((putD_rz rx4 rl).stay (ch.fz _))
              · exact (changeAt_noex e8).elim
            · subst e6
              exact ⟨W2, s2, _, s', rfl, F2, e5, fun W' dx x' F' hx => q W' t dx (x12.trans x' tr).weak F' hx⟩
        · subst e4
          exact ⟨W1, s1, _, s', rfl, F1, e3, fun W' dx x' F' hx => q W' t dx (x1.trans x' tr).weak F' hx⟩
      · cases er; cases e2
    · cases er
  · rcases evS_one e1 with ⟨c, ec, x, hx⟩ | ⟨c, p, ec, er⟩
    · rcases hx with ⟨_, er⟩ | ⟨_, er⟩ <;> cases er
    · cases er
      subst e2
      exact ⟨W, s, _, s', rfl, F, ec, fun W' dx x' F' hx => q W' t dx x'.weak F' hx⟩

/-! ### methods that change a list -/
def mmId : MM → String
  | .append => "list.append" | .pop => "list.pop" | .popAt => "list.pop" | .extend => "list.extend" | .insert => "list.insert" | .clear => "list.clear" | .remove => "list.remove" | .reverse => "list.reverse"
/-! what a change of the list at a asks: its items, the new ones' data -/
def rMut (G : Gm) (m : MM) : V → List V → Hp → VK → Prop := fun x vs H Q => ∃ W a d ds d' y, W.H = H ∧ x = .ref a ∧ LR G W d a ∧ RZs G W.fz ds vs ∧ mutD m d ds = some (d', y) ∧ (∀ ho, Stay W.fz (W.nw a ho).fz) ∧
  ∀ ho v, LR G (W.nw a ho) d' a → RZ G (W.nw a ho).fz y v → Q v (upd H a ho)
theorem seqIx {n : Nat} {i : Int} {j : Nat} (h : ixD n i = some j) : seqIndex? i n = some j := (ixN_seq (n := n) (i := i) (j := j) h).1
theorem callMut : ∀ m : MM, MtR X (mmId m) (rMut G m) := by
  intro m pins s σ H x vs v us Q I rx rs ⟨W, a, d, ds, d', y, hH, ex, l, r, e, st, fin⟩
  subst hH ex
  cases l with
  | dic hl _ _ => cases m <;> cases e
  | lst hl rl =>
    rename_i xs zs
    cases m with
    | append =>
      cases r with
      | nil => cases e
      | cons r1 r2 =>
        cases r2 with
        | cons => cases e
        | nil =>
          rename_i d1 v1
          have e : (if xs.length < line then some (D.lst (xs ++ [d1]), D.non) else none) = some (d', y) := e
          split at e
          · rename_i hlt
            cases e
            refine mt_append pins s σ W.H _ _ v us Q I rx rs ⟨a, zs, v1, rfl, rfl, hl, ?_, fin _ _ (.lst upd_same ((rl.append (.cons r1 .nil)).stay (st _))) .non⟩
            rw [← rl.length]
            have := sizeLine_eq
            have : xs.length < 4000000 := hlt
            omega
          · cases e
    | pop =>
      cases r with
      | cons => cases e
      | nil =>
        obtain ⟨z, hz, e2⟩ := Option.map_eq_some_iff.mp (show (xs[xs.length - 1]?).map (fun y => (D.lst xs.dropLast, y)) = some (d', y) from e)
        cases e2
        obtain ⟨w, hw, rw'⟩ := rl.get hz
        exact mt_pop pins s σ W.H _ _ v us Q I rx rs ⟨a, zs, w, rfl, rfl, hl, by rw [← rl.length]; exact hw, fin _ _ (.lst upd_same (rl.dropLast.stay (st _))) (RZ.stay (st _) rw')⟩
    | popAt =>
      cases r with
      | nil => cases e
      | cons r1 r2 =>
        cases r2 with
        | cons => rename_i d1 v1 d2 v2 _ _ _ _; cases d1 <;> cases e
        | nil =>
          rename_i d1 v1
          cases d1 with
          | int i =>
            have e : (if -(2 ^ 63) ≤ i ∧ i < 2 ^ 63 then (ixD xs.length i).bind fun j => (xs[j]?).map fun y => (D.lst (xs.eraseIdx j), y) else none) = some (d', y) := e
            split at e
            · rename_i hb
              obtain ⟨j, hj, e1⟩ := Option.bind_eq_some_iff.mp e
              obtain ⟨z, hz, e2⟩ := Option.map_eq_some_iff.mp e1
              cases e2
              obtain ⟨w, hw, rw'⟩ := rl.get hz
              cases r1
              exact mt_popAt pins s σ W.H _ _ v us Q I rx rs ⟨a, zs, i, j, w, rfl, rfl, hl, hb.1, hb.2, by rw [← rl.length]; exact seqIx hj, hw, fin _ _ (.lst upd_same ((rl.eraseIdx j).stay (st _))) (RZ.stay (st _) rw')⟩
            · cases e
          | _ => cases e
    | clear =>
      cases r with
      | cons => cases e
      | nil =>
        cases e
        exact mt_clear pins s σ W.H _ _ v us Q I rx rs ⟨a, zs, rfl, rfl, hl, fin _ _ (.lst upd_same .nil) .non⟩
    | reverse =>
      cases r with
      | cons => cases e
      | nil =>
        cases e
        exact mt_reverse pins s σ W.H _ _ v us Q I rx rs ⟨a, zs, rfl, rfl, hl, fin _ _ (.lst upd_same (rl.reverse.stay (st _))) .non⟩
    | _ => cases ds <;> (try cases e) <;> (rename_i dd _; cases dd <;> (try cases e) )
/-! the expression o.m(..), its new list and answer -/
def tMut (G : Gm) (Wx : WX) (P : Pg) (m : MM) (o : Ex) (xs : List Ex) : TE := fun t H Q => ∃ W s r s', W.H = H ∧ Fr G W s t ∧ ((ev P o).bind fun v => (isLst v).bind fun _ => (guardM v.1 (evS P xs)).bind fun q => if q.1 then M.of none else changeAt (fun d => mutD m d q.2) v) s = some (r, s') ∧
  match r with
  | .ok y => ∀ W' v, Evo true W W' → Fr G W' s' t → RZ G W'.fz y v → Q v W'.H
  | .ex c p => ExQ G Wx W s' t c p
theorem isLst_some {v : Md × D} {s s' : Stt} {r : Ou Unit} (e : isLst v s = some (r, s')) : s' = s ∧ r = .ok () ∧ ∃ m xs, unbox s.S v = some (m, .lst xs) := by
  unfold isLst at e
  split at e
  · rename_i m xs h
    cases e
    exact ⟨rfl, rfl, m, xs, h⟩
  · cases e
theorem mut_imp (C : Cxt X G) {m : MM} {t : L2.St} {H : Hp} {Q : VK} (h : tMut G Wx P m eo xs t H Q) : tBM X.K "list" (rMut G m) (tE G Wx P eo) (tSs G Wx P xs) t H Q := by
  obtain ⟨W, s, r, s', hH, F, e, q⟩ := h
  subst hH
  have tr := F.rel.trk
  rcases M.bind_some e with ⟨va, s1, e1, e2⟩ | ⟨cc, pp, e1, e2⟩
  · refine ⟨W, s, _, s1, rfl, F, e1, fun W1 x x1 F1 p1 _ => ?_⟩
    rcases M.bind_some e2 with ⟨u, s2, e3, e4⟩ | ⟨cc, pp, e3, e4⟩
    · obtain ⟨hs2, _, md, zs, hu⟩ := isLst_some e3
      subst hs2
      refine ⟨?_, ?_⟩
      · obtain ⟨a, vs, ex, h1, _⟩ := (unbox_ok F1 p1 hu).list
        subst ex
        exact .inl ⟨rfl, vs, C.K ▸ h1⟩
      · rcases M.bind_some e4 with ⟨qq, s3, e5, e6⟩ | ⟨cc, pp, e5, e6⟩
        · obtain ⟨Wg, sg, s4, hgH, Fg, eg, back⟩ := beside F1 p1 e5
          rw [← hgH]
          refine ⟨Wg, sg, _, s4, rfl, Fg, eg, fun W2 vs x2 F2 rz => ?_⟩
          obtain ⟨W3, u3, F3, pc⟩ := back W2 x2 F2
          split at e6
          · cases e6
          · rename_i hq
            have hq : qq.1 = false := by simpa using hq
            rw [hq] at rz
            obtain ⟨a, d, d', y, ea, l, hf, er, ch⟩ := changeAt_ok F3 pc e6
            subst ea er
            refine ⟨W3, a, d, qq.2, d', y, u3.H, rfl, l, rz.stay u3.fz, hf, ch.fz, fun ho v nl ry => ?_⟩
            rw [← u3.H]
            exact q (W3.nw a ho) v ((x1.trans u3.evo tr).weak.trans (ch.evo ho) tr) (ch.fr ho nl) ry
        · subst e6
          obtain ⟨Wg, sg, s4, hgH, Fg, eg, back⟩ := beside F1 p1 e5
          rw [← hgH]
          refine ⟨Wg, sg, _, s4, rfl, Fg, eg, fun W2 dx x2 F2 hx => ?_⟩
          obtain ⟨W3, u3, F3, _⟩ := back W2 x2 F2
          rw [← u3.H]
          exact q W3 dx (x1.trans u3.evo tr) F3 (unl_ex u3 hx)
    · cases (isLst_some e3).2.1
  · subst e2
    exact ⟨W, s, _, s', rfl, F, e1, q⟩
theorem mut_end {tgt : Option Nat} {m : MM} {D : Ends} {t : L2.St} {H : Hp} (h : tS G Wx P n (.mut tgt m eo xs) D t H) :
    tMut G Wx P m eo xs t H fun v H' => match tgt with
      | some i => D.nx (t.set i (some v)) H'
      | none => D.nx t H' := by
  obtain ⟨W, s, r, s', hH, F, e, q⟩ := h
  unfold exec at e
  have split : ∃ r0 s0, ((ev P eo).bind fun v => (isLst v).bind fun _ => (guardM v.1 (evS P xs)).bind fun q => if q.1 then M.of none else changeAt (fun d => mutD m d q.2) v) s = some (r0, s0) ∧
      ((∃ y, r0 = .ok y ∧ putT tgt y s0 = some (r, s')) ∨ ∃ c p, r0 = .ex c p ∧ r = .ex c p ∧ s0 = s') := by
    rcases M.bind_some e with ⟨va, s1, e1, e2⟩ | ⟨c, p, e1, e2⟩
    · rcases M.bind_some e2 with ⟨u, s2, e3, e4⟩ | ⟨c, p, e3, e4⟩
      · rcases M.bind_some e4 with ⟨qq, s3, e5, e6⟩ | ⟨c, p, e5, e6⟩
        · have lead : ((ev P eo).bind fun v => (isLst v).bind fun _ => (guardM v.1 (evS P xs)).bind fun q => if q.1 then M.of none else changeAt (fun d => mutD m d q.2) v) s = (if qq.1 then M.of none else changeAt (fun d => mutD m d qq.2) va) s3 := by
            unfold M.bind
            rw [e1]
            simp only
            rw [e3]
            simp only
            rw [e5]
          rw [lead]
          split at e6
          · cases e6
          · rename_i hq
            rw [if_neg hq]
            rcases M.bind_some e6 with ⟨y, s4, e7, e8⟩ | ⟨c, p, e7, e8⟩
            · exact ⟨_, s4, e7, .inl ⟨y, rfl, e8⟩⟩
            · exact (changeAt_noex e7).elim
        · refine ⟨.ex c p, s', ?_, .inr ⟨c, p, rfl, e6, rfl⟩⟩
          unfold M.bind
          rw [e1]
          simp only
          rw [e3]
          simp only
          rw [e5]
      · cases (isLst_some e3).2.1
    · refine ⟨.ex c p, s', ?_, .inr ⟨c, p, rfl, e2, rfl⟩⟩
      unfold M.bind
      rw [e1]
  obtain ⟨r0, s0, h1, h2⟩ := split
  refine ⟨W, s, r0, s0, hH, F, h1, ?_⟩
  rcases h2 with ⟨y, er, e2⟩ | ⟨c, p, er, er2, es⟩
  · subst er
    intro W' v x' F' ry
    cases tgt with
    | none => cases e2; exact q W' t x' F'
    | some i => cases e2; exact q W' _ x' (F'.set (c := .fz y) ry)
  · subst er er2 es
    exact fun W' dx x' F' hx => q W' t dx x'.weak F' hx
end
end Lk

namespace Lk
open PySem L2 PyProof.Rows

section
variable {X : Cx} {G : Gm} {Wx : WX} {P : Pg} {n : Nat} {a b c o e i tg iter elt : Expr} {ea eb ec eo ee ei : Ex} {pos apos p p2 spos : Pos} {f : Bool} {es : List Expr} {xs : List Ex} {sts : List Stmt} {st : Stmt}
theorem few_ok {cpos : Pos} {env : PySem.Env} (hs : (a :: es).all noStar = true) (hn : (a :: es).length < 30) : ((backTo cpos (starEach (a :: es) env)).all (fun x => !x.1) && (backToKw cpos (keywordEach [] env)).all (fun x => x.1.isSome)
      && decide ((a :: es).length + ([] : List Keyword).length + (if ([] : List Keyword).isEmpty then 0 else 1) < 30)) = true := by
  rw [backTo_all hs]
  have : backToKw cpos (keywordEach [] env) = [] := rfl
  rw [this]
  simpa using hn
theorem tss_nil {t : L2.St} {H : Hp} {Q : List V → Hp → Prop} (h : tSs G Wx P [] t H Q) : Q [] H := by
  obtain ⟨W, s, r, s', hH, F, e, q⟩ := h
  subst hH
  unfold evS at e
  cases e
  exact q W [] .refl F .nil
def mmName : MM → Str
  | .append => "append" | .pop => "pop" | .popAt => "pop" | .extend => "extend" | .insert => "insert" | .clear => "clear" | .remove => "remove" | .reverse => "reverse"
theorem bm0_imp {T : String} {r : V → List V → Hp → VK → Prop} {t : L2.St} {H : Hp} {Q : VK} (h : tBM X.K T r (tE G Wx P eo) (tSs G Wx P []) t H Q) : tBM0 X.K T r (tE G Wx P eo) t H Q :=
  tE_mono h fun v H1 ⟨h1, h2⟩ => ⟨h1, tss_nil h2⟩
theorem pe_mut (C : Cxt X G) (m : MM) (ho : PE X o (tV G Wx P false eo)) (hs : PA X (a :: es) (tSs G Wx P xs)) (hl : (a :: es).all noStar = true) (hbo : baseOk o = true) (hn : (a :: es).length < 30) (hli : (apos.endLine == pos.line) = true) (hm : m = .append ∨ m = .popAt) :
    PE X (.Call (.Attribute o (mmName m) apos) (a :: es) [] pos) (tMut G Wx P m eo xs) := by
  have h2 := hl
  rw [List.all_cons, Bool.and_eq_true] at h2
  rcases hm with rfl | rfl
  · exact peImp (pe_bm PySem.F.plainAttrs_list PySem.F.slot_list_append PySem.F.type_list_append (callMut .append) (peE ho) hs (base_ok hbo) (few_ok hl hn) hli (star_cons h2.1) (star_none h2.2)) fun t H Q h => mut_imp C h
  · exact peImp (pe_bm PySem.F.plainAttrs_list PySem.F.slot_list_pop PySem.F.type_list_pop (callMut .popAt) (peE ho) hs (base_ok hbo) (few_ok hl hn) hli (star_cons h2.1) (star_none h2.2)) fun t H Q h => mut_imp C h
theorem pe_mut0 (C : Cxt X G) (m : MM) (ho : PE X o (tV G Wx P false eo)) (hbo : baseOk o = true) (hli : (apos.endLine == pos.line) = true) (hm : m = .pop ∨ m = .clear ∨ m = .reverse) :
    PE X (.Call (.Attribute o (mmName m) apos) [] [] pos) (tMut G Wx P m eo []) := by
  rcases hm with rfl | rfl | rfl
  · exact peImp (pe_bm0 PySem.F.plainAttrs_list PySem.F.slot_list_pop PySem.F.type_list_pop (callMut .pop) (peE ho) (base_ok hbo) hli) fun t H Q h => bm0_imp (mut_imp C h)
  · exact peImp (pe_bm0 PySem.F.plainAttrs_list PySem.F.slot_list_clear PySem.F.type_list_clear (callMut .clear) (peE ho) (base_ok hbo) hli) fun t H Q h => bm0_imp (mut_imp C h)
  · exact peImp (pe_bm0 PySem.F.plainAttrs_list PySem.F.slot_list_reverse PySem.F.type_list_reverse (callMut .reverse) (peE ho) (base_ok hbo) hli) fun t H Q h => bm0_imp (mut_imp C h)
theorem s_mut {m : MM} (h : PE X e (tMut G Wx P m eo xs)) (hc : notComp e = true) : PS X (.Expr e pos) (tS G Wx P n (.mut none m eo xs)) :=
  psImp (ps_expr h (no_swap hc)) fun D t H h => mut_end h
theorem s_mutT {m : MM} {i : Nat} {y : Str} (C : Cxt X G) (hi : X.N[i]? = some y) (hy : Loc X.env.scope y) (hf : X.fn y = true ∨ X.env.scope.names.lookup y = some .local) (h : PE X e (tMut G Wx P m eo xs)) (hc : notComp e = true) : PS X (.Assign [.Name y p] e pos) (tS G Wx P n (.mut (some i) m eo xs)) :=
  psImp (ps_set C.nd hi hy h (no_swap hc) hf) fun D t H h => mut_end h

/-! ### comprehensions as values, and given to a name -/
def noFold : Expr → Bool
  | .Set _ _ _ => false
  | _ => true
theorem no_fold {iter : Expr} {env : PySem.Env} (h : noFold iter = true) : ∀ x, foldedSetIterable iter env x = pure x := fun x => by
  cases iter <;> first | rfl | cases h
theorem e_comp (C : Cxt X G) (hc : X.calm = true) {it : It} {pat : Pat} {src cond : List Ex} {ifs : List Expr} {scope : Scope} {own : List (Str × Nat)} (hi : PI X tg iter (tIt G Wx P it src)) (ok : BlkOk X.N X.env.scope scope own)
    (hg : ∀ (s : Shared) (H : Hp) (C : Addr) (cl : List (Str × Addr)) (fp : List Addr), PG (X.blk s H scope (compEnvC scope cl C X.env) fp) tg (gPat X.K pat))
    (ht : ∀ (s : Shared) (H : Hp) (C : Addr) (cl : List (Str × Addr)) (fp : List Addr), PTs (X.blk s H scope (compEnvC scope cl C X.env) fp) ifs (tC G WxF P cond))
    (he : ∀ (s : Shared) (H : Hp) (C : Addr) (cl : List (Str × Addr)) (fp : List Addr), PE (X.blk s H scope (compEnvC scope cl C X.env) fp) elt (tV G WxF P false ee))
    (hp : ∀ i ∈ patIs pat, i ∈ own.map (·.2)) (hs : noFold iter = true) : PE X (.ListComp elt [⟨tg, iter, ifs, 0⟩] scope pos) (tV G Wx P f (.comp ee pat it src cond (own.map (·.2)))) :=
  peImp (pe_lc hc C.nd hi ok hg ht (fun s H C cl fp => peR (he s H C cl fp)) (no_fold hs)) (v_comp C hi ok hg ht he hp)
theorem s_asgC (C : Cxt X G) (hc : X.calm = true) {i : Nat} {y : Str} {it : It} {pat : Pat} {src cond : List Ex} {ifs : List Expr} {scope : Scope} {own : List (Str × Nat)} (hyi : X.N[i]? = some y) (hyl : X.env.scope.names.lookup y = some .local) (hk : X.env.scope.kind = .function) (hln : (p.line == pos.line) = true)
    (hna : (scope.names.any fun (n, k) => n == y && (k == .local || k == .cell)) = false) (hi : PI X tg iter (tIt G Wx P it src)) (ok : BlkOk X.N X.env.scope scope own)
    (hg : ∀ (s : Shared) (H : Hp) (C : Addr) (cl : List (Str × Addr)) (fp : List Addr), PG (X.blk s H scope (compEnvC scope cl C X.env) fp) tg (gPat X.K pat))
    (ht : ∀ (s : Shared) (H : Hp) (C : Addr) (cl : List (Str × Addr)) (fp : List Addr), PTs (X.blk s H scope (compEnvC scope cl C X.env) fp) ifs (tC G WxF P cond))
    (he : ∀ (s : Shared) (H : Hp) (C : Addr) (cl : List (Str × Addr)) (fp : List Addr), PE (X.blk s H scope (compEnvC scope cl C X.env) fp) elt (tV G WxF P false ee))
    (hp : ∀ i ∈ patIs pat, i ∈ own.map (·.2)) (hs : noFold iter = true) : PS X (.Assign [.Name y p] (.ListComp elt [⟨tg, iter, ifs, 0⟩] scope pos) spos) (tS G Wx P n (.asg i (.comp ee pat it src cond (own.map (·.2))))) :=
  psImp (ps_setLc hc C.nd hyi hyl (sw_true hk hyl hln hna) hi ok hg ht (fun s H C cl fp => peR (he s H C cl fp)) (no_fold hs)) fun D t H h => v_comp (f := false) C hi ok hg ht he hp t H _ (tR_tV (asg_imp h))
end
end Lk

namespace Lk
open PySem L2 PyProof.Rows

/-! ### slices -/
section
variable {G : Gm} {W : Wd} {p : Bool} {d : D} {v x : V}
def rSl (G : Gm) : V → Option Int → Option Int → Hp → VK → Prop := fun x lo hi H Q => ∃ W p da d, W.H = H ∧ TZ G W p da x ∧ slcD lo hi da = some d ∧ Fin G W p d Q
theorem sli_eq (n d : Nat) (o : Option Int) : sliX n d o = HT.sIx n d o := by
  cases o with
  | none => rfl
  | some v =>
    show (if v < 0 then max (v + (n : Int)) 0 else min v (n : Int)).toNat = _
    rw [HT.clip_eq v n d, Int.toNat_natCast]
theorem cut_eq {U : Vw} {ds : List D} {vs : List V} (r : RZs G U ds vs) (lo hi : Option Int) : RZs G U (cutL ds lo hi) (cutV vs lo hi) := by
  unfold cutL cutV
  rw [sli_eq, sli_eq, r.length]
  exact (r.drop _).take _
variable {X : Cx}
theorem slAll (C : Cxt X G) : SlR X (rSl G) := by
  intro pins s σ H x v vl vu lo hi sl Q I rx hs pl pu ⟨W, p, da, d, hH, ta, e, k⟩
  subst hH
  cases da with
  | lst xs =>
    cases e
    obtain ⟨a, vs, ex, h1, r⟩ := ta.list
    exact sl_list pins s σ W.H x v vl vu lo hi sl Q I rx hs pl pu ⟨a, vs, ex, C.K ▸ h1, fun q hq => k (W.nw q _) _ (.nw hq) (new_lst hq (cut_eq r lo hi)) fun z => by cases z⟩
  | tup xs =>
    cases e
    obtain ⟨a, vs, ex, h1, r⟩ := ta.tuple
    refine sl_tupA pins s σ W.H x v vl vu lo hi sl Q I rx hs pl pu ⟨a, vs, ex, C.K ▸ h1, fun hw => ?_, fun _ q hq => k (W.nw q _) _ (.nw hq) (new_tup hq (cut_eq r lo hi)) fun z => by cases z⟩
    have e1 : cutL xs lo hi = xs := by
      unfold cutL
      rw [sli_eq, sli_eq, r.length, hw.1, hw.2, List.drop_zero, Nat.sub_zero, ← r.length, List.take_length]
    rw [e1] at k
    subst ex
    exact k W _ .refl (new_same ta) fun _ => rfl
  | _ => cases e
end
section
variable {X : Cx} {G : Gm} {Wx : WX} {P : Pg} {a b c o : Expr} {ea eb ec eo el eh : Ex} {pos apos p p2 : Pos} {f : Bool} {es : List Expr} {xs : List Ex}
theorem poImp {e : Option Expr} {t t' : TO} (h : PO X e t) (i : ∀ σ H Q, t' σ H Q → t σ H Q) : PO X e t' := ⟨fun pins s σ H Q I q => h.run pins s σ H Q I (i _ _ _ q)⟩
def tO (G : Gm) (Wx : WX) (P : Pg) (x : Ex) : TO := fun t H Q => ∃ W s r s', W.H = H ∧ Fr G W s t ∧ ev P x s = some (r, s') ∧
  match r with
  | .ok q => ∃ o, partD (isNonE x) q.2 = some o ∧ ∀ W', Evo false W W' → Fr G W' s' t → Q o W'.H
  | .ex c p => ExQ G Wx W s' t c p
theorem part_none : PO X none (tO G Wx P .non) := poImp po_none fun t H Q ⟨W, s, r, s', hH, F, e, q⟩ => by
  subst hH
  have e : (M.ok (Vl.pl .fz .non)).bind asV s = some (r, s') := by
    unfold ev evV at e; exact e
  cases e
  obtain ⟨o, ho, q⟩ := q
  cases ho
  exact q W .refl F
theorem part_some (h : PE X a (tV G Wx P false ea)) (hn : isNonE ea = false) : PO X (some a) (tO G Wx P ea) := poImp (po_some (peE h)) fun t H Q ⟨W, s, r, s', hH, F, e, q⟩ => by
  refine ⟨W, s, r, s', hH, F, e, ?_⟩
  cases r with
  | ex c p => exact q
  | ok va =>
    intro W1 v x1 F1 p1 _
    obtain ⟨o, ho, q⟩ := q
    rw [hn] at ho
    obtain ⟨m, d⟩ := va
    cases d with
    | int i =>
      cases ho
      exact ⟨i, p1.tz.int, q W1 x1 F1⟩
    | _ => cases ho
theorem v_slc (C : Cxt X G) {lo hi : Option Expr} (ha : PE X a (tV G Wx P false ea)) (hl : PO X lo (tO G Wx P el)) (hh : PO X hi (tO G Wx P eh)) : PE X (.Subscript a (.Slice lo hi none p2) pos) (tV G Wx P f (.slc ea el eh)) := by
  refine peImp (pe_slice (slAll C) (peE ha) hl hh) fun t H Q ⟨W, s, r, s', hH, F, e, q⟩ => ?_
  subst hH
  unfold evV at e
  have tr := F.rel.trk
  rcases M.bind_some e with ⟨va, s1, e1, e2⟩ | ⟨c, p, e1, e2⟩
  · refine ⟨W, s, _, s1, rfl, F, e1, fun W1 x x1 F1 p1 _ => ?_⟩
    obtain ⟨Wg, sg, s2, hgH, Fg, ⟨ag, agk, _⟩, eg, back⟩ := guardL_ok F1 p1 e2
    have trg := Fg.rel.trk
    have exb : ∀ {W2 : Wd} {c p}, Evo false Wg W2 → r = .ex c p → ExQ G Wx W2 s2 t c p := fun {W2 c p} x2 er W3 dx x3 F3 hx => by
      subst er
      obtain ⟨_, W4, u, F4, _⟩ := back W3 (x2.trans x3 trg) F3
      rw [← u.H]
      exact q W4 dx (x1.trans u.evo tr) F4 (unl_ex u hx)
    rw [← hgH]
    rcases M.bind_some eg with ⟨vl, s3, e3, e4⟩ | ⟨c, p, e3, e4⟩
    · cases hpl : partD (isNonE el) vl.2 with
      | none => rw [hpl] at e4; cases e4
      | some l =>
      rw [hpl] at e4
      rcases M.bind_some e4 with ⟨vh, s4, e5, e6⟩ | ⟨c, p, e5, e6⟩
      · obtain ⟨cc, h1, h2, h3⟩ := cell_some e6
        subst h2 h3
        cases hph : partD (isNonE eh) vh.2 with
        | none => rw [hph] at h1; cases h1
        | some h =>
        rw [hph] at h1
        obtain ⟨d, h4, h5⟩ := Option.map_eq_some_iff.mp h1
        subst h5
        refine ⟨Wg, sg, _, s3, rfl, Fg, e3, l, hpl, fun W2 x2 F2 => ⟨W2, s3, _, s2, rfl, F2, e5, h, hph, fun W3 x3 F3 => ?_⟩⟩
        have x23 := x2.trans x3 trg
        obtain ⟨tz3, W3', u', F3', _⟩ := back W3 x23 F3
        refine ⟨W3, _, va.2, d, rfl, tz3, h4, Fin.of (sx := false) (fun W4 v g n _ => ?_) fun z => by cases z⟩
        obtain ⟨_, W5, un, F5, _⟩ := back W4 (x23.trans g.evo trg) (g.fr F3)
        obtain ⟨W6, h6, x6, F6, c6, _⟩ := pre_fin (W2 := W3) (x1.trans un.evo tr) tr un.H un.fz un.bp (fun a ha => ⟨un.free a (by rw [g.g]; exact F3.rel.free ha), (x1.trans u'.evo tr).hnone (by rw [u'.H]; exact ha)⟩) F5 n
        rw [← h6]
        exact q W6 v x6 F6 c6 fun z => by cases z
      · subst e6
        exact ⟨Wg, sg, _, s3, rfl, Fg, e3, l, hpl, fun W2 x2 F2 => ⟨W2, s3, _, s2, rfl, F2, e5, exb x2 rfl⟩⟩
    · subst e4
      exact ⟨Wg, sg, _, s2, rfl, Fg, e3, exb .refl rfl⟩
  · subst e2
    exact ⟨W, s, _, s', rfl, F, e1, q⟩

/-! ### list(range(..)) -/
theorem rg_eq {U : Vw} (a b : Int) : RZs G U (rngD a (b - a).toNat) (rgV a b) := by
  unfold rngD rgV
  generalize (b - a).toNat = n
  generalize List.range n = l
  induction l with
  | nil => exact .nil
  | cons k l ih => exact .cons (.int _) ih
theorem own_end {W : Wd} {s' : Stt} {t : L2.St} {Q : VK} {W1 : Wd} {ds : List D} {vs : List V} {q : Addr} (tr : ∀ a r, W.g a = some r → ∃ o, W.H a = some o) (x1 : Evo false W W1) (F1 : Fr G W1 s' t) (hq : W1.H q = none) (r : RZs G W1.fz ds vs)
    (k : EndV G Wx false W s' t Q (.ok (.nw (.own (.lst ds))))) : Q (.ref q) (upd W1.H q (.lst vs)) := by
  have g : Grow W1 (W1.nw q (.lst vs)) := .nw hq
  have n := new_pre (new_lst (G := G) (p := false) hq r)
  have ec : cellNew false (.lst ds) = .own (.lst ds) := by unfold cellNew; rw [if_neg (by simp)]
  rw [ec] at n
  obtain ⟨W5, h5, x5, F5, c5, _⟩ := pre_fin (W2 := W1) (x1.trans g.evo tr) tr rfl .refl .refl (fun a ha => ⟨by rw [g.g]; exact F1.rel.free ha, x1.hnone ha⟩) (g.fr F1) n
  show Q (.ref q) (W1.nw q (.lst vs)).H
  rw [← h5]
  exact k W5 _ x5 F5 c5 fun z => by cases z
theorem line24 {n : Nat} (h : n ≤ line) : n ≤ 2 ^ 24 := by unfold line at h; omega
theorem v_rngL (C : Cxt X G) (hc : X.calm = true) (ha : PE X a (tV G Wx P false ea)) (ns : noStar a = true) (hg : Gl X "list") (hm : X.mg "list" = none) (hg2 : Gl X "range") (hm2 : X.mg "range" = none) : PE X (.Call (.Name "list" p) [.Call (.Name "range" p2) [a] [] apos] [] pos) (tV G Wx P f (.rngL [ea])) := by
  refine peImp (pe_listRg hc hg hm (prg_1 hg2 hm2 (peE ha) (star_cons ns)) rfl) fun t H Q ⟨W, s, r, s', hH, F, e, q⟩ => ?_
  subst hH
  unfold evV at e
  rcases M.bind_some e with ⟨vs, s1, e1, e2⟩ | ⟨c, p, e1, e2⟩
  · rcases evI_one e1 with ⟨va, e3, er⟩ | ⟨_, _, _, er⟩
    · cases er
      obtain ⟨c, h1, h2, h3⟩ := cell_some e2
      subst h2 h3
      refine ⟨W, s, _, s', rfl, F, e3, fun W1 x x1 F1 p1 _ => ?_⟩
      obtain ⟨m, d⟩ := va
      cases d with
      | int n =>
        have h1 : (match (if ltB n then some (rngD 0 n.toNat) else none) with
          | some items => if items.length ≤ line then some (Cell.own (.lst items)) else none
          | none => none) = some c := h1
        split at h1
        · rename_i items hi
          split at hi
          · rename_i hb
            cases hi
            split at h1
            · rename_i hl
              cases h1
              have hl' : (rngD 0 n.toNat).length = n.toNat := by unfold rngD; simp
              obtain ⟨b1, b2⟩ := ltB_ok hb
              refine ⟨n, p1.tz.int, ⟨by omega, by omega, b1, b2, by have := line24 hl; rw [hl'] at this; simpa using this⟩, fun q' hq => ?_⟩
              have := rg_eq (G := G) (U := W1.fz) 0 n
              rw [Int.sub_zero] at this
              exact own_end F.rel.trk x1 F1 hq this q
            · cases h1
          · cases hi
        · cases h1
      | _ => cases h1
    · cases er
  · rcases evI_one e1 with ⟨_, _, er⟩ | ⟨_, _, e3, er⟩
    · cases er
    · cases er
      subst e2
      exact ⟨W, s, _, s', rfl, F, e3, q⟩

/-! ### isinstance of built-in types -/
def tyName : Ty → String
  | .int => "int" | .bl => "bool" | .str => "str" | .lst => "list" | .tup => "tuple" | .dic => "dict" | .cls _ => "?"
theorem tyx_ok {W : Wd} {pb : Bool} {d : D} {x : V} {ty : Ty} {b : Bool} (h : TZ G W pb d x) (e : isiD ty d = some b) (hty : ty = .int ∨ ty = .bl ∨ ty = .str ∨ ty = .lst ∨ ty = .tup) : ∃ T, TyX G.K W.H x (.type T) ∧ PySem.W.kitOne G.K (.type T) (.type (tyName ty)) = some b := by
  have base : ∀ {T : String}, TyX G.K W.H x (.type T) → kitB T (tyName ty) = some b → ∃ T, TyX G.K W.H x (.type T) ∧ PySem.W.kitOne G.K (.type T) (.type (tyName ty)) = some b := fun {T} h1 h2 => ⟨T, h1, kit_ty h2⟩
  cases d with
  | non =>
    have := h.non
    subst this
    refine base (.base .non) ?_
    rcases hty with rfl | rfl | rfl | rfl | rfl <;> (cases e; decide +kernel)
  | bl c =>
    have := h.bl
    subst this
    refine base (.base (.bl c)) ?_
    rcases hty with rfl | rfl | rfl | rfl | rfl <;> (cases e; decide +kernel)
  | int c =>
    have := h.int
    subst this
    refine base (.base (.int c)) ?_
    rcases hty with rfl | rfl | rfl | rfl | rfl <;> (cases e; decide +kernel)
  | str c =>
    have := h.str
    subst this
    refine base (.base (.str c)) ?_
    rcases hty with rfl | rfl | rfl | rfl | rfl <;> (cases e; decide +kernel)
  | tup xs =>
    obtain ⟨a, vs, rfl, h1, _⟩ := h.tuple
    have ht : TyX G.K W.H (.ref a) (.type "tuple") := by
      rcases h1 with (h1 | ⟨o, h1⟩) | ⟨o, its, n, h1, h2, _⟩
      · exact .base (.tup h1)
      · exact .fTuple h1
      · exact .kTuple h1 h2
    refine base ht ?_
    rcases hty with rfl | rfl | rfl | rfl | rfl <;> (cases e; decide +kernel)
  | lst xs =>
    obtain ⟨a, vs, rfl, h1, _⟩ := h.list
    have ht : TyX G.K W.H (.ref a) (.type "list") := by
      rcases h1 with (h1 | ⟨o, h1⟩) | ⟨o, its, n, h1, h2, _⟩
      · exact .base (.lst h1)
      · exact .base (.frz h1)
      · exact .kList h1 h2
    refine base ht ?_
    rcases hty with rfl | rfl | rfl | rfl | rfl <;> (cases e; decide +kernel)
  | dic ks xs =>
    obtain ⟨a, rfl, ⟨kvs, h1, _, _⟩ | ⟨vs, ⟨es, n, h1, _⟩, _⟩⟩ := h.dict
    · refine base (.base (.dK h1)) ?_
      rcases hty with rfl | rfl | rfl | rfl | rfl <;> (cases e; decide +kernel)
    · refine base (.kDict h1 rfl) ?_
      rcases hty with rfl | rfl | rfl | rfl | rfl <;> (cases e; decide +kernel)
  | ref l => rcases hty with rfl | rfl | rfl | rfl | rfl <;> cases e
  | cls l => rcases hty with rfl | rfl | rfl | rfl | rfl <;> cases e
  | exo l ps => rcases hty with rfl | rfl | rfl | rfl | rfl <;> cases e
theorem v_isi (C : Cxt X G) {ty : Ty} {n : Str} (ha : PE X a (tV G Wx P false ea)) (ns : noStar a = true) (hty : ty = .int ∨ ty = .bl ∨ ty = .str ∨ ty = .lst ∨ ty = .tup) (hg : Gl X "isinstance") (hm : X.mg "isinstance" = none) (hg2 : Gl X n) (hm2 : X.mg n = none)
    (hv : bootBuiltins n = some (.type (tyName ty))) (hnn : n ≠ "__name__") (hdb : (n == ("__debug__" : Str)) = false) : PE X (.Call (.Name "isinstance" p) [a, .Name n p2] [] pos) (tV G Wx P f (.isi ea ty)) := by
  have hs : PA X [a, .Name n p2] (tCons (tE G Wx P ea) (tCons (L2.tC (V.ty (tyName ty))) tNil)) := pa_cons (peE ha) (pa_cons (pe_bltn (v := V.ty (tyName ty)) hg2 hm2 hv rfl hnn hdb) pa_nil rfl) (star_cons ns)
  refine peImp (pe_callB call_isi hg hm (by decide +kernel) hs (by decide) (by decide) (star_cons ns) rfl) fun t H Q ⟨W, s, r, s', hH, F, e, q⟩ => ?_
  subst hH
  unfold evV at e
  rcases M.bind_some e with ⟨va, s1, e1, e2⟩ | ⟨c, p, e1, e2⟩
  · refine ⟨W, s, _, s1, rfl, F, e1, fun W1 x x1 F1 p1 _ => ?_⟩
    split at e2
    · rename_i v' hu
      split at e2
      · rename_i b hb
        cases e2
        have tz := unbox_ok F1 p1 hu
        obtain ⟨T, h1, h2⟩ := tyx_ok tz hb hty
        exact ⟨x, .ty (tyName ty), .type T, .type (tyName ty), b, rfl, .ty _, C.K ▸ h1, C.K ▸ h2, q W1 _ x1 F1 (.bl b) fun z => by cases z⟩
      · cases e2
    · cases e2
  · subst e2
    exact ⟨W, s, _, s', rfl, F, e1, q⟩

/-! ### chains of two comparisons -/
def rOrdD (op : COp) : R2 := fun x y H Q => ∃ i j b, x = .int i ∧ y = .int j ∧ ordD op (.int i) (.int j) = some b ∧ Q (.bl b) H
theorem opOrd (op : COp) : OpR X (compareOp (cOp op)) (rOrdD op) := by
  intro pins s σ H x y v u Q I rx ry ⟨i, j, b, ex, ey, e, k⟩
  subst ex ey
  cases op <;> first | (cases e; done) | skip
  · cases e; exact op_lt pins s σ H _ _ v u Q I rx ry ⟨i, j, rfl, rfl, k⟩
  · cases e; exact op_le pins s σ H _ _ v u Q I rx ry ⟨i, j, rfl, rfl, k⟩
  · cases e; exact op_gt pins s σ H _ _ v u Q I rx ry ⟨i, j, rfl, rfl, k⟩
  · cases e; exact op_ge pins s σ H _ _ v u Q I rx ry ⟨i, j, rfl, rfl, k⟩
theorem ord_ints {op : COp} {d1 d2 : D} {b : Bool} (e : ordD op d1 d2 = some b) : ∃ i j, d1 = .int i ∧ d2 = .int j := by
  cases op <;> first | (cases e; done) | skip
  all_goals (cases d1 <;> first | (cases d2 <;> cases e; done) | skip)
  all_goals (cases d2 <;> first | (cases e; done) | exact ⟨_, _, rfl, rfl⟩)
theorem chn_imp {o1 o2 : COp} {t : L2.St} {H : Hp} {Q : VK} (h : tV G Wx P f (.chn o1 o2 ea eb ec) t H Q) : tChain (rOrdD o1) (rOrdD o2) (tE G Wx P ea) (tE G Wx P eb) (tE G Wx P ec) t H Q := by
  obtain ⟨W, s, r, s', hH, F, e, q⟩ := h
  subst hH
  unfold evV at e
  have tr := F.rel.trk
  rcases M.bind_some e with ⟨va, s1, e1, e2⟩ | ⟨c, p, e1, e2⟩
  · refine ⟨W, s, _, s1, rfl, F, e1, fun W1 x x1 F1 p1 _ => ?_⟩
    rcases M.bind_some e2 with ⟨vb, s2, e3, e4⟩ | ⟨c, p, e3, e4⟩
    · refine ⟨W1, s1, _, s2, rfl, F1, e3, fun W2 y x2 F2 p2 _ => ?_⟩
      have x12 := x1.trans x2 tr
      cases ho : ordD o1 va.2 vb.2 with
      | none => rw [ho] at e4; cases e4
      | some b =>
        rw [ho] at e4
        obtain ⟨i, j, h1, h2⟩ := ord_ints ho
        have t1 := p1.tz
        have t2 := p2.tz
        rw [h1] at t1
        rw [h2] at t2
        refine ⟨i, j, b, t1.int, t2.int, by rw [← h1, ← h2]; exact ho, b, rfl, ?_⟩
        cases b with
        | false =>
          rw [if_neg (by decide)]
          cases e4
          exact q W2 _ x12 F2 (.bl false) fun z => by cases z
        | true =>
          rw [if_pos rfl]
          have e4 : ((ev P ec).bind fun vc => M.cell ((ordD o2 vb.2 vc.2).map fun b => .fz (.bl b))) s2 = some (r, s') := e4
          rcases M.bind_some e4 with ⟨vc, s3, e5, e6⟩ | ⟨c, p, e5, e6⟩
          · refine ⟨W2, s2, _, s3, rfl, F2, e5, fun W3 z x3 F3 p3 _ => ?_⟩
            obtain ⟨cc, h3, h4, h5⟩ := cell_some e6
            subst h4 h5
            obtain ⟨b, h6, h7⟩ := Option.map_eq_some_iff.mp h3
            subst h7
            obtain ⟨i', j', h8, h9⟩ := ord_ints h6
            have t3 := p3.tz
            rw [h9] at t3
            have t2' := p2.tz
            rw [h8] at t2'
            exact ⟨i', j', b, t2'.int, t3.int, by rw [← h8, ← h9]; exact h6, q W3 _ (x12.trans x3 tr) F3 (.bl b) fun z => by cases z⟩
          · subst e6
            exact ⟨W2, s2, _, s', rfl, F2, e5, fun W' dx x' F' hx => q W' dx (x12.trans x' tr) F' hx⟩
    · subst e4
      exact ⟨W1, s1, _, s', rfl, F1, e3, fun W' dx x' F' hx => q W' dx (x1.trans x' tr) F' hx⟩
  · subst e2
    exact ⟨W, s, _, s', rfl, F, e1, q⟩
theorem v_chn {o1 o2 : COp} (ha : PE X a (tV G Wx P false ea)) (hb : PE X b (tV G Wx P false eb)) (hc : PE X c (tV G Wx P false ec)) (hs : noSet c = true) : PE X (.Compare a [cOp o1, cOp o2] [b, c] pos) (tV G Wx P f (.chn o1 o2 ea eb ec)) :=
  peImp (pe_chain (opOrd o1) (opOrd o2) (peE ha) (peE hb) (peE hc) (no_marks hs)) fun _ _ _ h => chn_imp h
theorem chn_bl {o1 o2 : COp} : ∀ s vl s', evV P true (.chn o1 o2 ea eb ec) s = some (.ok vl, s') → ∃ b, vl = .nw (.fz (.bl b)) := fun s vl s' e => by
  unfold evV at e
  rcases M.bind_some e with ⟨va, s1, e1, e2⟩ | ⟨c, p, e1, e2⟩
  · rcases M.bind_some e2 with ⟨vb, s2, e3, e4⟩ | ⟨c, p, e3, e4⟩
    · cases ho : ordD o1 va.2 vb.2 with
      | none => rw [ho] at e4; cases e4
      | some b0 =>
        rw [ho] at e4
        cases b0 with
        | true =>
          rcases M.bind_some e4 with ⟨vc, s3, e5, e6⟩ | ⟨c, p, e5, e6⟩
          · obtain ⟨cc, h3, h4, h5⟩ := cell_some e6
            obtain ⟨b, _, h7⟩ := Option.map_eq_some_iff.mp h3
            cases h4
            exact ⟨b, by rw [← h7]⟩
          · cases e6
        | false => cases e4; exact ⟨false, rfl⟩
    · cases e4
  · cases e2
theorem t_chn {o1 o2 : COp} (ha : PE X a (tV G Wx P false ea)) (hb : PE X b (tV G Wx P false eb)) (hc : PE X c (tV G Wx P false ec)) (hs : noSet c = true) : PT X (.Compare a [cOp o1, cOp o2] [b, c] pos) (tT G Wx P (.chn o1 o2 ea eb ec)) :=
  ptImp (pt_chain (opOrd o1) (opOrd o2) (peE ha) (peE hb) (peE hc) (no_marks hs)) fun t H Q h => chn_imp (bl_imp chn_bl h)
end
end Lk

namespace Lk
open PySem L2 PyProof.Rows

section
variable {G : Gm} {W W' : Wd} {s s' : Stt} {t : L2.St} {x v : V} {d : D}
/-! an address that is nobody's goes -/
theorem drop'_fz {a : Addr} (g : W.g a = none) (h : ∀ vs, W.H a ≠ some (.tup vs)) : Stay W.fz (W.drop a).fz :=
  ⟨fun l hl => ⟨rfl, hl⟩, fun b ws e => (drop_ne (fun z => by subst z; exact h ws e)).trans e, fun b o z e => ⟨z, (drop_ne (fun q => by subst q; rw [show W.g b = _ from z] at g; cases g)).trans e⟩⟩
theorem drop'_bp {a : Addr} (g : W.g a = none) (h : ∀ vs, W.H a ≠ some (.tup vs)) : Stay W.bp (W.drop a).bp :=
  ⟨fun l hl => ⟨rfl, hl⟩, fun b ws e => (drop_ne (fun z => by subst z; exact h ws e)).trans e, fun b o z e => ⟨z, (drop_ne (fun q => by subst q; have z : readP (W.g b) := z; rw [g] at z; exact z)).trans e⟩⟩
theorem LR.drop' {a b : Addr} (g : W.g a = none) (h : ∀ vs, W.H a ≠ some (.tup vs)) (l : LR G W d b) (nb : b ≠ a) : LR G (W.drop a) d b := l.stay (drop'_fz g h) (drop_ne nb)
theorem Fr.drop' {a : Addr} (F : Fr G W s t) (g : W.g a = none) (h : ∀ vs, W.H a ≠ some (.tup vs)) : Fr G (W.drop a) s t := by
  have nb : ∀ {b r}, W.g b = some r → b ≠ a := fun {b r} e z => by subst z; rw [g] at e; cases e
  refine ⟨⟨fun l o e => ?_, F.rel.top, fun b r e => ?_⟩, F.len, fun i c e => ?_⟩
  · obtain ⟨hb, q⟩ := F.rel.box l o e
    refine ⟨hb, q.stay (drop'_fz g h) hb (drop_ne (nb hb)) fun c k v z => ?_⟩
    cases c with
    | fz d => exact RZ.stay (drop'_fz g h) z
    | own d => obtain ⟨b, e1, g1, w⟩ := z; exact ⟨b, e1, g1, w.drop' g h (nb g1)⟩
    | rd d => obtain ⟨b, e', e1, g1, w, kk⟩ := z; exact ⟨b, e', e1, g1, w.drop' g h (nb g1), kk⟩
    | br d => exact z
  · obtain ⟨o, ho⟩ := F.rel.trk b r e
    exact ⟨o, (drop_ne (nb e)).trans ho⟩
  · obtain ⟨v, e1, z⟩ := F.slt i c e
    refine ⟨v, e1, ?_⟩
    cases c with
    | fz d => exact RZ.stay (drop'_fz g h) z
    | own d => obtain ⟨b, e2, g1, w⟩ := z; exact ⟨b, e2, g1, w.drop' g h (nb g1)⟩
    | rd d => obtain ⟨b, e2, g1, w, kk⟩ := z; exact ⟨b, e2, g1, w.drop' g h (nb g1), kk⟩
    | br d => exact RZ.stay (drop'_bp g h) z
end
section
variable {X : Cx} {G : Gm} {Wx : WX} {P : Pg} {a b c o : Expr} {ea eb ec eo : Ex} {pos apos p : Pos} {f : Bool} {es : List Expr} {xs : List Ex} {t : L2.St} {H : Hp}
theorem tSs_cons {Q : List V → Hp → Prop} (h : tSs G Wx P (ea :: xs) t H Q) : tR G Wx P ea t H fun x H1 => tSs G Wx P xs t H1 fun vs H2 => Q (x :: vs) H2 := by
  obtain ⟨W, s, r, s', hH, F, e, q⟩ := h
  subst hH
  unfold evS at e
  rcases M.bind_some e with ⟨c, s1, e1, e2⟩ | ⟨c, p, e1, e2⟩
  · refine ⟨W, s, _, s1, rfl, F, e1, fun W1 x x1 F1 c1 => ?_⟩
    have tr := F.rel.trk
    have go : ∀ {W2 : Wd} {p : Bool} {d : D}, W2.H = W1.H → Evo false W W2 → Fr G W2 s1 t → RZ G (W2.vw p) d x →
        ((evS P xs).bind fun q => M.ok (p || q.1, d :: q.2)) s1 = some (r, s') → tSs G Wx P xs t W1.H fun vs H2 => Q (x :: vs) H2 := fun {W2 p d} h2 x2 F2 rz e3 => by
      rcases M.bind_some e3 with ⟨qq, s2, e4, e5⟩ | ⟨c, p, e4, e5⟩
      · cases e5
        refine ⟨W2, s1, _, s', h2, F2, e4, fun W3 vs x3 F3 r3 => ?_⟩
        refine q W3 (x :: vs) (x2.trans x3 tr) F3 (.cons ?_ (vws_or_r r3))
        refine vw_or_l ?_
        cases p
        · exact RZ.stay (x3.fz F2.rel.trk) rz
        · exact RZ.stay (x3.bp F2.rel.trk) rz
      · subst e5
        exact ⟨W2, s1, _, s', h2, F2, e4, fun W3 dx x3 F3 hx => q W3 dx (x2.trans x3 tr) F3 hx⟩
    cases c with
    | fz d => exact go (p := false) rfl x1 F1 c1 (by simpa using e2)
    | own d =>
      obtain ⟨a, ea, z, l, h0⟩ := c1
      subst ea
      obtain ⟨R2, r2⟩ := claim_fro F1 l z
      exact go (W2 := W1.sg a (some .fro)) (p := false) rfl (x1.claim h0 tr) R2 r2 (by simpa using e2)
    | br d => exact go (p := true) rfl x1 F1 c1 (by simpa using e2)
    | rd d => exact c1.elim
  · subst e2
    exact ⟨W, s, _, s', rfl, F, e1, q⟩
theorem tSs_nil {Q : List V → Hp → Prop} (h : tSs G Wx P [] t H Q) : Q [] H := tss_nil h
/-! pairs -/
def pairT (G : Gm) (Wx : WX) (P : Pg) : List Ex → List (TE × TE)
  | k :: v :: r => (tR G Wx P k, tR G Wx P v) :: pairT G Wx P r
  | _ => []
def flatVV : List (V × V) → List V
  | [] => []
  | p :: r => p.1 :: p.2 :: flatVV r
def evenX : List Ex → Bool
  | [] => true
  | [_] => false
  | _ :: _ :: r => evenX r
theorem pairs_imp : ∀ {xs : List Ex} {H : Hp} {Q : List V → Hp → Prop}, evenX xs = true → tSs G Wx P xs t H Q → tPairs (pairT G Wx P xs) t H fun ps H' => Q (flatVV ps) H'
  | [], H, Q, _, h => tSs_nil h
  | [_], H, Q, e, _ => by cases e
  | k :: v :: r, H, Q, e, h => by
    refine tR_mono (tSs_cons h) fun x H1 h1 => ?_
    refine tR_mono (tSs_cons h1) fun y H2 h2 => ?_
    exact pairs_imp (xs := r) e h2
where
  tR_mono {ea : Ex} {t : L2.St} {H : Hp} {Q Q' : VK} (h : tR G Wx P ea t H Q) (i : ∀ x H1, Q x H1 → Q' x H1) : tR G Wx P ea t H Q' := by
    obtain ⟨W, s, r, s', hH, F, e, q⟩ := h
    refine ⟨W, s, r, s', hH, F, e, ?_⟩
    cases r with
    | ok c => exact fun W' v x F' hv => i _ _ (q W' v x F' hv)
    | ex c p => exact q
theorem pairsD_flat {U : Vw} : ∀ {ds : List D} {ps : List (V × V)} {q : List D × List D}, RZs G U ds (flatVV ps) → pairsD ds = some q → RZs G U q.1 (ps.map (·.1)) ∧ RZs G U q.2 (ps.map (·.2))
  | [], [], q, _, e => by cases e; exact ⟨.nil, .nil⟩
  | [], _ :: _, _, r, _ => by cases r
  | [_], _, _, _, e => by cases e
  | k :: v :: ds, [], _, r, _ => by cases r
  | k :: v :: ds, p :: ps, q, r, e => by
    unfold pairsD at e
    obtain ⟨q', e1, e2⟩ := Option.map_eq_some_iff.mp e
    subst e2
    cases r with
    | cons r1 r =>
      cases r with
      | cons r2 r =>
        obtain ⟨h1, h2⟩ := pairsD_flat r e1
        exact ⟨.cons r1 h1, .cons r2 h2⟩
theorem kfind_keyD {key : Key} {kvs : List (Key × V)} (e : kfind (keyD key) (kvs.map fun p => keyD p.1) = some none) : ∀ p ∈ kvs, p.1 ≠ key := fun p hp he => by
  have := kfind_key e
  have : valV kvs key = none := this
  have h2 := valV_none this p hp
  exact h2 he
where
  valV_none {key : Key} : ∀ {kvs : List (Key × V)}, valV kvs key = none → ∀ p ∈ kvs, p.1 ≠ key
    | [], _, p, hp => (nomatch hp)
    | q :: kvs, h, p, hp => by
      by_cases e : q.1 = key
      · rw [valV_pos e] at h; cases h
      · rw [valV_neg e] at h
        rcases List.mem_cons.mp hp with rfl | hp
        · exact e
        · exact valV_none h p hp
/-! keys of their kinds, each once -/
theorem keys_of {U : Vw} : ∀ {ks : List D} {ps : List (V × V)}, keysOk ks = true → RZs G U ks (ps.map (·.1)) → ∃ kvs : List (Key × V), ps = kvs.map (fun kv => (kV kv.1, kv.2)) ∧ ks = kvs.map (fun p => keyD p.1) ∧ (kvs.map (·.1)).Nodup
  | [], [], _, _ => ⟨[], rfl, rfl, .nil⟩
  | [], _ :: _, _, r => by cases r
  | k :: ks, [], _, r => by cases r
  | k :: ks, p :: ps, h, r => by
    unfold keysOk at h
    rw [Bool.and_eq_true] at h
    obtain ⟨h1, h2⟩ := h
    cases r with
    | cons r1 r =>
      obtain ⟨kvs, e1, e2, nd⟩ := keys_of h2 r
      have hk : kfind k ks = some none := by
        split at h1
        · assumption
        · cases h1
      obtain ⟨key, hkey⟩ := kfind_isk hk
      have : p.1 = kV key ∧ k = keyD key := by
        cases k <;> simp [kV'] at hkey
        · subst hkey
          obtain ⟨p1, p2⟩ := p
          dsimp only at r1 ⊢
          cases r1
          exact ⟨rfl, rfl⟩
        · subst hkey
          obtain ⟨p1, p2⟩ := p
          dsimp only at r1 ⊢
          cases r1
          exact ⟨rfl, rfl⟩
      obtain ⟨a1, a2⟩ := this
      refine ⟨(key, p.2) :: kvs, by rw [e1, List.map_cons]; congr 1; rw [← a1], by rw [e2, a2]; rfl, ?_⟩
      rw [List.map_cons, List.nodup_cons]
      refine ⟨fun hm => ?_, nd⟩
      obtain ⟨q, hq, he⟩ := List.mem_map.mp hm
      rw [a2, e2] at hk
      exact kfind_keyD hk q hq he
theorem mergeK_nodup : ∀ {kvs acc : List (Key × V)}, (kvs.map (·.1)).Nodup → (∀ p ∈ kvs, ∀ q ∈ acc, q.1 ≠ p.1) → mergeK acc kvs = acc ++ kvs
  | [], acc, _, _ => by simp [mergeK]
  | p :: kvs, acc, nd, h => by
    rw [List.map_cons, List.nodup_cons] at nd
    have e : putK acc p.1 p.2 = acc ++ [p] := putK_new p.2 (valV_no fun q hq => h p List.mem_cons_self q hq)
    show mergeK (putK acc p.1 p.2) kvs = _
    rw [e, mergeK_nodup nd.2 fun q hq r hr => ?_]
    · rw [List.append_assoc]; rfl
    · rcases List.mem_append.mp hr with hr | hr
      · exact h q (List.mem_cons_of_mem _ hq) r hr
      · rw [List.mem_singleton.mp hr]
        intro z
        exact nd.1 (List.mem_map.mpr ⟨q, hq, z.symm⟩)
where
  valV_no {key : Key} : ∀ {kvs : List (Key × V)}, (∀ q ∈ kvs, q.1 ≠ key) → valV kvs key = none
    | [], _ => valV_nil
    | q :: kvs, h => by
      rw [valV_neg (h q List.mem_cons_self)]
      exact valV_no fun r hr => h r (List.mem_cons_of_mem _ hr)
end
end Lk

namespace Lk
open PySem L2 PyProof.Rows

section
variable {X : Cx} {G : Gm} {Wx : WX} {P : Pg} {a b c o : Expr} {ea eb ec eo : Ex} {pos apos p : Pos} {f : Bool} {es : List Expr} {xs : List Ex} {t : L2.St} {H : Hp}
theorem tSs_mono {Q Q' : List V → Hp → Prop} (h : tSs G Wx P xs t H Q) (i : ∀ x H1, Q x H1 → Q' x H1) : tSs G Wx P xs t H Q' := by
  obtain ⟨W, s, r, s', hH, F, e, q⟩ := h
  refine ⟨W, s, r, s', hH, F, e, ?_⟩
  cases r with
  | ok c => exact fun W' v x F' hv => i _ _ (q W' v x F' hv)
  | ex c p => exact q
theorem tR_mono {Q Q' : VK} (h : tR G Wx P ea t H Q) (i : ∀ x H1, Q x H1 → Q' x H1) : tR G Wx P ea t H Q' := by
  obtain ⟨W, s, r, s', hH, F, e, q⟩ := h
  refine ⟨W, s, r, s', hH, F, e, ?_⟩
  cases r with
  | ok c => exact fun W' v x F' hv => i _ _ (q W' v x F' hv)
  | ex c p => exact q
theorem pairs_to : ∀ {xs : List Ex} {H : Hp} {K : List (V × V) → Hp → Prop}, evenX xs = true → tSs G Wx P xs t H (fun vs H' => ∀ ps, flatVV ps = vs → K ps H') → tPairs (pairT G Wx P xs) t H K
  | [], H, K, _, h => tSs_nil h [] rfl
  | [_], H, K, e, _ => by cases e
  | k :: v :: r, H, K, e, h => by
    refine tR_mono (tSs_cons h) fun x H1 h1 => ?_
    refine tR_mono (tSs_cons h1) fun y H2 h2 => ?_
    exact pairs_to (xs := r) e (tSs_mono h2 fun vs H' q ps hp => q ((x, y) :: ps) (by show x :: y :: flatVV ps = _; rw [hp]))
theorem v_dic {keys : List (Option Expr)} {values : List Expr} (hp : PPs X pos keys values (pairT G Wx P xs)) (hev : evenX xs = true) (hall : keys.all (·.isSome) = true) (hl : keys.length = values.length) (h0 : keys ≠ []) (h15 : keys.length ≤ 15) (hx : xs.length ≤ 30) :
    PE X (.Dict keys values pos) (tV G Wx P f (.dic false xs)) := by
  refine peImp (pe_disp hp hall hl h0 h15) fun t H Q ⟨W, s, r, s', hH, F, e, q⟩ => ?_
  subst hH
  unfold evV at e
  intro p hp
  have tr := F.rel.trk
  have g0 : Grow W (W.nw p (.dK [])) := .nw hp
  have F0 := g0.fr F
  have gp : W.g p = none := F.rel.free hp
  rcases M.bind_some e with ⟨qq, s1, e1, e2⟩ | ⟨c, p', e1, e2⟩
  · refine pairs_to hev ⟨W.nw p (.dK []), s, _, s1, rfl, F0, e1, fun W1 vs x1 F1 r1 ps hps => ?_⟩
    subst hps
    cases hb : qq.1 with
    | true => rw [hb, if_pos rfl] at e2; cases e2
    | false =>
      rw [hb, if_neg (by decide)] at e2
      rw [hb] at r1
      have r1 : RZs G W1.fz qq.2 (flatVV ps) := r1
      cases hk : pairsD qq.2 with
      | none => rw [hk] at e2; cases e2
      | some kq =>
        rw [hk] at e2
        dsimp only at e2
        by_cases ho : keysOk kq.1 = true
        · rw [if_pos ho, if_neg (by decide)] at e2
          cases e2
          obtain ⟨k1, k2⟩ := pairsD_flat r1 hk
          obtain ⟨kvs, e3, e4, nd⟩ := keys_of ho k1
          have hH1 : W1.H p = some (.dK []) := x1.keep p _ upd_same (by show ¬ mutR false (W.g p); rw [gp]; exact id)
          have hg1 : W1.g p = none := (x1.role p _ upd_same (by show stabR (W.g p); rw [gp]; trivial)).trans gp
          have hlen : kvs.length ≤ 15 := by
            have h1 : qq.2.length = xs.length := evS_len e1
            have h2 := r1.length
            have h3 : (flatVV ps).length = 2 * ps.length := flat_len ps
            have h4 : ps.length = kvs.length := by rw [e3, List.length_map]
            omega
          refine ⟨hH1, kvs, e3, hlen, ?_⟩
          rw [mergeK_nodup nd (fun _ _ q hq => absurd hq List.not_mem_nil), List.nil_append]
          have nt : ∀ vs, W1.H p ≠ some (.tup vs) := fun vs z => by rw [hH1] at z; cases z
          have F2 := F1.drop' hg1 nt
          have g3 : Grow (W1.drop p) ((W1.drop p).nw p (.dK kvs)) := .nw drop_at
          have F3 := g3.fr F2
          have hH3 : ((W1.drop p).nw p (.dK kvs)).H = upd W1.H p (.dK kvs) := by
            funext b
            by_cases hb : b = p
            · subst hb; show upd _ _ _ _ = _; rw [upd_same, upd_same]
            · show upd _ _ _ _ = _; rw [upd_ne hb, upd_ne hb]; exact drop_ne hb
          rw [← hH3]
          have x01 := g0.evo (b := false) |>.trans x1 tr
          have ne : ∀ {c ho}, W.H c = some ho → c ≠ p := fun {c ho} h z => by subst z; rw [hp] at h; cases h
          have x3 : Evo false W ((W1.drop p).nw p (.dK kvs)) := by
            refine ⟨x01.io, fun c vs h => ?_, fun c o h m => ?_, x01.role, x01.slot, fun c o h => ?_, x01.lk, x01.fld⟩
            · rw [hH3, upd_ne (ne h)]; exact x01.tup c vs h
            · rw [hH3, upd_ne (ne h)]; exact x01.keep c o h m
            · obtain ⟨o', h'⟩ := x01.there c o h
              exact ⟨o', by rw [hH3, upd_ne (ne h)]; exact h'⟩
          refine q _ (.ref p) x3 F3 ⟨p, rfl, hg1, .dic (kvs := kvs) (by rw [hH3]; exact upd_same) e4 ?_, hp⟩ fun z => by cases z
          have k2 : RZs G W1.fz kq.2 (kvs.map (·.2)) := by
            have : ps.map (·.2) = kvs.map (·.2) := by rw [e3, List.map_map]; rfl
            rw [← this]
            exact k2
          exact RZs.stay (g3.vw (p := false)) (RZs.stay (drop'_fz hg1 nt) k2)
        · rw [if_neg ho] at e2
          cases e2
  · subst e2
    refine pairs_to hev ⟨W.nw p (.dK []), s, _, s', rfl, F0, e1, fun W' dx x' F' hx => q W' dx (g0.evo.trans x' tr) F' hx⟩
where
  flat_len : ∀ ps : List (V × V), (flatVV ps).length = 2 * ps.length
    | [] => rfl
    | p :: ps => by
      show (flatVV ps).length + 1 + 1 = 2 * (ps.length + 1)
      rw [flat_len ps]; omega
end
end Lk

namespace Lk
open PySem L2 PyProof.Rows

section
variable {X : Cx} {G : Gm} {Wx : WX} {P : Pg} {a b c o : Expr} {ea eb ec eo : Ex} {pos apos p : Pos} {f : Bool} {es : List Expr} {xs : List Ex} {t : L2.St} {H : Hp}
theorem RZs.one {U : Vw} {k : D} {vs : List V} (r : RZs G U [k] vs) : ∃ y, vs = [y] ∧ RZ G U k y := by
  cases r with
  | cons r1 r => cases r; exact ⟨_, rfl, r1⟩
theorem RZs.duo {U : Vw} {k d : D} {vs : List V} (r : RZs G U [k, d] vs) : ∃ y z, vs = [y, z] ∧ RZ G U k y ∧ RZ G U d z := by
  cases r with
  | cons r1 r =>
    obtain ⟨z, rfl, r2⟩ := RZs.one r
    exact ⟨_, z, rfl, r1, r2⟩
theorem get_some {ks ds ls : List D} {d : D} (h : bmD .get (.dic ks ds) ls = some d) : ∃ k dd, ls = [k, dd] ∧ ∃ oj, kfind k ks = some oj ∧ (match oj with | some j => ds[j]? | none => some dd) = some d := by
  match ls, h with
  | [], h => cases h
  | [_], h => cases h
  | _ :: _ :: _ :: _, h => cases h
  | [k, dd], h =>
    obtain ⟨oj, hj, hv⟩ := Option.bind_eq_some_iff.mp (show (kfind k ks).bind _ = some d from h)
    exact ⟨k, dd, rfl, oj, hj, hv⟩
theorem index_some {ys ls : List D} {d : D} (h : bmD .index (.lst ys) ls = some d) : ∃ k, ls = [k] ∧ sane (.lst ys) = true ∧ sane k = true ∧ ∃ j, idxOf k ys = some j ∧ d = .int (j : Nat) := by
  match ls, h with
  | [], h => cases h
  | _ :: _ :: _, h => cases h
  | [k], h =>
    have h : (if (sane (.lst ys) && sane k) = true then (idxOf k ys).map fun (j : Nat) => D.int j else none) = some d := h
    by_cases hs : (sane (.lst ys) && sane k) = true
    · rw [if_pos hs] at h
      rw [Bool.and_eq_true] at hs
      obtain ⟨j, h1, h3⟩ := Option.map_eq_some_iff.mp h
      exact ⟨k, rfl, hs.1, hs.2, j, h1, h3.symm⟩
    · rw [if_neg hs] at h; cases h
theorem bmOk_fl {m : BM} {v : Md × D} (h : bmOk m v = true) : isFl v.1 = false := by
  obtain ⟨md, d⟩ := v
  cases md with
  | fl l k => cases m <;> cases d <;> cases h
  | _ => rfl
/-! .get -/
theorem v_get (C : Cxt X G) (ho : PE X o (tV G Wx P false eo)) (ha : PE X a (tV G Wx P false ea)) (hb : PE X b (tV G Wx P false eb)) (m : M2 X o "get" apos a b pos) :
    PE X (.Call (.Attribute o "get" apos) [a, b] [] pos) (tV G Wx P f (.bm .get eo [ea, eb])) := by
  refine peImp (pe_dget2 (by have := C.hu; omega) (peE ho) (peR ha) (peR hb) m) fun t H Q ⟨W, s, r, s', hH, F, e, q⟩ => ?_
  subst hH
  have tr := F.rel.trk
  unfold evV at e
  rcases M.bind_some e with ⟨v, s1, e1, e2⟩ | ⟨c, p', e1, e2⟩
  · refine ⟨W, s, _, s1, rfl, F, e1, fun W1 x x1 F1 p1 _ => ?_⟩
    by_cases hk : bmOk .get v = true
    · rw [if_pos hk] at e2
      obtain ⟨md, d⟩ := v
      have hf := bmOk_fl hk
      cases md <;> cases d <;> first | (cases hk; done) | skip
      rename_i i ks ds
      have p1 : PlR G W1 t (.sl i) (.dic ks ds) x := p1
      obtain ⟨hv, a0, ex, hr, l⟩ := id p1
      subst ex
      refine ⟨a0, rfl, ?_, ?_⟩
      · cases l with
        | dic h1 _ _ => exact .inl ⟨_, .inl h1⟩
      · rcases M.bind_some e2 with ⟨qq, s2, e3, e4⟩ | ⟨c, p', e3, e4⟩
        · have hS : tSs G Wx P [ea, eb] t W1.H fun vs H2 => ∃ y z, vs = [y, z] ∧ ∃ o, DGet H2 a0 y o ∧ Q (o.getD z) H2 := by
            refine ⟨W1, s1, _, s2, rfl, F1, e3, fun W2 vs x2 F2 r2 => ?_⟩
            by_cases hq : qq.1 = true
            · rw [if_pos hq] at e4; cases e4
            · rw [if_neg hq] at e4
              rw [Bool.not_eq_true] at hq
              rw [hq] at r2
              have r2 : RZs G W2.fz qq.2 vs := r2
              obtain ⟨fl, ls⟩ := qq
              dsimp only at e4 r2
              cases hd : bmD .get (.dic ks ds) ls with
              | none => rw [hd] at e4; cases e4
              | some d =>
                rw [hd] at e4
                cases e4
                obtain ⟨k, dd, rfl, oj, hj, hv2⟩ := get_some hd
                obtain ⟨y, z, rfl, ry, rz⟩ := RZs.duo r2
                refine ⟨y, z, rfl, ?_⟩
                obtain ⟨key, hkey⟩ := kfind_isk hj
                have hyk : y = kV key ∧ k = keyD key := by
                  cases k <;> simp [kV'] at hkey
                  · subst hkey; cases ry; exact ⟨rfl, rfl⟩
                  · subst hkey; cases ry; exact ⟨rfl, rfl⟩
                obtain ⟨rfl, rfl⟩ := hyk
                have p2 := PlR.stay x2 F1.rel.trk p1 rfl
                obtain ⟨_, a1, ea1, _, l2⟩ := p2
                cases ea1
                cases l2 with
                | dic h1 h2 h3 =>
                  rename_i kvs
                  subst h2
                  refine ⟨valV kvs key, DGet.k h1, ?_⟩
                  have hk2 := kfind_key hj
                  have fin : ∀ v, RZ G W2.fz d v → Q v W2.H := fun v hv => q W2 v (x1.trans x2 tr) F2 hv fun z => by cases z
                  cases oj with
                  | none =>
                    have hk2 : valV kvs key = none := hk2
                    rw [hk2]
                    cases hv2
                    exact fin _ rz
                  | some j =>
                    obtain ⟨pp, g1, g2, g3⟩ := hk2
                    rw [g3]
                    have hv2 : ds[j]? = some d := hv2
                    obtain ⟨w, w1, w2⟩ := h3.get hv2
                    rw [List.getElem?_map, g1] at w1
                    cases w1
                    exact fin _ w2
          refine tR_mono (tSs_cons hS) fun y H2 h2 => tR_mono (tSs_cons h2) fun z H3 h3 => ?_
          obtain ⟨y', z', ev, h⟩ := tSs_nil h3
          cases ev
          exact h
        · subst e4
          have hS : tSs G Wx P [ea, eb] t W1.H fun vs H2 => ∃ y z, vs = [y, z] ∧ ∃ o, DGet H2 a0 y o ∧ Q (o.getD z) H2 :=
            ⟨W1, s1, _, s', rfl, F1, e3, fun W2 dx x2 F2 hx => q W2 dx (x1.trans x2 tr) F2 hx⟩
          refine tR_mono (tSs_cons hS) fun y H2 h2 => tR_mono (tSs_cons h2) fun z H3 h3 => ?_
          obtain ⟨y', z', ev, h⟩ := tSs_nil h3
          cases ev
          exact h
    · rw [if_neg hk] at e2
      cases e2
  · subst e2
    exact ⟨W, s, _, s', rfl, F, e1, q⟩
/-! .index of a list -/
theorem idxOf_toP {x : D} (hx : okD x = true) : ∀ {ys : List D} {j : Nat}, okDs ys = true → idxOf x ys = some j → ∃ z, (toPs ys)[j]? = some z ∧ PyData.eqv z (toP x) = true ∧ ∀ (m : Nat) (z' : PyData), m < j → (toPs ys)[m]? = some z' → PyData.eqv z' (toP x) = false
  | [], _, _, h => by cases h
  | y :: ys, j, ok, h => by
    obtain ⟨o1, o2⟩ := okD_and ok
    unfold idxOf at h
    have key := deq_toP y x o1 hx
    have ep : toPs (y :: ys) = toP y :: toPs ys := by rw [toPs]
    by_cases hd : deq y x = true
    · rw [if_pos hd] at h
      cases h
      exact ⟨toP y, by rw [ep]; rfl, by rw [← key]; exact hd, fun m z' hm => absurd hm (Nat.not_lt_zero _)⟩
    · rw [if_neg hd] at h
      obtain ⟨j', h1, h2⟩ := Option.map_eq_some_iff.mp h
      subst h2
      obtain ⟨z, e1, e2, e3⟩ := idxOf_toP hx o2 h1
      refine ⟨z, by rw [ep]; simpa using e1, e2, fun m z' hm hz => ?_⟩
      rw [ep] at hz
      cases m with
      | zero =>
        simp at hz
        subst hz
        rw [← key]
        simpa using hd
      | succ m => exact e3 m z' (by omega) (by simpa using hz)
theorem v_index (C : Cxt X G) (ho : PE X o (tV G Wx P false eo)) (hs : PA X (a :: es) (tSs G Wx P xs)) (hl : (a :: es).all noStar = true) (hbo : baseOk o = true) (hn : (a :: es).length < 30) (hli : (apos.endLine == pos.line) = true) :
    PE X (.Call (.Attribute o "index" apos) (a :: es) [] pos) (tV G Wx P f (.bm .index eo xs)) := by
  have h2 := hl
  rw [List.all_cons, Bool.and_eq_true] at h2
  refine peImp (pe_bm PySem.F.plainAttrs_list PySem.F.slot_list_index PySem.F.type_list_index (mt_indexD (by have := C.hu; omega)) (peE ho) hs (base_ok hbo) (few_ok hl hn) hli (star_cons h2.1) (star_none h2.2)) fun t H Q ⟨W, s, r, s', hH, F, e, q⟩ => ?_
  subst hH
  have tr := F.rel.trk
  unfold evV at e
  rcases M.bind_some e with ⟨v, s1, e1, e2⟩ | ⟨c, p', e1, e2⟩
  · refine ⟨W, s, _, s1, rfl, F, e1, fun W1 x x1 F1 p1 _ => ?_⟩
    by_cases hk : bmOk .index v = true
    · rw [if_pos hk] at e2
      have hf := bmOk_fl hk
      obtain ⟨md, d⟩ := v
      have : ∃ ys, d = .lst ys := by
        cases md <;> cases d <;> first | (cases hk; done) | exact ⟨_, rfl⟩
      obtain ⟨ys, rfl⟩ := this
      refine ⟨?_, ?_⟩
      · obtain ⟨a', vs, ex, h1, _⟩ := (PlR.tz p1).list
        subst ex
        exact .inl ⟨rfl, vs, C.K ▸ h1⟩
      · rcases M.bind_some e2 with ⟨qq, s2, e3, e4⟩ | ⟨c, p', e3, e4⟩
        · refine ⟨W1, s1, _, s2, rfl, F1, e3, fun W2 vs x2 F2 r2 => ?_⟩
          by_cases hq : qq.1 = true
          · rw [if_pos hq] at e4; cases e4
          · rw [if_neg hq] at e4
            rw [Bool.not_eq_true] at hq
            rw [hq] at r2
            have r2 : RZs G W2.fz qq.2 vs := r2
            obtain ⟨fl, ls⟩ := qq
            dsimp only at e4 r2
            cases hd : bmD .index (.lst ys) ls with
            | none => rw [hd] at e4; cases e4
            | some d =>
              rw [hd] at e4
              cases e4
              obtain ⟨k, rfl, s1', s2', j, h1, rfl⟩ := index_some hd
              obtain ⟨y, rfl, ry⟩ := RZs.one r2
              have p2 := PlR.stay x2 F1.rel.trk p1 hf
              obtain ⟨a', vs', ex, _, _⟩ := (PlR.tz p2).list
              subst ex
              have ok1 := sane_ok s1'
              have ok2 := sane_ok s2'
              have okl : okDs ys = true := by unfold okD at ok1; exact ok1
              have d1 := (PlR.tz p2).dp ok1
              have d2 := RZ.dp ry ok2
              have et : toP (.lst ys) = .list (toPs ys) := by rw [toP]
              rw [et] at d1
              obtain ⟨z, z1, z2, z3⟩ := idxOf_toP ok2 okl h1
              have sh := sane_shaped s1'
              rw [et] at sh
              exact ⟨a', y, toP k, toPs ys, j, z, rfl, rfl, by rw [C.K]; exact d1, by rw [C.K]; exact d2, sh, sane_shaped s2', z1, z2, z3, q W2 _ (x1.trans x2 tr) F2 (.int _) fun z => by cases z⟩
        · subst e4
          exact ⟨W1, s1, _, s', rfl, F1, e3, fun W2 dx x2 F2 hx => q W2 dx (x1.trans x2 tr) F2 hx⟩
    · rw [if_neg hk] at e2
      cases e2
  · subst e2
    exact ⟨W, s, _, s', rfl, F, e1, q⟩
/-! .index of a tuple of texts -/
theorem strsOf_rz {U : Vw} : ∀ {xs : List D} {vs : List V} {ys : List Str}, RZs G U xs vs → strsOf xs = some ys → vs = ys.map V.str
  | _, _, _, .nil, h => by simp [strsOf] at h; subst h; rfl
  | _, _, _, .cons r t, h => by
    cases r <;> simp [strsOf] at h
    obtain ⟨ms, h1, h2⟩ := h
    subst h2
    rw [strsOf_rz t h1]; rfl
theorem idxS_some {x : Str} : ∀ {ys : List Str} {j : Nat}, idxS x ys = some j → ys[j]? = some x ∧ ∀ m, m < j → ys[m]? ≠ some x
  | [], _, h => by cases h
  | y :: ys, j, h => by
    unfold idxS at h
    by_cases hd : (y == x) = true
    · rw [if_pos hd] at h
      cases h
      exact ⟨by rw [eq_of_beq hd]; rfl, fun m hm => absurd hm (Nat.not_lt_zero _)⟩
    · rw [if_neg hd] at h
      obtain ⟨j', h1, h2⟩ := Option.map_eq_some_iff.mp h
      subst h2
      obtain ⟨e1, e2⟩ := idxS_some h1
      refine ⟨by simpa using e1, fun m hm hz => ?_⟩
      cases m with
      | zero =>
        simp at hz
        subst hz
        exact hd (beq_self_eq_true _)
      | succ m => exact e2 m (by omega) (by simpa using hz)
theorem v_indexT {j : Nat} {x : Str} {v : V} {u : Value} (C : Cxt X G) (hg : Gl X x) (hm : X.mg x = some u) (hr : RelV v u) (hz : ∀ U, RZ G U (P.con j) v) (hdb : (x == ("__debug__" : Str)) = false)
    (hs : PA X (a :: es) (tSs G Wx P xs)) (hl : (a :: es).all noStar = true) (hbo : baseOk (.Name x p) = true) (hn : (a :: es).length < 30) (hli : (apos.endLine == pos.line) = true) :
    PE X (.Call (.Attribute (.Name x p) "index" apos) (a :: es) [] pos) (tV G Wx P f (.bm .indexT (.con j) xs)) := by
  have h2 := hl
  rw [List.all_cons, Bool.and_eq_true] at h2
  refine peImp (pe_bm PySem.F.plainAttrs_tuple PySem.F.slot_tuple_index PySem.F.type_tuple_index mt_tup_index (pe_glob hg hm hr hdb) hs (base_ok hbo) (few_ok hl hn) hli (star_cons h2.1) (star_none h2.2)) fun t H Q ⟨W, s, r, s', hH, F, e, q⟩ => ?_
  subst hH
  have tr := F.rel.trk
  have e : ((if bmOk .indexT (.fz, P.con j) then (evS P xs).bind fun q => (if q.1 then M.of none else match bmD .indexT (P.con j) q.2 with
      | some d => M.ok (Vl.nw (.fz d))
      | none => M.of none) else M.of none) : M Vl) s = some (r, s') := by
    unfold evV at e
    exact e
  by_cases hk : bmOk .indexT (.fz, P.con j) = true
  · rw [if_pos hk] at e
    obtain ⟨ys, hy⟩ : ∃ ys, P.con j = .tup ys := by
      cases hc : P.con j <;> rw [hc] at hk <;> first | (cases hk; done) | exact ⟨_, rfl⟩
    rw [hy] at e hz
    have z0 := hz ⟨fun _ => 0, fun _ => False, fun _ => False, fun _ => none⟩
    cases z0 with
    | tup h1 h5 =>
      rename_i a' vs0
      have kt : KT G.K a' vs0 := by
        rcases h1 with h1 | h1
        · cases h1
        · exact h1
      refine ⟨?_, ?_⟩
      · obtain ⟨o, its, n, k1, k2, k3, _⟩ := kt
        exact .inr (.inl ⟨rfl, o, C.K ▸ k1, k2, k3⟩)
      · rcases M.bind_some e with ⟨qq, s2, e3, e4⟩ | ⟨c, p', e3, e4⟩
        · refine ⟨W, s, _, s2, rfl, F, e3, fun W2 vs x2 F2 r2 => ?_⟩
          by_cases hq : qq.1 = true
          · rw [if_pos hq] at e4; cases e4
          · rw [if_neg hq] at e4
            rw [Bool.not_eq_true] at hq
            rw [hq] at r2
            have r2 : RZs G W2.fz qq.2 vs := r2
            obtain ⟨fl, ls⟩ := qq
            dsimp only at e4 r2
            cases hd : bmD .indexT (.tup ys) ls with
            | none => rw [hd] at e4; cases e4
            | some d =>
              rw [hd] at e4
              cases e4
              have : ∃ z, ls = [.str z] ∧ ∃ zs j, strsOf ys = some zs ∧ idxS z zs = some j ∧ d = .int (j : Nat) := by
                match ls, hd with
                | [], h => cases h
                | [k], h =>
                  cases k with
                  | str z =>
                    obtain ⟨zs, h1, h2⟩ := Option.bind_eq_some_iff.mp (show (strsOf ys).bind _ = some d from h)
                    obtain ⟨j, h3, h4⟩ := Option.map_eq_some_iff.mp h2
                    exact ⟨z, rfl, zs, j, h1, h3, h4.symm⟩
                  | _ => cases h
                | k1 :: k2 :: r, h => cases k1 <;> cases h
              obtain ⟨z, rfl, zs, j, h1, h3, rfl⟩ := this
              obtain ⟨y, rfl, ry⟩ := RZs.one r2
              cases ry
              have := strsOf_rz h5 h1
              subst this
              obtain ⟨i1, i2⟩ := idxS_some h3
              exact ⟨a', zs, z, j, rfl, rfl, C.K ▸ kt.sq, i1, i2, q W2 _ x2 F2 (.int _) fun z => by cases z⟩
        · subst e4
          exact ⟨W, s, _, s', rfl, F, e3, fun W2 dx x2 F2 hx => q W2 dx x2 F2 hx⟩
  · rw [if_neg hk] at e
    cases e
theorem m2_ok {X : Cx} {m : Str} (hbo : baseOk o = true) (ha : noStar a = true) (hb : noStar b = true) (hli : (apos.endLine == pos.line) = true) : M2 X o m apos a b pos := by
  refine ⟨base_ok hbo, few_ok (a := a) (es := [b]) (by simp [ha, hb]) (by show 2 < 30; decide), hli, ?_⟩
  rw [star_cons ha, star_cons hb]
  rfl
theorem v_dic0 : PE X (.Dict [] [] pos) (tV G Wx P f (.dic false [])) := by
  refine peImp pe_dnewK fun t H Q ⟨W, s, r, s', hH, F, e, q⟩ => ?_
  subst hH
  unfold evV evS at e
  cases e
  intro p hp
  have g0 : Grow W (W.nw p (.dK [])) := .nw hp
  refine q (W.nw p (.dK [])) (.ref p) g0.evo (g0.fr F) ⟨p, rfl, F.rel.free hp, .dic (kvs := []) upd_same rfl .nil, hp⟩ fun z => by cases z
/-! .count of truths -/
def rCntB (K : PySem.W.Frag) : V → List V → Hp → VK → Prop := fun x xs H Q => ∃ (p : Addr) (bs : List Bool) (k : Bool), x = .ref p ∧ xs = [.bl k] ∧ SqL K H p (bs.map V.bl) ∧ Q (.int (bs.count k : Nat)) H
theorem bls_vals : ∀ {bs : List Bool} {us : List Value}, Vals (bs.map V.bl) us → us = bs.map Value.bool
  | [], _, .nil => rfl
  | b :: bs, _, .cons r t => by rw [List.map_cons, ← bls_vals t, show _ = Value.bool b from r]
theorem bls_reads {h : Heap} : ∀ bs : List Bool, ReadsAll h (bs.map Value.bool) (bs.map PyData.bool) []
  | [] => .nil
  | b :: bs => .cons (as := []) (.bool b) (bls_reads bs)
theorem bls_countIn (k : Bool) : ∀ bs : List Bool, PySem.Spec.countIn (.bool k) (bs.map PyData.bool) = ((bs.count k : Nat) : Int)
  | [] => rfl
  | b :: bs => by
    have ih := bls_countIn k bs
    rw [List.map_cons, PySem.Spec.countIn, ih, List.count_cons]
    cases b <;> cases k <;> simp [PySem.Spec.same] <;> omega
theorem mt_bcount : MtR X "list.count" (rCntB X.K) := by
  intro pins s σ H x xs v us Q I rx rxs ⟨p, bs, k, e1, e2, hs, q⟩
  subst e1 e2
  cases rx
  obtain ⟨u, rfl, ru⟩ := rxs.one
  cases (show u = Value.bool k from ru)
  obtain ⟨its, rv, ⟨o, n, ho, hc, hdn, hd⟩, hlen⟩ := I.list hs
  have ei := bls_vals rv
  subst ei
  refine count_list_bools (l := p) (vs := bs.map Value.bool) (xs := bs.map PyData.bool) (as := []) (hp := s.heap) (k := k) ⟨o, ho, hc, n, hd⟩ (bls_reads bs) (by rw [List.all_map]; exact List.all_eq_true.mpr fun _ _ => rfl) ?_
  rw [bls_countIn]
  exact ⟨.int (bs.count k : Nat), H, I.tok _, ⟨s.toks, rfl⟩, q⟩
theorem v_count (C : Cxt X G) (ho : PE X o (tV G Wx P false eo)) (hs : PA X (a :: es) (tSs G Wx P xs)) (hl : (a :: es).all noStar = true) (hbo : baseOk o = true) (hn : (a :: es).length < 30) (hli : (apos.endLine == pos.line) = true) :
    PE X (.Call (.Attribute o "count" apos) (a :: es) [] pos) (tV G Wx P f (.bm .count eo xs)) := by
  have h2 := hl
  rw [List.all_cons, Bool.and_eq_true] at h2
  refine peImp (pe_bm PySem.F.plainAttrs_list PySem.F.slot_list_count PySem.F.type_list_count mt_bcount (peE ho) hs (base_ok hbo) (few_ok hl hn) hli (star_cons h2.1) (star_none h2.2)) fun t H Q ⟨W, s, r, s', hH, F, e, q⟩ => ?_
  subst hH
  have tr := F.rel.trk
  unfold evV at e
  rcases M.bind_some e with ⟨v, s1, e1, e2⟩ | ⟨c, p', e1, e2⟩
  · refine ⟨W, s, _, s1, rfl, F, e1, fun W1 x x1 F1 p1 _ => ?_⟩
    by_cases hk : bmOk .count v = true
    · rw [if_pos hk] at e2
      have hf := bmOk_fl hk
      obtain ⟨md, d⟩ := v
      obtain ⟨ys, rfl⟩ : ∃ ys, d = .lst ys := by
        cases md <;> cases d <;> first | (cases hk; done) | exact ⟨_, rfl⟩
      refine ⟨?_, ?_⟩
      · obtain ⟨a', vs, ex, h1, _⟩ := (PlR.tz p1).list
        subst ex
        exact .inl ⟨rfl, vs, C.K ▸ h1⟩
      · rcases M.bind_some e2 with ⟨qq, s2, e3, e4⟩ | ⟨c, p', e3, e4⟩
        · refine ⟨W1, s1, _, s2, rfl, F1, e3, fun W2 vs x2 F2 r2 => ?_⟩
          by_cases hq : qq.1 = true
          · rw [if_pos hq] at e4; cases e4
          · rw [if_neg hq] at e4
            rw [Bool.not_eq_true] at hq
            rw [hq] at r2
            have r2 : RZs G W2.fz qq.2 vs := r2
            obtain ⟨fl, ls⟩ := qq
            dsimp only at e4 r2
            cases hd : bmD .count (.lst ys) ls with
            | none => rw [hd] at e4; cases e4
            | some d =>
              rw [hd] at e4
              cases e4
              obtain ⟨b, bs, rfl, hb, rfl⟩ : ∃ b bs, ls = [.bl b] ∧ blsOf ys = some bs ∧ d = .int (bs.count b : Nat) := by
                cases ls with
                | nil => cases hd
                | cons k lr =>
                  cases lr with
                  | cons _ _ => cases k <;> cases hd
                  | nil =>
                    cases k <;> first | (cases hd; done) | skip
                    obtain ⟨bs, h1, h3⟩ := Option.map_eq_some_iff.mp hd
                    exact ⟨_, bs, rfl, h1, h3.symm⟩
              obtain ⟨y, rfl, ry⟩ := RZs.one r2
              cases ry
              have p2 := PlR.stay x2 F1.rel.trk p1 hf
              obtain ⟨a', vs', ex, h1, rr⟩ := (PlR.tz p2).list
              subst ex
              rw [rr.bls hb] at h1
              exact ⟨a', bs, b, rfl, rfl, C.K ▸ h1, q W2 _ (x1.trans x2 tr) F2 (.int _) fun z => by cases z⟩
        · subst e4
          exact ⟨W1, s1, _, s', rfl, F1, e3, fun W2 dx x2 F2 hx => q W2 dx (x1.trans x2 tr) F2 hx⟩
    · rw [if_neg hk] at e2
      cases e2
  · subst e2
    exact ⟨W, s, _, s', rfl, F, e1, q⟩
end
end Lk

namespace Lk
open PySem L2 PyProof.Rows

/-! ### o.update(e), e a written dict -/
theorem d_update {X : Cx} {pins : List (Addr × PySem.Obj)} {σ : L2.St} {H : Hp} {s : Shared} {A : Around} {E : Value → Shared → Prop} {a b : Addr} {kvs more : List (Key × V)} {Q : Value → Shared → Prop} (I : Inv X pins σ H s) (e : H a = some (.dK kvs)) (e2 : H b = some (.dK more)) (ne : a ≠ b) (hz : kvs.length + more.length ≤ sizeLine)
    (h : ∀ s', Inv X pins σ (upd H a (.dK (mergeK kvs more))) s' → Q .none s') : wpAny (model X.prog X.w) A (call (.builtin "dict.update") [.ref a, .ref b]) Q E s := by
  obtain ⟨z, hd, vs, rel, dd⟩ := dk_of I.hok e
  obtain ⟨z2, hd2, ws, rel2, dd2⟩ := dk_of I.hok e2
  refine call_meetsIn PySem.F.slot_dict_update dd.typeIs PySem.F.entry_dict_update (PySem.F.args_dict_update_2 _ _) (meets_dict_update (mixKind X.prog X.w) a b ne hd2) ⟨vs, ws, dd, dd2, by rw [← rel.length, ← rel2.length]; exact hz, fun h' dd' _ hs => h _ ?_⟩
  have he : ∃ q, h'.get? a = some q := let ⟨q, _, _, hq, _⟩ := dd'; ⟨q, hq⟩
  have hm : (mergeK kvs more).length ≤ kvs.length + more.length := by
    rw [(rel2.merge rel).length, rel.length, rel2.length]
    exact merged_length_le _ _
  exact d_write (t' := s.toks) I (by rw [e]; exact True.intro) hs he (dk_new (by omega) hd (rel2.merge rel) dd')
def rUpd : V → List V → Hp → VK → Prop := fun x xs H Q => ∃ (a b : Addr) (kvs more : List (Key × V)), x = .ref a ∧ xs = [.ref b] ∧ H a = some (.dK kvs) ∧ H b = some (.dK more) ∧ a ≠ b ∧ kvs.length + more.length ≤ sizeLine ∧ Q .non (upd H a (.dK (mergeK kvs more)))
theorem mt_update {X : Cx} : MtR X "dict.update" rUpd := by
  intro pins s σ H x vs v us Q I rx rv h
  obtain ⟨a, b, kvs, more, ex, ev, e1, e2, ne, hz, q⟩ := h
  subst ex
  subst ev
  obtain rfl : v = Value.ref a := rx
  obtain ⟨u, eu, ru⟩ := vals1 rv
  subst eu
  obtain rfl : u = Value.ref b := ru
  exact d_update I e1 e2 ne hz fun s' I' => ⟨.non, _, I', rfl, q⟩
theorem mrg_ok {G : Gm} {U : Vw} : ∀ {more : List (Key × V)} {ds2 : List D} {kvs : List (Key × V)} {ds : List D} {q : List D × List D}, RZs G U ds (kvs.map (·.2)) → RZs G U ds2 (more.map (·.2)) → mrgD (kvs.map fun p => keyD p.1) ds (more.map fun p => keyD p.1) ds2 = some q →
    q.1 = (mergeK kvs more).map (fun p => keyD p.1) ∧ RZs G U q.2 ((mergeK kvs more).map (·.2))
  | [], [], kvs, ds, q, r1, _, e => by
    have e : some (kvs.map fun p => keyD p.1, ds) = some q := by
      revert e
      cases kvs <;> cases ds <;> exact id
    cases e
    exact ⟨rfl, r1⟩
  | [], _ :: _, _, _, _, _, r2, _ => by cases r2
  | _ :: _, [], _, _, _, _, r2, _ => by cases r2
  | p :: more, d2 :: ds2, kvs, ds, q, r1, r2, e => by
    have e : (match kfind (keyD p.1) (kvs.map fun p => keyD p.1) with
      | some none => mrgD ((kvs.map fun p => keyD p.1) ++ [keyD p.1]) (ds ++ [d2]) (more.map fun p => keyD p.1) ds2
      | some (some _) => mrgD (kvs.map fun p => keyD p.1) (putD (keyD p.1) d2 (kvs.map fun p => keyD p.1) ds) (more.map fun p => keyD p.1) ds2
      | none => none) = some q := by
      revert e
      cases kvs <;> cases ds <;> exact id
    cases r2 with
    | cons rx rt =>
      cases hkf : kfind (keyD p.1) (kvs.map fun p => keyD p.1) with
      | none => rw [hkf] at e; cases e
      | some oj =>
        rw [hkf] at e
        have hk2 := kfind_key hkf
        cases oj with
        | none =>
          have hk2 : valV kvs p.1 = none := hk2
          have e : mrgD ((kvs.map fun p => keyD p.1) ++ [keyD p.1]) (ds ++ [d2]) (more.map fun p => keyD p.1) ds2 = some q := e
          rw [show (kvs.map fun p => keyD p.1) ++ [keyD p.1] = (kvs ++ [p]).map fun p => keyD p.1 from by rw [List.map_append]; rfl] at e
          have ih := mrg_ok (kvs := kvs ++ [p]) (more := more) (by rw [List.map_append]; exact r1.append (.cons rx .nil)) rt e
          have em : mergeK kvs (p :: more) = mergeK (kvs ++ [p]) more := by
            show mergeK (putK kvs p.1 p.2) more = _
            rw [putK_new p.2 hk2]
          rw [em]; exact ih
        | some j =>
          obtain ⟨pp, g1, g2, g3⟩ := hk2
          have e : mrgD (kvs.map fun p => keyD p.1) (putD (keyD p.1) d2 (kvs.map fun p => keyD p.1) ds) (more.map fun p => keyD p.1) ds2 = some q := e
          rw [← put_keys (key := p.1) (y := p.2) kvs] at e
          have er := putD_rz (key := p.1) rx r1
          rw [← put_keys (key := p.1) (y := p.2) kvs] at er
          have ih := mrg_ok (kvs := kvs.map fun kv => if kv.1 = p.1 then (kv.1, p.2) else kv) (more := more) er rt e
          have em : mergeK kvs (p :: more) = mergeK (kvs.map fun kv => if kv.1 = p.1 then (kv.1, p.2) else kv) more := by
            show mergeK (putK kvs p.1 p.2) more = _
            unfold putK
            rw [valV_any, g3]
            rfl
          rw [em]; exact ih
section
variable {X : Cx} {G : Gm} {Wx : WX} {P : Pg} {n : Nat} {e o : Expr} {ee eo : Ex} {pos apos cpos : Pos}
theorem isDic_some {v : Md × D} {s s' : Stt} {r : Ou Unit} (e : isDic v s = some (r, s')) : s' = s ∧ r = .ok () ∧ ∃ m ks xs, unbox s.S v = some (m, .dic ks xs) := by
  unfold isDic at e
  split at e
  · rename_i m ks xs h
    cases e
    exact ⟨rfl, rfl, m, ks, xs, h⟩
  · cases e
theorem s_upd (C : Cxt X G) (ho : PE X o (tV G Wx P false eo)) (he : PE X e (tV G Wx P false ee)) (hbo : baseOk o = true) (ns : noStar e = true) (hli : (apos.endLine == cpos.line) = true) :
    PS X (.Expr (.Call (.Attribute o "update" apos) [e] [] cpos) pos) (tS G Wx P n (.upd eo ee)) := by
  refine psImp (ps_expr (pe_bm PySem.F.plainAttrs_dict PySem.F.slot_dict_update PySem.F.type_dict_update mt_update (peE ho) (pa_cons (peR he) pa_nil (star_cons ns)) (base_ok hbo) (few_ok (by rw [List.all_cons, ns]; rfl) (by show 1 < 30; decide)) hli (star_cons ns) (star_none rfl)) (no_swap rfl)) fun Dn t H ⟨W, s, r, s', hH, F, e, q⟩ => ?_
  subst hH
  unfold exec at e
  have tr := F.rel.trk
  rcases M.bind_some e with ⟨va, s1, e1, e2⟩ | ⟨cc, pp, e1, e2⟩
  · refine ⟨W, s, _, s1, rfl, F, e1, fun W1 x x1 F1 p1 _ => ?_⟩
    obtain ⟨m, d⟩ := va
    cases m with
    | fz =>
      cases d with
      | ref l =>
        rcases M.bind_some e2 with ⟨u, s2, e3, e4⟩ | ⟨cc, pp, e3, e4⟩
        · obtain ⟨hs2, _, md, ks, zs, hu⟩ := isDic_some e3
          subst hs2
          have pc : PlC G W1 t (.fz, .ref l) x := PlR.plc (q := (.fz, .ref l)) p1
          have at1 : ∃ kvs, W1.H (W1.i l) = some (.dK kvs) := by
            unfold unbox at hu
            simp only at hu
            split at hu
            · cases hu
            · rename_i ks' vs' hS
              obtain ⟨_, kvs, h1, _, _⟩ := F1.rel.box l _ hS
              exact ⟨kvs, h1⟩
            · cases hu
          obtain ⟨kvs0, h0⟩ := at1
          have ex : x = .ref (W1.i l) := pc.1
          subst ex
          refine ⟨.inr (.inr (.inl ⟨rfl, .inl ⟨kvs0, h0⟩⟩)), ?_⟩
          rcases M.bind_some e4 with ⟨c, s3, e5, e6⟩ | ⟨cc, pp, e5, e6⟩
          · refine ⟨W1, s2, _, s3, rfl, F1, e5, fun W2 y x2 F2 c2 => ?_⟩
            have tr1 := F1.rel.trk
            cases c with
            | own dd =>
              cases dd with
              | dic ks2 vs2 =>
                obtain ⟨b, eb, gb, lb, hb0⟩ := c2
                subst eb
                cases lb with
                | dic hb hk2 r2 =>
                  rename_i more
                  have p2 : PlC G W2 t (.fz, .ref l) (.ref (W1.i l)) := PlR.plc (q := (.fz, .ref l)) (PlR.stay x2 tr1 p1 rfl)
                  rcases M.bind_some e6 with ⟨yy, s5, e7, e8⟩ | ⟨cc, pp, e7, e8⟩
                  · obtain ⟨a, d, d', y, ea, la, hf, er, ch⟩ := changeAt_ok F2 p2 e7
                    cases ea
                    cases la with
                    | lst _ _ => cases hf
                    | dic ha hk1 r1 =>
                      rename_i ks1 vs1 kvs
                      have hf : (if ks1.length + ks2.length ≤ line then (mrgD ks1 vs1 ks2 vs2).map fun q => (D.dic q.1 q.2, ()) else none) = some (d', y) := hf
                      split at hf
                      · rename_i hlen
                        obtain ⟨qq, hq1, hq2⟩ := Option.map_eq_some_iff.mp hf
                        cases hq2
                        cases e8
                        subst hk1 hk2
                        have mo := mrg_ok r1 r2 hq1
                        have ne : W1.i l ≠ b := fun z => by rw [← z, h0] at hb0; cases hb0
                        refine ⟨W1.i l, b, kvs, more, rfl, rfl, ha, hb, ne, by
                          rw [List.length_map, List.length_map] at hlen
                          exact line_size hlen, ?_⟩
                        exact q (W2.nw (W1.i l) (.dK (mergeK kvs more))) t ((x1.trans x2 tr).weak.trans (ch.evo _) tr) (ch.fr _ (.dic upd_same mo.1 (mo.2.stay (ch.fz _))))
                      · cases hf
                  · exact (changeAt_noex e7).elim
              | _ => cases e6
            | _ => cases e6
          · subst e6
            exact ⟨W1, s2, _, s', rfl, F1, e5, fun W' dx x' F' hx => q W' t dx (x1.trans x' tr).weak F' hx⟩
        · cases (isDic_some e3).2.1
      | _ => cases e2
    | _ => cases e2
  · subst e2
    exact ⟨W, s, _, s', rfl, F, e1, fun W' dx x' F' hx => q W' t dx x'.weak F' hx⟩
end
end Lk

namespace Lk
open PySem L2 PyProof.Rows

/-! ### an exception's object is known to the abstract heap from its catch on -/
theorem exB_mk {P : Program} {w : World} {H : Hp} {hp : Heap} {e0 : Addr} {cv : Value} {dd : Option Addr} {ob : PySem.Obj} {flds : Array Value} (g : hp.get? e0 = some ob) (z : Zc cv dd ob) (fd : ob.data = .fields flds) : ObjOk P w H hp e0 (ExB cv dd e0) :=
  ⟨⟨ob, flds, g, z, fd⟩, ⟨ob, g⟩, fun _ _ ⟨o1, f1, g1, r1⟩ kp => ⟨o1, f1, kp o1 g1, r1⟩⟩
theorem exB_at {P : Program} {w : World} {H : Hp} {hp : Heap} {e0 : Addr} {cv : Value} {dd : Option Addr} (ok : HOk P w H hp) (e : H e0 = some (ExB cv dd e0)) : ∃ (ob : PySem.Obj) (flds : Array Value), hp.get? e0 = some ob ∧ Zc cv dd ob ∧ ob.data = .fields flds := by
  have q : ObjOk P w H hp e0 (.ext fun h => ∃ (oe : PySem.Obj) (vs : Array Value), h.get? e0 = some oe ∧ Zc cv dd oe ∧ oe.data = .fields vs) := ok e0 _ e
  exact q.1
section
variable {X : Cx} {pins : List (Addr × PySem.Obj)} {σ : L2.St} {H : Hp} {s : Shared}
/-! into the suite, the exception tracked -/
theorem su_in (J : Inv X pins σ H s) {e0 : Addr} {ob : PySem.Obj} {flds : Array Value} {cv : Value} {dd : Option Addr} (g : s.heap.get? e0 = some ob) (z : Zc cv dd ob) (fd : ob.data = .fields flds) (n : H e0 = none) (nl : e0 ≠ X.env.locals)
    (np : ∀ q ∈ X.pn ++ pins, q.1 ≠ e0) (n0 : X.s_0.heap.get? e0 = none) : Inv (X.suite e0 (X.pn ++ pins)) [] σ (upd H e0 (ExB cv dd e0)) s := by
  have un : ∀ {b : Addr}, b ≠ e0 → upd H e0 (ExB cv dd e0) b = H b := fun h => upd_ne h
  have b0 : ∀ {b : Addr} {o : PySem.Obj}, X.s_0.heap.get? b = some o → b ≠ e0 := fun h q => by rw [q, n0] at h; cases h
  have bh : ∀ {b : Addr} {o : HO}, H b = some o → b ≠ e0 := fun h q => by rw [q, n] at h; cases h
  refine { ok := J.ok.suite e0 _, os := J.os, bare := J.bare, base := { keep := J.base.keep, slot := J.base.slot, free := fun b o q1 q2 q3 => ?_, there := J.base.there, tups := fun b xs q => ?_, frzs := fun b o u q => ?_, tbls := fun b ps q => ?_ }, loc := J.loc, cell := J.cell, free := ?_, freeC := fun x c q => ?_, pin := fun p hp => ?_, hok := fun b o q => ?_, len := J.len }
  · rw [un (b0 q1)]; exact J.base.free b o q1 q2 q3
  · have r := J.base.tups b xs q
    rw [un (bh r)]; exact r
  · have r := J.base.frzs b o u q
    rw [un (bh r)]; exact r
  · obtain ⟨m, r⟩ := J.base.tbls b ps q
    exact ⟨m, by rw [un (bh r)]; exact r⟩
  · show upd H e0 (ExB cv dd e0) X.env.locals = none
    rw [un (Ne.symm nl)]; exact J.free
  · have ne : c ≠ e0 := fun r => by
      obtain ⟨v, o, q1, q2⟩ := J.cell x c q
      rw [r, g] at q1
      cases q1
      rw [fd] at q2
      cases q2
    rw [un ne]; exact J.freeC x c q
  · have hp : p ∈ X.pn ++ pins := by rw [List.append_nil] at hp; exact hp
    obtain ⟨r1, r2, r3, r4, r5⟩ := J.pin p hp
    exact ⟨r1, by rw [un (np p hp)]; exact r2, r3, r4, r5⟩
  · by_cases hb : b = e0
    · subst hb
      rw [upd_same] at q
      cases q
      exact exB_mk g z fd
    · rw [un hb] at q
      exact (J.hok b o q).stay (fun c w _ r => r) (fun c r => by rw [un (bh r)]; exact r) fun c xs r => by rw [un (bh r)]; exact r
theorem su_out {e0 : Addr} {pn' : List (Addr × PySem.Obj)} (J : Inv (X.suite e0 (X.pn ++ pins)) pn' σ H s) (ok : X.Ok) : Inv X pins σ H s :=
  { ok := ok, os := J.os, bare := J.bare, base := J.base, loc := J.loc, cell := J.cell, free := J.free, freeC := J.freeC, pin := fun p hp => J.pin p (List.mem_append_left _ hp), hok := J.hok, len := J.len }
end
/-! the wish of 'except C as n': the exception is tracked, and slot k is its name's -/
def wTr (K : PySem.W.Frag) (cv : Value) (k : Nat) (tU : Addr → Value → Option Addr → TS) (Wo : WX) (D : Ends) : WX := fun cls dd σ H =>
  ∃ b, PySem.W.exmOne K cls cv = some b ∧ (b = true → ∀ e0, H e0 = none → tU e0 cls dd { nx := fun σ' H' => D.nx (σ'.set k none) H', rt := D.rt, bk := fun σ' H' => D.bk (σ'.set k none) H', ct := fun σ' H' => D.ct (σ'.set k none) H' } (σ.set k (some (.ref e0))) (upd H e0 (ExB cls dd e0))) ∧
    (b = false → Wo cls dd σ H)
section
variable {X : Cx} {cn en : Str} {cv : Value} {k : Nat} {bd su : List Stmt} {su0 : Stmt} {qn qh qt : Pos} {tB : WX → TS} {tU : Addr → Value → Option Addr → TS} {Wo : WX}
theorem ps_tryT (st : X.stack = X.env :: X.outer) (fr : X.env.frame = some X.env.locals) (ex0 : X.ex = []) (nd : X.N.Nodup) (hk : X.N[k]? = some en) (lcl : X.env.kindOf en = some .local) (nm : Names X cn cv) (out : Takes X Wo)
    (hB : ∀ (W : WX) (pn : List (Addr × PySem.Obj)) (xe : Value → Shared → Prop), Takes (X.tr pn xe) W → PassesOwn (model X.prog X.w) X.A X.env xe → PSs (X.tr pn xe) bd (tB W))
    (hU : ∀ (e0 : Addr) (cls : Value) (dd : Option Addr) (pn : List (Addr × PySem.Obj)), PSs (X.suite e0 pn) (su0 :: su) (tU e0 cls dd)) :
    PS X (.Try bd [.ExceptHandler (some (.Name cn qn)) (some en) (su0 :: su) qh] [] [] qt) (fun D σ H => tB (wTr X.K cv k tU Wo D) D σ H) := by
  constructor
  intro pins s σ H D J h
  have okX := J.ok
  have frames : X.A.frames = some (X.env :: X.outer) := okX.frames.trans (by rw [st])
  have end_nx : ∀ {f : Flow} {s1 : Shared}, SP (X.tr (X.pn ++ pins) (fun e s₁ => wpAny (model X.prog X.w) X.A (noteFrame e X.env) (fun _ s₂ => wpAny (model X.prog X.w) X.A (setFlight e none) (fun _ s₃ => wpAny (model X.prog X.w) X.A (handleBy e X.env [.ExceptHandler (some (.Name cn qn)) (some en) (su0 :: su) qh]) (SP X pins D) X.xe s₃) X.xe s₂) X.xe s₁)) [] D f s1 → SP X pins D f s1 := fun {f s1} q => by
    cases f with
    | ret u => obtain ⟨v, σ1, H1, J1, r1, q1⟩ := q; exact ⟨v, σ1, H1, J1.ofTry okX, r1, q1⟩
    | _ => obtain ⟨σ1, H1, J1, q1⟩ := q; exact ⟨σ1, H1, J1.ofTry okX, q1⟩
  refine wpAny_Try_except (wpAny_mono ((hB (wTr X.K cv k tU Wo D) (X.pn ++ pins) (fun e s₁ => wpAny (model X.prog X.w) X.A (noteFrame e X.env) (fun _ s₂ => wpAny (model X.prog X.w) X.A (setFlight e none) (fun _ s₃ => wpAny (model X.prog X.w) X.A (handleBy e X.env [.ExceptHandler (some (.Name cn qn)) (some en) (su0 :: su) qh]) (SP X pins D) X.xe s₃) X.xe s₂) X.xe s₁) (fun u s1 air => ?_) PassesOwn.looking).run [] s σ H D (J.toTry _) h) (fun f s1 q => ?_) (fun e s1 q => q))
  · obtain ⟨e0, B, sI, pins', σ1, H1, cls, dd, rfl, JT, gnd, up, sky, na, eos, ebare, b, eb, yes, no⟩ := air
    have JI : Inv X pins σ1 H1 sI := JT.ofTry okX
    rw [show (X.tr (X.pn ++ pins) _).stack = X.env :: X.outer from st] at sky
    show wpAny (model X.prog X.w) X.A (noteFrame (.ref e0) X.env) _ _ _
    refine Sky.land Zc.steady frames fr sky fun h1 fly up1 => ?_
    have J1 : Inv X pins σ1 H1 { s1 with heap := h1 } := JI.landed gnd fly.1 (up.trans up1) eos ebare
    obtain ⟨ob, flds, get1, zc1, fd1⟩ := fly.there
    have offF : e0 ∉ frs (X.env :: X.outer) := fun hm => by
      obtain ⟨_, o', g', nf⟩ := fly.2.2.1.mem hm
      rw [get1] at g'
      cases g'
      exact nf _ fd1
    have offL : e0 ≠ X.env.locals := fun z => offF (List.mem_filterMap.mpr ⟨X.env, List.mem_cons_self, by rw [fr, z]⟩)
    have goneI : sI.heap.get? e0 = none := by
      cases z : sI.heap.get? e0 with
      | none => rfl
      | some o =>
        have z2 := gnd e0 o z (by rw [show (X.tr (X.pn ++ pins) _).stack = X.env :: X.outer from st]; exact offF)
        rw [fly.2.1] at z2
        cases z2
    have gone0 : X.s_0.heap.get? e0 = none := by
      cases z : X.s_0.heap.get? e0 with
      | none => rfl
      | some o =>
        obtain ⟨o', z2⟩ := JI.base.there e0 o z (by rw [ex0]; exact fun q => nomatch q)
        rw [goneI] at z2
        cases z2
    have offP : ∀ q ∈ X.pn ++ pins, q.1 ≠ e0 := fun q hq z => by
      have z2 := (JI.pin q hq).1
      rw [z, goneI] at z2
      cases z2
    have S1 := su_in J1 get1 zc1 fd1 na offL offP gone0
    refine wpAny_handleBy_cons (codeAny_handlers_test ?_) (by intro z; cases z)
    have lookT : PySem.W.Looks (model X.prog X.w) h1 (typeOf (.ref e0)) cls := fun A Q E s kk q => wpAny_typeOf_ref (kk _ _ get1) (by rw [zc1.1]; exact q)
    have lookM := PySem.W.exm_one (M := model X.prog X.w) (J1.kIn) lookT eb
    have named : ∀ {Q E : Value → Shared → Prop}, Q cv { s1 with heap := h1 } → wpAny (model X.prog X.w) (X.A.mark (some (.ref e0))) (eval (.Name cn qn) X.env) Q E { s1 with heap := h1 } := fun {Q E} q => by
      obtain ⟨gl, ndb, m1 | ⟨m1, bt, nn⟩⟩ := nm
      · exact ld_glob (X := X.suite e0 (X.pn ++ pins)) S1 gl m1 q ndb
      · exact ld_blt (X := X.suite e0 (X.pn ++ pins)) S1 gl m1 bt q nn ndb
    refine named (lookM.here ?_)
    cases b with
    | false =>
      show wpAny _ X.A (handleBy (.ref e0) X.env []) _ _ _
      refine wpAny_handleBy_nil ?_
      obtain ⟨f1, f2, f3, o1, v1, T1, oT, vT, g1, z1, d1, t1, rest⟩ := id fly
      unfold PySem.passOn
      refine wpAny_bind (wpAny_field g1 d1 t1 ?_)
      rw [if_neg (show ¬ ((Value.ref T1 == Value.none) = true) from by simp)]
      have done : wpAny (model X.prog X.w) X.A (setFlight (.ref e0) X.env.frame) (fun _ s4 => wpAny (model X.prog X.w) X.A (throw (.ref e0) : Sem Flow) (SP X pins D) X.xe s4) X.xe { s1 with heap := h1 } := by
        rw [fr]
        exact HandSPX.setFlight_upZ fly fun h2 hld up2 => wpAny_throw (out _ _ ⟨e0, B, sI, pins, σ1, H1, cls, dd, rfl, JI, gnd, (up.trans up1).trans up2, .inr (.inr (by rw [st]; exact hld)), na, eos, ebare, no rfl⟩)
      first
        | exact wpAny_bind (wpAny_pure (wpAny_bind done))
        | exact wpAny_bind done
    | true =>
      refine codeAny_handlers_suite_as (HandSPX.lands_againZ fly fun h2 fly2 up2 => ?_)
      have J2 : Inv X pins σ1 H1 { s1 with heap := h2 } := JI.landed gnd fly2.1 ((up.trans up1).trans up2) eos ebare
      obtain ⟨ob2, flds2, get2, zc2, fd2⟩ := fly2.there
      have S2 := su_in J2 get2 zc2 fd2 na offL offP gone0
      refine store_ok (X := X.suite e0 (X.pn ++ pins)) (v := .ref e0) S2 nd hk (.inl lcl) rfl (fun s3 S3 => ?_) (.inr lcl)
      refine wpAny_mono ((hU e0 cls dd (X.pn ++ pins)).run [] s3 _ _ _ S3 (yes rfl e0 na)) (fun f s4 q4 => ?_) (fun _ _ z => False.elim z)
      have fin : ∀ {σ4 : L2.St} {H4 : Hp} {Q : Shared → Prop}, Inv (X.suite e0 (X.pn ++ pins)) [] σ4 H4 s4 → (∀ s5, Inv X pins (σ4.set k none) H4 s5 → Q s5) →
          wpAny (model X.prog X.w) X.A (do bindName X.env en .none; unbindBehindTheSuite X.env en qh) (fun _ s5 => Q s5) X.xe s4 := fun {σ4 H4 Q} S4 kq => gone_ok (su_out S4 okX) nd hk lcl kq
      cases f with
      | ret u =>
        obtain ⟨v4, σ4, H4, S4, r4, k4⟩ := q4
        exact fin S4 fun s5 J5 => ⟨_, _, _, J5, r4, k4⟩
      | next => obtain ⟨σ4, H4, S4, k4⟩ := q4; exact fin S4 fun s5 J5 => ⟨_, _, J5, k4⟩
      | brk => obtain ⟨σ4, H4, S4, k4⟩ := q4; exact fin S4 fun s5 J5 => ⟨_, _, J5, k4⟩
      | cont => obtain ⟨σ4, H4, S4, k4⟩ := q4; exact fin S4 fun s5 J5 => ⟨_, _, J5, k4⟩
  · have q2 := end_nx q
    cases f with
    | next =>
      obtain ⟨σ1, H1, J1, q1⟩ := q2
      exact wpAny_execs_nil ⟨σ1, H1, J1, q1⟩
    | _ => exact q2
end
end Lk

namespace Lk
open PySem L2 PyProof.Rows PySem.W PySem.Calls PySem.HandSPX

/-! ### own exceptions with an __init__ that keeps its row -/
def rowArgs (p1 p2 : Pos) : Arguments := { posonlyargs := [], args := [{ arg := "self", annotation := none, pos := p1 }, { arg := "row", annotation := none, pos := p2 }], vararg := none, kwonlyargs := [], kw_defaults := [], kwarg := none, defaults := [] }
def rowBody (q1 q2 q3 q4 : Pos) : List Stmt := [.Assign [.Attribute (.Name "self" q1) "row" q2] (.Name "row" q3) q4]
def rowScope : Scope := { kind := .function, names := [(PySem.Str.ofString "self", .local), (PySem.Str.ofString "row", .local)], isGenerator := false, isCoroutine := false, more := [] }
/-! what the written part says of such a class, at C, and of its __init__, at f1 -/
structure RowTxt (K : Frag) (C f1 : Addr) (qn : Str) : Prop where
  cls : ∃ nm q N bs bm sn sub ab col dd k0 k1 k2 k3 k5, K.lookup C = some (excClassObj nm q C N bs bm true sn sub ab col dd k0 k1 k2 k3 k5 "ValueError.__new__") ∧ refsVE bm = true
  sa : findIn K (.ref C) "__setattr__" = some (some (.builtin "object.__setattr__"))
  noN : findIn K (.ref C) "row" = some none
  iC : findIn K (.ref C) "__init__" = some (some (.ref f1))
  tC : typeIn K (.ref f1) = some (.type "function")
  fn : ∃ (oc : Value) (od : Option Addr) (doc pm : Value) (an : Option Addr) (cdv ct : Value) (osl : Array (Option Value)) (p1 p2 q1 q2 q3 q4 : Pos),
    K.lookup f1 = some ⟨oc, od, .func (fnOf "__init__" qn (rowArgs p1 p2) (rowBody q1 q2 q3 q4) rowScope .none .none doc pm an cdv ct), osl⟩ ∧ codeIn K cdv qn = true
theorem ld_loc {M : Model} {s : Shared} {name : Str} {scope : Scope} {L a : Addr} {cd : Value} {m : Str → Option Value} {x : Str} {pos : Pos} {v : Value} {Q : Value → Shared → Prop} {A : Around} {E : Value → Shared → Prop} (hn : s.heap.Ns L m) (hv : m x = some v) (h : Q v s)
    (hk : scope.kind = .function := by rfl) (hl : (envOfC name scope L a cd).kindOf x = some .local := by rfl) (hd : (x == ("__debug__" : Str)) = false := by decide) :
    wpAny M A (eval (.Name x pos) (envOfC name scope L a cd)) Q E s := wpAny_Name (wpAny_loadName_local hk hl hn hv h) hd
structure RowEnd (h h' : Heap) (x C dx t1 : Addr) (v : Value) : Prop where
  keep : ∀ b o, b ≠ x → h.get? b = some o → h'.get? b = some o
  obj : h'.get? x = some { cls := .ref C, dict := some dx, data := .fields #[.ref t1, .none, .none, .none, .bool false, .none] }
  dbig : h.objs.size ≤ dx
  dne : dx ≠ x
  ns : h'.Ns1 dx (fun y => if y = "row" then some v else none)
structure RowMade (h h' : Heap) (e C d : Addr) (v : Value) : Prop where
  keep : ∀ b o, h.get? b = some o → h'.get? b = some o
  new : h.objs.size ≤ e
  obj : ∃ oe vs, h'.get? e = some oe ∧ oe.cls = .ref C ∧ oe.dict = some d ∧ oe.data = .fields vs ∧ vs[1]? = some .none
  dbig : h.objs.size ≤ d
  dne : d ≠ e
  ns : h'.Ns1 d (fun y => if y = "row" then some v else none)
section
variable {prog : Program} {w : World} {A : Around} {E : Value → Shared → Prop} {R : Result → Shared → Prop} {s : Shared} {K : Frag} {C f1 : Addr} {qn : Str}
theorem row_init (T : RowTxt K C f1 qn) {x t0 : Addr} {v : Value} (X : K.In s.heap) (hlim : s.heap.NoLimit) (hx : s.heap.get? x = some (excO C t0)) (hnx : K.lookup x = none) (hroom : A.depth < recursionLimit)
    (hq : ∀ h' tk dx, RowEnd s.heap h' x C dx t0 v → R (.ok (.ret .none)) { s with heap := h', toks := tk }) :
    codeAny (model prog w) A (.call (.ref f1) ⟨[.ref x, v], []⟩) R s := by
  obtain ⟨oc, od, doc, pm, an, cdv, ct, osl, p1, p2, q1, q2, q3, q4, ho, hcd⟩ := T.fn
  obtain ⟨nm, q, N, bs, bm, sn, sub, ab, col, dd, k0, k1, k2, k3, k5, hC, hbm⟩ := T.cls
  have hcl : clsIn K C = some { name := nm, bases := bs, mro := .ref C :: bm, ns := N, qualname := q, hasDict := true, slotNames := sn, subclasses := sub, abstract := ab, collection := col, hasDel := false } := by unfold clsIn; rw [hC] <;> rfl
  refine Att.call_fn (binds := [("self", .ref x), ("row", v)]) X hlim ho hcd hroom (BindsTo.of_eq (by first | rfl | with_unfolding_all rfl)) (by first | rfl | decide | with_unfolding_all rfl) (fun s₁ IC => ?_) rfl rfl rfl
  obtain ⟨h₁, tk₁, rfl⟩ := IC.toInCall.same
  have k : ∀ b o, s.heap.get? b = some o → h₁.get? b = some o := IC.toInCall.keep
  have hn := IC.toInCall.ns
  have X₁ : K.In h₁ := X.keeps k
  have hx₁ := k _ _ hx
  show wpAny _ _ (PySem.execs _ _) _ _ _
  refine wpAny_execs_cons (plainObj_wpAny_Assign_Attribute ?_)
  refine ld_loc (v := v) hn (by first | rfl | with_unfolding_all rfl | kernel_rfl) (ld_loc (v := .ref x) hn (by first | rfl | with_unfolding_all rfl | kernel_rfl) ?_)
  refine set_plain X₁ (ox := excO C t0) (od := none) ⟨hx₁, rfl, rfl, trivial⟩ T.sa ?_
  refine exc_osa X₁ hx₁ hcl (show refsVE (.ref C :: bm) = true from hbm) rfl T.noN (fun h₃ tk₃ dx k₃ dn dne hx₃ hn₃ => ?_)
  show wpAny _ _ (PySem.execs _ _) _ _ _
  have z : s.heap.objs.size < h₁.objs.size := hn.lt
  exact wpAny_execs_nil (hq h₃ tk₃ dx ⟨fun b o hb e => k₃ b o hb (k b o e), hx₃, Nat.le_of_lt (Nat.lt_of_lt_of_le z dn), dne, hn₃⟩)
theorem row_one_size (v : Value) : [v].length ≤ sizeLine := by
  rw [sizeLine_eq]
  exact (by decide : 1 ≤ 16777216)
theorem row_made (T : RowTxt K C f1 qn) {v : Value} (X : K.In s.heap) (hlim : s.heap.NoLimit) (hroom : A.depth + 1 < recursionLimit)
    (hq : ∀ h' tk e d, RowMade s.heap h' e C d v → R (.ok (.ret (.ref e))) { s with heap := h', toks := tk }) :
    codeAny (model prog w) A (.call (.ref C) ⟨[v], []⟩) R s := by
  obtain ⟨nm, q, N, bs, bm, sn, sub, ab, col, dd, k0, k1, k2, k3, k5, hC, hbm⟩ := T.cls
  obtain ⟨hp, g, dr, tk, os⟩ := s
  have k : ∀ b o, hp.get? b = some o → ((hp.push (kdv_tup [v])).push (excO C hp.objs.size)).get? b = some o := fun b o e => Heap.get?_push_of_some _ (Heap.get?_push_of_some _ e)
  have hget : ((hp.push (kdv_tup [v])).push (excO C hp.objs.size)).get? (hp.objs.size + 1) = some (excO C hp.objs.size) := by heap_get
  have hnx : K.lookup (hp.objs.size + 1) = none := by
    cases e : K.lookup (hp.objs.size + 1) with
    | none => rfl
    | some o =>
      have z : hp.get? (hp.objs.size + 1) = some o := X _ _ e
      exact absurd (Nat.lt_of_succ_lt (Heap.lt_size z)) (Nat.lt_irrefl _)
  refine call_own F.excBase_ValueError (fun X => refsVE_contains X bm hbm) (X _ _ hC) (looks_findIn X T.iC) (fun self => bind_fn X self T.tC) (row_one_size v) ?_
  refine row_init (s := ⟨(hp.push (kdv_tup [v])).push (excO C hp.objs.size), g, dr, tk, os⟩) T (X.keeps k) (hlim.keeps k) hget hnx ?_ fun h' tk' dx ⟨k', hx, dn, dne, hns⟩ => ?_
  · show A.depth + 1 < recursionLimit
    exact hroom
  · have old : ∀ b o, hp.get? b = some o → h'.get? b = some o := fun b o e => k' b o (Nat.ne_of_lt (Nat.lt_succ_of_lt (Heap.lt_size e))) (k b o e)
    have z : hp.objs.size + 1 + 1 ≤ dx := by
      first
        | (simpa only [Heap.size_push] using dn)
        | exact dn
        | (have q := dn; rw [Heap.size_push, Heap.size_push] at q; exact q)
    exact ⟨rfl, hq h' tk' (hp.objs.size + 1) dx ⟨old, Nat.le_succ _, ⟨_, _, hx, rfl, rfl, rfl, rfl⟩, Nat.le_trans (Nat.le_trans (Nat.le_succ _) (Nat.le_succ _)) z, dne, hns⟩⟩
end
theorem relO_row {v : V} {v' : Value} (r : RelV v v') (f : Str) : RelO (List.lookup f [(("row" : Str), v)]) (if f = "row" then some v' else none) := by
  by_cases hw : f = "row"
  · subst hw
    rw [if_pos rfl]
    have q : List.lookup ("row" : Str) [(("row" : Str), v)] = some v := by simp [List.lookup]
    rw [q]
    exact r
  · rw [if_neg hw]
    have qw : (f == ("row" : Str)) = false := by simpa using hw
    have q2 : List.lookup f [(("row" : Str), v)] = none := by simp [List.lookup, qw]
    rw [q2]
    trivial
section
variable {X : Cx} {C f1 : Addr} {qn : Str}
/-! C(e) -/
def tMkRow (C : Addr) (ta : TA) : L2.St → Hp → XK → Prop := fun σ H Q => ta σ H fun vs H1 => ∃ v, vs = [v] ∧ ∀ d, H1 d = none → Q (.ref C) (some d) (upd H1 d (.xd [(("row" : Str), v)]))
theorem pmk_row {x : Str} {a : Expr} {ta : TA} {p pos : Pos} {k : Nat} (T : RowTxt X.K C f1 qn) (gC : X.mg x = some (.ref C)) (kC : keepIn X.K (.ref C) = true) (exC : subIn X.K (.ref C) (.type "BaseException") = some true) (tyC : typeIn X.K (.ref C) = some (.type "type"))
    (hr : Room k X.A) (ha : PA X [a] ta) (hg : Gl X x) (hdb : (x == ("__debug__" : Str)) = false)
    (he : starEach (a :: []) X.env = (false, eval a X.env) :: starEach [] X.env := by rfl) (hpl : (backTo pos (starEach [] X.env)).any (·.1) = false := by rfl) :
    PMk X (.Call (.Name x p) [a] [] pos) (tMkRow C ta) := by
  intro pins s σ H Q I h
  refine wpAny_Call_Name_kw (ld_glob I hg gC ?_ hdb)
  refine PySem.W.callWith_K (h₀ := X.base) I.ok.mod.kin kC (thn (ha.run pos pins s σ H _ I h) fun us s1 hh => ?_) he hpl
  obtain ⟨vs, H1, I1, r1, v, ev, q1⟩ := hh
  subst ev
  refine ⟨I1.kIn, ?_⟩
  cases r1 with
  | cons rv rn =>
    rename_i v' us'
    cases rn
    show wpAny _ _ (call (.ref C) [v']) _ _ _
    have hlim := I1.nolimit
    obtain ⟨hp, g, dr, tk, os⟩ := s1
    refine wpAny_call (row_made T I1.kIn hlim (by have := hr.dp; omega) fun h' tk' e d M => ?_)
    show MkP X pins σ Q (.ref e) ⟨h', g, dr, tk', os⟩
    obtain ⟨oe, fv, hoe, hc, hd, hdat, h1⟩ := M.obj
    have hns := M.ns
    obtain ⟨G', g1, g2⟩ := restrict h' fun b => decide (b ≠ e)
    have gk : ∀ b, b ≠ e → G'.get? b = h'.get? b := fun b hb => g1 b (decide_eq_true hb)
    have ge : G'.get? e = none := g2 e (by simp)
    have old : ∀ b o, hp.get? b = some o → G'.get? b = some o := fun b o q => (gk b (Nat.ne_of_lt (Nat.lt_of_lt_of_le (Heap.lt_size q) M.new))).trans (M.keep b o q)
    have ob : ObjOk X.prog X.w (upd H1 d (.xd [(("row" : Str), v)])) G' d (.xd [(("row" : Str), v)]) :=
      ⟨_, hns.at (fun o q => (gk d M.dne).trans q), fun f => relO_row rv f⟩
    have J : Inv X pins σ (upd H1 d (.xd [(("row" : Str), v)])) ⟨G', g, dr, tk', os⟩ := I1.laid (t' := tk') old M.dbig ob
    refine ⟨e, oe, fv, ⟨G', g, dr, tk', os⟩, _, .ref C, some d, rfl, J, fun b o q => ?_, ge, hoe, ⟨hc, hd⟩, hdat, h1, ?_, rfl, I1.bare, raises_own exC tyC, q1 d (I1.hok.fresh M.dbig)⟩
    · by_cases hb : b = e
      · have q' : G'.get? b = some o := q
        rw [hb, ge] at q'; cases q'
      · exact (gk b hb).symm.trans q
    · rw [upd_ne (Ne.symm M.dne)]
      exact I1.hok.fresh M.new
end
/-! ### facts of the exceptions' classes -/
structure XcF (K : Frag) (C : Addr) : Prop where
  ga : findIn K (.ref C) "__getattribute__" = some (some (.builtin "BaseException.__getattribute__"))
  gg : findIn K (.ref C) "__getattr__" = some none
  ex : subIn K (.ref C) (.type "BaseException") = some true
  hd : hasDictIn K C = true
  ca : findIn K (.ref C) "__class__" = some (some (.builtin "object.__class__"))
  ob : mroIn K C (.type "object") = some true
  ty : typeIn K (.ref C) = some (.type "type")
  kp : keepIn K (.ref C) = true
  ve : subIn K (.ref C) (.type "ValueError") = some true
  nr : findIn K (.ref C) "row" = some none
structure XcS (K : Frag) (E : Nat → Addr) (m : Nat) : Prop where
  pos : 0 < m
  big : m ≤ 100
  one : ∀ c, c < m → XcF K (E c)
  out : ∀ c, m ≤ c → E c = E 0
  sub : ∀ c', c' < m → ∀ c, c < m → subIn K (.ref (E c')) (.ref (E c)) = some (c' == c || c == 0)
  hn : specialIn K (.builtin "object.__class__") "__get__" = some (some (.builtin "getset_descriptor.__get__"))
  ht : takesIn K (.builtin "object.__class__") = some true
section
variable {K : Frag} {E : Nat → Addr} {m : Nat}
theorem XcS.all (S : XcS K E m) (c : Nat) : XcF K (E c) := by
  by_cases h : c < m
  · exact S.one c h
  · rw [S.out c (by omega)]; exact S.one 0 S.pos
theorem XcS.subs (S : XcS K E m) (c' : Nat) {c : Nat} (h : c < m) : subIn K (.ref (E c')) (.ref (E c)) = some (xsub c' c) := by
  have h1000 : (c == 1000) = false := by
    have := S.big
    rw [beq_eq_false_iff_ne]; omega
  unfold xsub
  rw [h1000, Bool.or_false]
  by_cases h' : c' < m
  · exact S.sub c' h' c h
  · rw [S.out c' (by omega), S.sub 0 S.pos c h]
    have e1 : (c' == c) = false := by rw [beq_eq_false_iff_ne]; omega
    rw [e1, Bool.false_or]
    cases c <;> rfl
theorem XcF.cls {C : Addr} (F : XcF K C) : (clsIn K C).isSome = true := by
  obtain ⟨cd, hc, _⟩ := any_some F.hd
  rw [hc]; rfl
theorem XcS.exm (S : XcS K E m) (c' : Nat) {c : Nat} (h : c < m) : exmOne K (.ref (E c')) (.ref (E c)) = some (xsub c' c) := by
  have F := S.all c
  show (if (subIn K (.ref (E c)) (.type "BaseException") == some true) = true then (if ((clsIn K (E c)).isSome && typeIn K (.ref (E c)) == some (.type "type")) = true then subIn K (.ref (E c')) (.ref (E c)) else none) else none) = _
  rw [if_pos (by rw [F.ex]; rfl), if_pos (by rw [F.cls, F.ty]; rfl)]
  exact S.subs c' h
theorem XcS.kit (S : XcS K E m) (c' : Nat) {c : Nat} (h : c < m) : kitOne K (.ref (E c')) (.ref (E c)) = some (xsub c' c) := by
  have F := S.all c
  show (if (Value.ref (E c') == Value.ref (E c)) = true then some true else (if ((clsIn K (E c)).isSome && typeIn K (.ref (E c)) == some (.type "type")) = true then subIn K (.ref (E c')) (.ref (E c)) else none)) = _
  rw [if_pos (c := ((clsIn K (E c)).isSome && typeIn K (.ref (E c)) == some (.type "type")) = true) (by rw [F.cls, F.ty]; rfl)]
  split
  · rename_i q
    have q : Value.ref (E c') = Value.ref (E c) := beq_iff_eq.mp q
    have z := S.subs c' h
    rw [q] at z
    by_cases h0 : c = 0
    · subst h0
      have : xsub c' 0 = true := by unfold xsub; simp
      rw [this]
    · have e1 := S.sub c h c h
      rw [z] at e1
      cases e1' : xsub c' c with
      | true => rfl
      | false => rw [e1'] at e1; simp at e1
  · exact S.subs c' h
theorem XcS.kitV (S : XcS K E m) (c' : Nat) : kitOne K (.ref (E c')) (.type "ValueError") = some (xsub c' 1000) := by
  have F := S.all c'
  show (if (Value.ref (E c') == Value.type "ValueError") = true then some true else (if kitMeta "ValueError" = true then subIn K (.ref (E c')) (.type "ValueError") else none)) = _
  have : xsub c' 1000 = true := by unfold xsub; simp
  rw [this]
  split
  · rfl
  · rw [if_pos (by decide +kernel), F.ve]
end
/-! ### isinstance of an exception -/
def rIsX (K : Frag) : List V → Hp → VK → Prop := fun xs H Q => ∃ (a C : Addr) (dd : Option Addr) (c : V) (u : Value) (b : Bool), xs = [.ref a, c] ∧ H a = some (ExB (.ref C) dd a) ∧ (∀ x, dd = some x → ∃ fs, H x = some (.xd fs)) ∧ ClsV c u ∧ kitOne K (.ref C) u = some b ∧
  (XcF K C ∧ specialIn K (.builtin "object.__class__") "__get__" = some (some (.builtin "getset_descriptor.__get__")) ∧ takesIn K (.builtin "object.__class__") = some true) ∧ Q (.bl b) H
def rIsXT (K : Frag) : List V → Hp → VK → Prop := fun xs H Q => ∃ (a C tp : Addr) (dd : Option Addr) (cs : List V) (us : List Value) (b : Bool), xs = [.ref a, .ref tp] ∧ H tp = some (.tup cs) ∧ H a = some (ExB (.ref C) dd a) ∧ (∀ x, dd = some x → ∃ fs, H x = some (.xd fs)) ∧ Paired ClsV cs us ∧ kitAny K (.ref C) us = some b ∧
  (XcF K C ∧ specialIn K (.builtin "object.__class__") "__get__" = some (some (.builtin "getset_descriptor.__get__")) ∧ takesIn K (.builtin "object.__class__") = some true) ∧ Q (.bl b) H
section
variable {X : Cx}
theorem exc_inst {pins : List (Addr × PySem.Obj)} {σ : L2.St} {H : Hp} {s : Shared} {a C : Addr} {dd : Option Addr} (I : Inv X pins σ H s) (e : H a = some (ExB (.ref C) dd a)) (hd : ∀ x, dd = some x → ∃ fs, H x = some (.xd fs)) : ∃ ob od, PySem.W.InstAt s.heap a ob C od := by
  obtain ⟨ob, fl, g, z, f⟩ := exB_at I.hok e
  cases dd with
  | none => exact ⟨ob, none, g, z.1, by unfold notCls; rw [f], by rw [z.2]; trivial⟩
  | some x =>
    obtain ⟨fs, hx⟩ := hd x rfl
    obtain ⟨mA, hns, _⟩ : ObjOk X.prog X.w H s.heap x (.xd fs) := I.hok x _ hx
    obtain ⟨od, ho, _⟩ := lookIn_ns hns
    exact ⟨ob, some od, g, z.1, by unfold notCls; rw [f], by rw [z.2]; exact ho⟩
theorem call_isX : CallR X (.builtin "isinstance") (rIsX X.K) := by
  intro pins s σ H xs us Q I r ⟨a, C, dd, c, u, b, ex, e, hd, k, kb, ⟨F, h1, h2⟩, q⟩
  subst ex
  obtain ⟨u1, u2, rfl, r1, r2⟩ := vals2 r
  have e2 := k.eq r2
  subst e2
  cases (show u1 = Value.ref a from r1)
  obtain ⟨ob, od, J⟩ := exc_inst I e hd
  exact PySem.W.kia_one (PySem.W.kitx_exc F.cls F.ga F.gg F.ex F.ca h1 h2 F.ob) I.kIn J kb (fun z => nomatch z) fun tk => ⟨.bl b, H, I.tok tk, rfl, q⟩
theorem call_isXT : CallR X (.builtin "isinstance") (rIsXT X.K) := by
  intro pins s σ H xs us Q I r ⟨a, C, tp, dd, cs, ws, b, ex, hT, e, hd, k, kb, ⟨F, h1, h2⟩, q⟩
  subst ex
  obtain ⟨u1, u2, rfl, r1, r2⟩ := vals2 r
  cases (show u1 = Value.ref a from r1)
  cases (show u2 = Value.ref tp from r2)
  obtain ⟨ob, od, J⟩ := exc_inst I e hd
  obtain ⟨_, its, rv, o, g1, g2, n, g3⟩ := (show ObjOk X.prog X.w H s.heap tp (.tup cs) from I.hok tp _ hT)
  have e3 := ClsV.all k rv
  subst e3
  obtain ⟨oc, od', dt, sl⟩ := o
  simp only at g2 g3
  subst g2 g3
  exact PySem.W.kia_tup (PySem.W.kitx_exc F.cls F.ga F.gg F.ex F.ca h1 h2 F.ob) I.kIn J g1 kb (fun z => nomatch z) fun tk => ⟨.bl b, H, I.tok tk, rfl, q⟩
end
end Lk

namespace Lk
open PySem L2 PyProof.Rows

/-! ### a class that isinstance asks for -/
def ClX (X : Cx) (G : Gm) (e : Expr) (c : Nat) : Prop := ∃ v u, PE X e (L2.tC v) ∧ ClsV v u ∧ noStar e = true ∧ ∀ c', PySem.W.kitOne G.K (.ref (G.E c')) u = some (xsub c' c)
def tCs : List V → TA
  | [] => tNil
  | v :: vs => tCons (L2.tC v) (tCs vs)
theorem tCs_ok : ∀ {vs : List V} {t : L2.St} {H : Hp} {Q : List V → Hp → Prop}, Q vs H → tCs vs t H Q
  | [], _, _, _, h => h
  | _ :: vs, _, _, _, h => tCs_ok (vs := vs) h
def ClXs (X : Cx) (G : Gm) (es : List Expr) (cs : List Nat) : Prop := ∃ vs us, PA X es (tCs vs) ∧ Paired ClsV vs us ∧ (es.all noStar = true ∧ vs.length = es.length) ∧ ∀ c', PySem.W.kitAny G.K (.ref (G.E c')) us = some (cs.any (xsub c'))
section
variable {X : Cx} {G : Gm} {Wx : WX} {P : Pg} {n m : Nat} {a e : Expr} {ea ee : Ex} {pos p : Pos} {f : Bool} {es : List Expr}
theorem clx_own {x : Str} {c : Nat} {q : Pos} (S : XcS G.K G.E m) (hc : c < m) (hg : Gl X x) (hm : X.mg x = some (.ref (G.E c))) (hd : (x == ("__debug__" : Str)) = false) : ClX X G (.Name x q) c :=
  ⟨.ref (G.E c), .ref (G.E c), pe_glob hg hm rfl hd, .own _, rfl, fun c' => S.kit c' hc⟩
theorem clx_ve {q : Pos} (S : XcS G.K G.E m) (hg : Gl X "ValueError") (hm : X.mg "ValueError" = none) : ClX X G (.Name "ValueError" q) 1000 :=
  ⟨.ty "ValueError", .type "ValueError", pe_bltn hg hm (by decide +kernel) rfl (by decide) (by decide), .ty _, rfl, fun c' => S.kitV c'⟩
theorem clxs_nil : ClXs X G [] [] := ⟨[], [], pa_nil, .nil, ⟨rfl, rfl⟩, fun _ => rfl⟩
theorem clxs_cons {c : Nat} {cs : List Nat} (h : ClX X G e c) (hs : ClXs X G es cs) : ClXs X G (e :: es) (c :: cs) := by
  obtain ⟨v, u, h1, h2, h3, h4⟩ := h
  obtain ⟨vs, us, g1, g2, ⟨g3, g5⟩, g4⟩ := hs
  refine ⟨v :: vs, u :: us, pa_cons h1 g1 (star_cons h3), .cons h2 g2, ⟨by rw [List.all_cons, h3, g3]; rfl, by rw [List.length_cons, List.length_cons, g5]⟩, fun c' => ?_⟩
  rw [List.any_cons]
  refine kitAny_cons (h4 c') (fun z => ?_) (fun z => ?_)
  · rw [z, Bool.false_or]; exact g4 c'
  · rw [z]; rfl
theorem exo_at {U : Vw} {c : Nat} {ps : List D} {x : V} (h : RZ G U (.exo c ps) x) : ∃ b dd, x = .ref b ∧ U.H b = some (ExB (.ref (G.E c)) dd b) ∧ (∀ y, dd = some y → ∃ fs, U.H y = some (.xd fs)) ∧ ∀ d, ps = [d] → ∃ y v, dd = some y ∧ U.H y = some (.xd [(("row" : Str), v)]) ∧ RZ G U d v := by
  cases h with
  | exo0 z h => exact ⟨_, none, rfl, h, fun _ q => (nomatch q), fun d q => (nomatch q)⟩
  | exo1 z h z2 h2 r => exact ⟨_, _, rfl, h, fun y q => by cases q; exact ⟨_, h2⟩, fun d q => by cases q; exact ⟨_, _, rfl, h2, r⟩⟩
theorem isx_some {cs : List Nat} {s s' : Stt} {r : Ou Vl} {v : Md × D} (h : M.cell (match v with | (.fz, .exo c _) => some (.fz (.bl (cs.any (xsub c)))) | _ => none) s = some (r, s')) : ∃ c ps, v = (.fz, .exo c ps) ∧ r = .ok (.nw (.fz (.bl (cs.any (xsub c))))) ∧ s' = s := by
  obtain ⟨cc, h1, h2, h3⟩ := cell_some h
  split at h1
  · cases h1
    exact ⟨_, _, rfl, h2, h3⟩
  · cases h1
theorem v_isx1 (C : Cxt X G) (S : XcS G.K G.E m) {te : Expr} {c : Nat} (hx : ClX X G te c) (ha : PE X a (tV G Wx P false ea)) (ns : noStar a = true) (hg : Gl X "isinstance") (hm : X.mg "isinstance" = none) : PE X (.Call (.Name "isinstance" p) [a, te] [] pos) (tV G Wx P f (.isx ea [c])) := by
  obtain ⟨v, u, h1, h2, h3, h4⟩ := hx
  have hs : PA X [a, te] (tCons (tE G Wx P ea) (tCons (L2.tC v) tNil)) := pa_cons (peE ha) (pa_cons h1 pa_nil (star_cons h3)) (star_cons ns)
  refine peImp (pe_callB call_isX hg hm (by decide +kernel) hs (by decide) (by decide) (star_cons ns) (star_none (by rw [List.all_cons, h3]; rfl))) fun t H Q ⟨W, s, r, s', hH, F, e, q⟩ => ?_
  subst hH
  unfold evV at e
  rcases M.bind_some e with ⟨va, s1, e1, e2⟩ | ⟨c', p', e1, e2⟩
  · obtain ⟨c', ps, hv, hr, hs'⟩ := isx_some e2
    subst hv hr hs'
    refine ⟨W, s, _, _, rfl, F, e1, fun W1 x x1 F1 p1 _ => ?_⟩
    obtain ⟨b, dd, ex, hb, hd, _⟩ := exo_at (show RZ G W1.fz _ _ from p1)
    subst ex
    have := h4 c'
    rw [List.any_cons, List.any_nil, Bool.or_false] at q
    exact ⟨b, G.E c', dd, v, u, _, rfl, hb, hd, h2, C.K ▸ this, C.K ▸ ⟨S.all c', S.hn, S.ht⟩, q W1 _ x1 F1 (.bl _) fun z => by cases z⟩
  · subst e2
    exact ⟨W, s, _, s', rfl, F, e1, q⟩
theorem v_isxT (C : Cxt X G) (S : XcS G.K G.E m) {te : List Expr} {cs : List Nat} {k : Nat} {tp : Pos} (hx : ClXs X G te cs) (hl2 : te.length ≤ 100) (ha : PE X a (tV G Wx P false ea)) (ns : noStar a = true) (hg : Gl X "isinstance") (hm : X.mg "isinstance" = none) :
    PE X (.Call (.Name "isinstance" p) [a, .Tuple te k tp] [] pos) (tV G Wx P f (.isx ea cs)) := by
  obtain ⟨vs, us, h1, h2, ⟨h3, h5⟩, h4⟩ := hx
  have hs : PA X [a, .Tuple te k tp] (tCons (tE G Wx P ea) (tCons (tTup (tCs vs)) tNil)) := pa_cons (peE ha) (pa_cons (pe_tup h1) pa_nil rfl) (star_cons ns)
  refine peImp (pe_callB call_isXT hg hm (by decide +kernel) hs (by decide) (by decide) (star_cons ns) rfl) fun t H Q ⟨W, s, r, s', hH, F, e, q⟩ => ?_
  subst hH
  unfold evV at e
  rcases M.bind_some e with ⟨va, s1, e1, e2⟩ | ⟨c', p', e1, e2⟩
  · obtain ⟨c', ps, hv, hr, hs'⟩ := isx_some e2
    subst hv hr hs'
    refine ⟨W, s, _, _, rfl, F, e1, fun W1 x x1 F1 p1 _ => ?_⟩
    refine tCs_ok ⟨?_, fun tq hq => ?_⟩
    · rw [h5, sizeLine_eq]; omega
    · have g : Grow W1 (W1.nw tq (.tup vs)) := .nw hq
      have F2 := g.fr F1
      have p2 : RZ G (W1.nw tq (.tup vs)).fz (.exo c' ps) x := RZ.stay (g.vw (p := false)) p1
      obtain ⟨b, dd, ex, hb, hd, _⟩ := exo_at p2
      subst ex
      exact ⟨b, G.E c', tq, dd, vs, us, _, rfl, upd_same, hb, hd, h2, C.K ▸ h4 c', C.K ▸ ⟨S.all c', S.hn, S.ht⟩, q (W1.nw tq (.tup vs)) _ (x1.trans g.evo F.rel.trk) F2 (.bl _) fun z => by cases z⟩
  · subst e2
    exact ⟨W, s, _, s', rfl, F, e1, q⟩
/-! e.row -/
theorem v_xrow (C : Cxt X G) (S : XcS G.K G.E m) (ha : PE X a (tV G Wx P false ea)) (hb : attributeBase a "row" X.env (eval a X.env) = eval a X.env) : PE X (.Attribute a "row" pos) (tV G Wx P f (.xrow ea)) := by
  refine ⟨fun pins s σ H Q I h => ?_⟩
  obtain ⟨W, st, r, st', hH, F, e, q⟩ := h
  subst hH
  unfold evV at e
  rcases M.bind_some e with ⟨va, s1, e1, e2⟩ | ⟨c', p', e1, e2⟩
  · obtain ⟨cc, g1, g2, g3⟩ := cell_some e2
    refine attr_of hb (thn ((peE ha).run pins s σ W.H (fun x H1 => ∃ W1, W1.H = H1 ∧ Evo false W W1 ∧ Fr G W1 s1 σ ∧ PlR G W1 σ va.1 va.2 x) I ⟨W, st, _, s1, rfl, F, e1, fun W1 x x1 F1 p1 _ => ⟨W1, rfl, x1, F1, p1⟩⟩) fun u sh hh => ?_)
    obtain ⟨x, H1, I1, rx, W1, hW, x1, F1, p1⟩ := hh
    subst hW
    split at g1
    · rename_i c' d
      cases g1
      subst g2 g3
      obtain ⟨b, dd, ex, hb', hd, hr⟩ := exo_at (show RZ G W1.fz _ _ from p1)
      obtain ⟨y, v, ey, hy, rv⟩ := hr d rfl
      subst ex ey
      cases (show u = Value.ref b from rx)
      obtain ⟨ob, fl, g, z, fd⟩ := exB_at I1.hok hb'
      obtain ⟨mA, hns, hr⟩ : ObjOk X.prog X.w W1.H sh.heap y (.xd [(("row" : Str), v)]) := I1.hok y _ hy
      obtain ⟨od, ho, hl⟩ := lookIn_ns hns
      have l : List.lookup ("row" : Str) [(("row" : Str), v)] = some v := by simp [List.lookup]
      obtain ⟨w, hu, ru⟩ := RelO.some_of (v := v) (o := mA "row") (by rw [← l]; exact hr "row")
      have J : PySem.W.InstAt sh.heap b ob (G.E c') (some od) := ⟨g, z.1, by unfold PySem.W.notCls; rw [fd], by rw [z.2]; exact ho⟩
      have T := S.all c'
      exact HandSPX.exc_get I1.kIn J (C.K ▸ T.ga) (C.K ▸ T.gg) (C.K ▸ T.ex) (PySem.W.findObj_own (C.K ▸ T.hd) (C.K ▸ T.nr) rfl (by rw [hl, hu])) (handed_of ru) ⟨v, W1.H, I1.tok _, ru, q W1 v x1 F1 rv fun z => by cases z⟩
    · cases g1
  · subst e2
    refine attr_of hb (thn ((peE ha).run pins s σ W.H (fun _ _ => False) I ⟨W, st, _, st', rfl, F, e1, q⟩) fun u sh hh => ?_)
    obtain ⟨_, _, _, _, z⟩ := hh
    exact z.elim
/-! raise -/
theorem s_rse0 {x mm : Str} {j c : Nat} {p1 p2 pos2 : Pos} (tk : Takes X Wx) (hc : X.calm = true) (S : XcS X.K G.E m) (q : PySem.W.excIn X.K (G.E c) [.type "ValueError", .type "Exception", .type "BaseException", .type "object"] "ValueError.__new__" = true) (gC : X.mg x = some (.ref (G.E c))) (hg : Gl X x) (hdb : (x == ("__debug__" : Str)) = false) :
    PS X (.Raise (some (.Call (.Name x p1) [.Constant (.str mm) j p2] [] pos)) none pos2) (tS G Wx P n (.rse c [])) := by
  refine psImp (ps_raise hc tk (pmk_own PySem.F.excBase_ValueError q gC (S.all c).kp (raises_own (S.all c).ex (S.all c).ty) hg hdb)) fun D t H ⟨W, s, r, s', hH, F, e, qq⟩ => ?_
  subst hH
  unfold exec at e
  cases e
  exact qq W t none .refl F True.intro
theorem s_rse1 {x qn : Str} {c k : Nat} {f1 : Addr} {p1 pos2 : Pos} (tk : Takes X Wx) (hc : X.calm = true) (S : XcS X.K G.E m) (T : RowTxt X.K (G.E c) f1 qn) (hr : Room k X.A) (gC : X.mg x = some (.ref (G.E c))) (hg : Gl X x) (hdb : (x == ("__debug__" : Str)) = false) (ha : PE X a (tV G Wx P false ea)) (ns : noStar a = true) :
    PS X (.Raise (some (.Call (.Name x p1) [a] [] pos)) none pos2) (tS G Wx P n (.rse c [ea])) := by
  refine psImp (ps_raise hc tk (pmk_row T gC (S.all c).kp (S.all c).ex (S.all c).ty hr (pa_cons (peR ha) pa_nil (star_cons ns)) hg hdb (star_cons ns) rfl)) fun D t H ⟨W, s, r, s', hH, F, e, qq⟩ => ?_
  subst hH
  unfold exec at e
  rcases M.bind_some e with ⟨cc, s1, e1, e2⟩ | ⟨c', p', e1, e2⟩
  · refine ⟨W, s, _, s1, rfl, F, e1, fun W1 v x1 F1 cr => ⟨v, rfl, fun d hd => ?_⟩⟩
    cases cc with
    | fz dd =>
      cases e2
      have g : Grow W1 (W1.nw d (.xd [(("row" : Str), v)])) := .nw hd
      have F2 := g.fr F1
      have free : (W1.nw d (.xd [(("row" : Str), v)])).g d = none := F1.rel.free hd
      have F3 := F2.claim (r := some .fro) free ⟨_, upd_same⟩ (fun _ z => by cases z)
      have x2 : Evo true W (W1.nw d (.xd [(("row" : Str), v)])) := x1.weak.trans g.evo F.rel.trk
      have hn : W.H d = none := x1.hnone hd
      refine qq ((W1.nw d (.xd [(("row" : Str), v)])).sg d (some .fro)) t (some d) (x2.claim hn F.rel.trk) F3 ⟨v, sg_at, upd_same, ?_⟩
      exact RZ.stay (sg_fz (by rw [free]; trivial)) (RZ.stay (g.vw (p := false)) cr)
    | _ => cases e2
  · subst e2
    exact ⟨W, s, _, s', rfl, F, e1, fun W' dx x' F' hx => qq W' t dx x'.weak F' hx⟩
/-! an exception made, not raised -/
theorem pe_mk {e : Expr} {tm : L2.St → Hp → XK → Prop} (h : PMk X e tm) : PE X e (fun σ H Q => tm σ H fun cls d H1 => ∀ a, H1 a = none → Q (.ref a) (upd H1 a (ExB cls d a))) := by
  refine ⟨fun pins s σ H Q I q => wpAny_mono (h pins s σ H _ I q) (fun u s' hm => ?_) fun _ _ x => x⟩
  obtain ⟨a, oe, vs, sI, H', cls, d, rfl, I', k, ga, go, z, hd, h1, hn, ho, hb, hr, q'⟩ := hm
  have ok : ObjOk X.prog X.w (upd H' a (ExB cls d a)) s'.heap a (ExB cls d a) := ⟨⟨oe, vs, go, z, hd⟩, ⟨oe, go⟩, fun _ _ ⟨o, v, e1, e2, e3⟩ kk => ⟨o, v, kk o e1, e2, e3⟩⟩
  exact ⟨.ref a, _, I'.call' (ch := []) ho (Un.laidN k ga hn) (I'.hok.laidN k hn ok) hb (fun _ z => nomatch z), rfl, q' a hn⟩
theorem exo_new {b : Bool} {W : Wd} {s : Stt} {t : L2.St} {c : Nat} {p : Option D} {dx : Option Addr} {e0 : Addr} (F : Fr G W s t) (hx : ExR G W p dx) (h : W.H e0 = none) :
    ∃ W2, W2.H = upd W.H e0 (ExB (.ref (G.E c)) dx e0) ∧ Evo b W W2 ∧ Fr G W2 s t ∧ RZ G W2.fz (.exo c p.toList) (.ref e0) := by
  have g : Grow W (W.nw e0 (ExB (.ref (G.E c)) dx e0)) := .nw h
  have free : (W.nw e0 (ExB (.ref (G.E c)) dx e0)).g e0 = none := F.rel.free h
  refine ⟨(W.nw e0 (ExB (.ref (G.E c)) dx e0)).sg e0 (some .fro), rfl, (g.evo).claim h F.rel.trk, (g.fr F).claim free ⟨_, upd_same⟩ (fun _ z => by cases z), ?_⟩
  cases p with
  | none =>
    cases dx with
    | none => exact .exo0 sg_at upd_same
    | some _ => exact hx.elim
  | some d =>
    cases dx with
    | none => exact hx.elim
    | some y =>
      obtain ⟨v, h1, h2, h3⟩ := hx
      have ne : y ≠ e0 := fun z => by rw [z, h] at h2; cases h2
      have st := sg_fz (W := W.nw e0 (ExB (.ref (G.E c)) (some y) e0)) (a := e0) (r := some .fro) (by rw [free]; trivial)
      have st2 := g.vw (p := false)
      refine .exo1 sg_at upd_same ?_ ?_ (RZ.stay st (RZ.stay st2 h3))
      · show ((W.nw e0 _).sg e0 _).g y = _
        rw [sg_ne ne]; exact h1
      · show upd W.H e0 _ y = _
        rw [upd_ne ne]; exact h2
theorem v_mkx0 {x mm : Str} {j c : Nat} {p1 p2 : Pos} (S : XcS X.K G.E m) (q : PySem.W.excIn X.K (G.E c) [.type "ValueError", .type "Exception", .type "BaseException", .type "object"] "ValueError.__new__" = true) (gC : X.mg x = some (.ref (G.E c))) (hg : Gl X x) (hdb : (x == ("__debug__" : Str)) = false) :
    PE X (.Call (.Name x p1) [.Constant (.str mm) j p2] [] pos) (tV G Wx P f (.mkx0 c)) := by
  refine peImp (pe_mk (pmk_own PySem.F.excBase_ValueError q gC (S.all c).kp (raises_own (S.all c).ex (S.all c).ty) hg hdb)) fun t H Q ⟨W, s, r, s', hH, F, e, qq⟩ => ?_
  subst hH
  unfold evV at e
  cases e
  intro a ha
  obtain ⟨W2, h2, x2, F2, rz⟩ := exo_new (c := c) (p := none) (dx := none) F True.intro ha
  rw [← h2]
  exact qq W2 _ x2 F2 rz fun z => by cases z
theorem v_mkx1 {x qn : Str} {c k : Nat} {f1 : Addr} {p1 : Pos} (S : XcS X.K G.E m) (T : RowTxt X.K (G.E c) f1 qn) (hr : Room k X.A) (gC : X.mg x = some (.ref (G.E c))) (hg : Gl X x) (hdb : (x == ("__debug__" : Str)) = false) (ha : PE X a (tV G Wx P false ea)) (ns : noStar a = true) :
    PE X (.Call (.Name x p1) [a] [] pos) (tV G Wx P f (.mkx1 c ea)) := by
  refine peImp (pe_mk (pmk_row T gC (S.all c).kp (S.all c).ex (S.all c).ty hr (pa_cons (peR ha) pa_nil (star_cons ns)) hg hdb (star_cons ns) rfl)) fun t H Q ⟨W, s, r, s', hH, F, e, qq⟩ => ?_
  subst hH
  unfold evV at e
  rcases M.bind_some e with ⟨cc, s1, e1, e2⟩ | ⟨c', p', e1, e2⟩
  · refine ⟨W, s, _, s1, rfl, F, e1, fun W1 v x1 F1 cr => ⟨v, rfl, fun d hd => ?_⟩⟩
    cases cc with
    | fz dd =>
      cases e2
      have g : Grow W1 (W1.nw d (.xd [(("row" : Str), v)])) := .nw hd
      have F2 := g.fr F1
      have free : (W1.nw d (.xd [(("row" : Str), v)])).g d = none := F1.rel.free hd
      have F3 := F2.claim (r := some .fro) free ⟨_, upd_same⟩ (fun _ z => by cases z)
      have x2 : Evo false W (W1.nw d (.xd [(("row" : Str), v)])) := x1.trans g.evo F.rel.trk
      have hn : W.H d = none := x1.hnone hd
      have x3 : Evo false W ((W1.nw d (.xd [(("row" : Str), v)])).sg d (some .fro)) := x2.claim hn F.rel.trk
      have hx : ExR G ((W1.nw d (.xd [(("row" : Str), v)])).sg d (some .fro)) (some dd) (some d) := ⟨v, sg_at, upd_same, RZ.stay (sg_fz (by rw [free]; trivial)) (RZ.stay (g.vw (p := false)) cr)⟩
      intro e0 he
      obtain ⟨W4, h4, x4, F4, rz⟩ := exo_new (c := c) F3 hx he
      have he' : upd (upd W1.H d (.xd [(("row" : Str), v)])) e0 (ExB (.ref (G.E c)) (some d) e0) = W4.H := h4.symm
      rw [he']
      exact qq W4 _ (x3.trans x4 F.rel.trk) F4 rz fun z => by cases z
    | _ => cases e2
  · subst e2
    exact ⟨W, s, _, s', rfl, F, e1, qq⟩
/-! try -/
theorem Fr.unset {W : Wd} {s : Stt} {t : L2.St} {i : Nat} (F : Fr G W s t) : Fr G W { s with r := s.r.set i none } (t.set i none) := by
  refine ⟨F.rel, by simpa using F.len, fun j c h => ?_⟩
  have h : (s.r.set i none)[j]? = some (some c) := h
  by_cases z : j = i
  · subst z
    by_cases hl : j < s.r.length
    · rw [List.getElem?_set_self hl] at h
      cases h
    · rw [List.getElem?_eq_none (by rw [List.length_set]; omega)] at h
      cases h
  · rw [List.getElem?_set_ne (Ne.symm z)] at h
    obtain ⟨v, e1, q⟩ := F.slt j c h
    exact ⟨v, by rw [List.getElem?_set_ne (Ne.symm z)]; exact e1, q⟩
/-! the world behind the catch -/
theorem exo_in {W : Wd} {s : Stt} {t : L2.St} {c : Nat} {p : Option D} {dx : Option Addr} {e0 : Addr} (F : Fr G W s t) (hx : ExR G W p dx) (h : W.H e0 = none) :
    ∃ W2, W2.H = upd W.H e0 (ExB (.ref (G.E c)) dx e0) ∧ Evo true W W2 ∧ Fr G W2 s t ∧ RZ G W2.fz (.exo c p.toList) (.ref e0) := by
  have g : Grow W (W.nw e0 (ExB (.ref (G.E c)) dx e0)) := .nw h
  have free : (W.nw e0 (ExB (.ref (G.E c)) dx e0)).g e0 = none := F.rel.free h
  refine ⟨(W.nw e0 (ExB (.ref (G.E c)) dx e0)).sg e0 (some .fro), rfl, (g.evo).claim h F.rel.trk, (g.fr F).claim free ⟨_, upd_same⟩ (fun _ z => by cases z), ?_⟩
  cases p with
  | none =>
    cases dx with
    | none => exact .exo0 sg_at upd_same
    | some _ => exact hx.elim
  | some d =>
    cases dx with
    | none => exact hx.elim
    | some y =>
      obtain ⟨v, h1, h2, h3⟩ := hx
      have ne : y ≠ e0 := fun z => by rw [z, h] at h2; cases h2
      have st := sg_fz (W := W.nw e0 (ExB (.ref (G.E c)) (some y) e0)) (a := e0) (r := some .fro) (by rw [free]; trivial)
      have st2 := g.vw (p := false)
      refine .exo1 sg_at upd_same ?_ ?_ (RZ.stay st (RZ.stay st2 h3))
      · show ((W.nw e0 _).sg e0 _).g y = _
        rw [sg_ne ne]; exact h1
      · show upd W.H e0 _ y = _
        rw [upd_ne ne]; exact h2
theorem s_tryx (C : Cxt X G) (st : X.stack = X.env :: X.outer) (fr : X.env.frame = some X.env.locals) (ex0 : X.ex = []) {i c : Nat} {cn en : Str} {bd su : List Stmt} {su0 : Stmt} {qn qh qt : Pos} {xb xs : List St} (hi : X.N[i]? = some en) (lcl : X.env.kindOf en = some .local) (tk : Takes X Wx)
    (S : XcS G.K G.E m) (hc : c < m) (hg : Gl X cn) (hdb : (cn == ("__debug__" : Str)) = false) (hm : X.mg cn = some (.ref (G.E c)))
    (hB : ∀ (W : WX) (pn : List (Addr × PySem.Obj)) (xe : Value → Shared → Prop), Takes (X.tr pn xe) W → PassesOwn (model X.prog X.w) X.A X.env xe → PSs (X.tr pn xe) bd (tSs' G W P n xb))
    (hU : ∀ (e0 : Addr) (pn : List (Addr × PySem.Obj)), PSs (X.suite e0 pn) (su0 :: su) (tSs' G WxF P n xs)) :
    PS X (.Try bd [.ExceptHandler (some (.Name cn qn)) (some en) (su0 :: su) qh] [] [] qt) (tS G Wx P n (.tryx c (some i) xb xs)) := by
  refine psImp (ps_tryT (k := i) (tB := fun W => tSs' G W P n xb) (tU := fun _ _ _ => tSs' G WxF P n xs) st fr ex0 C.nd hi lcl (cv := .ref (G.E c)) ⟨hg, hdb, .inl hm⟩ tk hB fun e0 _ _ pn => hU e0 pn) fun D t H ⟨W, s, r, s', hH, F, e, q⟩ => ?_
  subst hH
  unfold exec at e
  have tr := F.rel.trk
  cases hb : execs P n xb s with
  | none => rw [hb] at e; cases e
  | some z =>
    obtain ⟨o, s1⟩ := z
    rw [hb] at e
    cases o with
    | ok fl =>
      cases e
      refine ⟨W, s, _, _, rfl, F, hb, ?_⟩
      cases fl <;> exact q
    | ex c' p' =>
      refine ⟨W, s, _, s1, rfl, F, hb, fun W1 t1 dx x1 F1 hx => ⟨xsub c' c, C.K ▸ S.exm c' hc, fun yes e0 h0 => ?_, fun no => ?_⟩⟩
      · simp only [yes, if_true] at e
        obtain ⟨W2, hW2, x2, F2, r2⟩ := exo_in (c := c') F1 hx h0
        rw [← hW2]
        have F3 := F2.set (i := i) (c := .fz (.exo c' p'.toList)) r2
        split at e
        · rename_i f s2 he
          cases e
          refine ⟨W2, _, _, s2, rfl, F3, he, ?_⟩
          have x12 := x1.trans x2 tr
          cases f with
          | next => exact fun W3 t3 x3 F4 => q W3 _ (x12.trans x3 tr) F4.unset
          | brk => exact fun W3 t3 x3 F4 => q W3 _ (x12.trans x3 tr) F4.unset
          | cnt => exact fun W3 t3 x3 F4 => q W3 _ (x12.trans x3 tr) F4.unset
          | ret cc =>
            intro W3 t3 v x3 F4 hv
            refine q W3 (t3.set i none) v (x12.trans x3 tr) F4.unset ?_
            cases cc with
            | own d =>
              obtain ⟨a, ea, l, hh⟩ := hv
              exact ⟨a, ea, l, hh.imp id fun ⟨g, h⟩ => ⟨g, x12.hnone h⟩⟩
            | _ => exact hv
        · cases e
      · simp only [no, Bool.false_eq_true, if_false] at e
        cases e
        exact q W1 t1 dx x1 F1 hx
end
end Lk

namespace Lk
open PySem L2 PyProof.Rows
/-! ### set(xs), xs a list of ints -/
section
variable {P : Program} {w : World} {A : Around} {E : Value → Shared → Prop} {s : Shared}
abbrev newSet (w : World) : PySem.Obj := { cls := .type "set", dict := none, data := .set #[] 0 (.fresh 0 0 (!w.params.followText "set-order")) }
/-! a built-in type called: it makes, then it begins -/
theorem type_walk {T newId initId : String} {args : List Value} {Q Q₁ : Value → Shared → Prop} (ft : TypeCalled T newId initId) (hct : checkTypeCall T ⟨args, []⟩ = pure ())
    (hnew : codeAny (model P w) A.in1 (.call (.builtin newId) ⟨.type T :: args, []⟩) (wants Q₁ E) s)
    (hini : ∀ obj s₁, Q₁ obj s₁ → codeAny (model P w) A.in1 (.call (.builtin initId) ⟨obj :: args, []⟩) (wants (fun r s₂ => r = .none ∧ Q obj s₂) E) s₁ ∧ s₁.TypeIs obj T) : wpAny (model P w) A (call (.type T) args) Q E s := by
  obtain ⟨_, _, m1⟩ := ft.mro
  have m2 := ft.made
  have m3 := ft.sub
  have m4 := ft.notType
  have m5 := ft.canCreate
  have go : ∀ r s₁, wants Q₁ E r s₁ → ∀ obj, r = .ok (.ret obj) → (codeAny (model P w) A.in1 (.call (.builtin initId) ⟨obj :: args, []⟩) (wants (fun r s₂ => r = .none ∧ Q obj s₂) E) s₁ ∧ s₁.TypeIs obj T) := fun r s₁ h obj e => by
    subst e; exact hini _ _ h
  refine wpAny_call (codeAny_of_tree (wpAny_pure ⟨Code.quiet_builtin _ (by decide +kernel), codeAny_builtin F.entry_type_call ?_⟩))
  rw [Around.under_plain (weight_type_call_type T args []) rfl]
  repeat (any_goals (first | assumption | wp_step))
  refine codeAny_mono hnew fun r s₁ hr => ?_
  match r, hr with
  | .error e, hr => exact hr
  | .ok (.ret obj), hr =>
    obtain ⟨hi, hT⟩ := go _ _ hr obj rfl
    have n1 := ft.init.lookup
    have n2 := ft.init.bind obj
    repeat (any_goals (first | assumption | wp_step))
    refine codeAny_mono hi fun r₂ s₂ h₂ => ?_
    match r₂, h₂ with
    | .error e, h₂ => exact h₂
    | .ok (.ret v), ⟨e, h₂⟩ =>
      subst e
      repeat (any_goals (first | assumption | wp_step))
theorem set_of_list {l : Addr} {items : Array Value} {ns : List Int} {Q : Value → Shared → Prop} (hh : A.handled = none) (hl : s.heap.IsList l items) (hit : IntsAre items.toList ns) (hb : ns.length + 1 < scanBound)
    (h : ∀ (h' : Heap) (tk c : Nat), SetR w h' s.heap.objs.size (fun j => decide (j ∈ ns)) c → c ≤ ns.length → (∀ b o, s.heap.get? b = some o → h'.get? b = some o) → Q (.ref s.heap.objs.size) { s with heap := h', toks := tk }) :
    wpAny (model P w) A (call (.type "set") [.ref l]) Q E s := by
  have hz : items.size = ns.length := by rw [← Array.length_toList]; exact IntsAre.length hit
  refine type_walk (Q₁ := fun obj s₁ => obj = .ref s.heap.objs.size ∧ s₁ = { s with heap := s.heap.push (newSet w) }) F.called_set (F.typeCall_set_1 _) (code_set_led1 _ ⟨rfl, rfl⟩) ?_
  rintro obj s₁ ⟨rfl, rfl⟩
  have hS : (s.heap.push (newSet w)).get? s.heap.objs.size = some (newSet w) := Heap.get?_push_size _ rfl
  have hL : (s.heap.push (newSet w)).IsList l items := by
    obtain ⟨o, h1, h2⟩ := hl
    exact ⟨o, Heap.get?_push_of_some _ h1, h2⟩
  have hT : Shared.TypeIs { s with heap := s.heap.push (newSet w) } (.ref s.heap.objs.size) "set" := ⟨_, hS, rfl⟩
  refine ⟨codeAny_call_builtin F.called_set.init.plain F.entry_set_init (check_set_init_1 hT ?_), hT⟩
  · obtain ⟨ol, hol, hcl, nl, hdl⟩ := id hl
    have hol' : (s.heap.push (newSet w)).get? l = some ol := Heap.get?_push_of_some _ hol
    obtain ⟨ocls, odict, odata, oslots⟩ := ol
    simp only at hcl hdl
    subst hcl hdl
    have k1 := F.sub_list_set
    have k2 := F.sub_list_frozenset
    have k3 : (Value.type "list" == Value.type "dict") = false := by decide
    unfold Builtin.«set.__init__» noKeywords Builtin.Frozenset.updateFrom
    generalize hPI : pyIter = PI
    wp_walk
    subst hPI
    refine wpAny_pyIter_list hL ?_
    refine wpAny_bind (wpAny_runValue ?_)
    have hlS : l < s.heap.objs.size := Heap.lt_size hol
    have ez : (s.heap.push (newSet w)).objs.size = s.heap.objs.size + 1 := Heap.size_push ..
    refine set_update_ints (A := A.in1.in1) ((Walks.list (A := A.in1.in1.in1) (by simp [hh]) _ l (by rw [ez]; exact Nat.ne_of_lt (Nat.lt_succ_of_lt hlS)) items).toS) s.heap.objs.size (by rw [ez]; simp only [List.mem_cons, List.not_mem_nil, or_false, not_or]; exact ⟨Nat.ne_of_lt (Nat.lt_succ_self _), Nat.ne_of_gt hlS⟩) ns hz hb (fun i v hv => ?_) (items.size - 0) 0 _ (by omega) (Nat.zero_le _) ⟨⟨_, Heap.get?_push_size _ rfl, rfl, rfl⟩, hL.push _⟩ ⟨0, Nat.le_refl 0, setR_new_at (Heap.get?_push_of_some _ hS)⟩ fun s' c hm hc hR => ?_
    · have hi : i < ns.length := by rw [← hz]; exact (Array.getElem?_eq_some_iff.mp hv).1
      obtain ⟨t, e⟩ := IntsAre.int_at hit i v (by rw [Array.getElem?_toList]; exact hv)
      refine ⟨ns[i], t, List.getElem?_eq_getElem hi, ?_⟩
      rw [e, List.getD_eq_getElem?_getD, List.getElem?_eq_getElem hi] <;> rfl
    · have old : ∀ b o, s.heap.get? b = some o → s'.heap.get? b = some o := fun b o e => by
        have b0 : b < s.heap.objs.size := Heap.lt_size e
        refine hm.heap b o (fun hb => ?_) (Heap.get?_push_of_some _ (Heap.get?_push_of_some _ e))
        rw [ez] at hb
        simp only [List.mem_cons, List.not_mem_nil, or_false] at hb
        rcases hb with hb | hb
        · exact absurd hb (Nat.ne_of_lt b0)
        · exact absurd hb (Nat.ne_of_lt (Nat.lt_succ_of_lt b0))
      have es : s' = { s with heap := s'.heap, toks := s'.toks } := by
        obtain ⟨h', g2, d', tk', os'⟩ := s'
        have eg : g2 = s.gens := hm.gens
        have ed : d' = s.drawn := hm.drawn
        have eo : os' = s.os := hm.os
        subst eg ed eo
        rfl
      refine wpAny_pure (wpAny_pure ⟨rfl, ?_⟩)
      rw [es]
      exact h _ _ c hR (by rw [← hz]; exact hc) old
end
/-! ### its ints, rising -/
theorem mem_insI {x y : Int} : ∀ {l : List Int}, y ∈ insI x l ↔ y = x ∨ y ∈ l
  | [] => by simp [insI]
  | z :: l => by
    unfold insI
    split
    · simp
    · split
      · rename_i h; subst h; simp
      · simp only [List.mem_cons, mem_insI (l := l)]
        constructor
        · rintro (h | h | h)
          · exact .inr (.inl h)
          · exact .inl h
          · exact .inr (.inr h)
        · rintro (h | h | h)
          · exact .inr (.inl h)
          · exact .inl h
          · exact .inr (.inr h)
theorem insI_pair (x : Int) : ∀ {l : List Int}, l.Pairwise (· < ·) → (insI x l).Pairwise (· < ·)
  | [], _ => List.pairwise_singleton ..
  | z :: l, h => by
    obtain ⟨h1, h2⟩ := List.pairwise_cons.mp h
    unfold insI
    split
    · rename_i c
      refine List.pairwise_cons.mpr ⟨fun y hy => ?_, h⟩
      rcases List.mem_cons.mp hy with rfl | hy
      · exact c
      · exact Int.lt_trans c (h1 y hy)
    · split
      · exact h
      · refine List.pairwise_cons.mpr ⟨fun y hy => ?_, insI_pair x h2⟩
        rcases mem_insI.mp hy with rfl | hy
        · omega
        · exact h1 y hy
theorem mem_setI {y : Int} : ∀ {l : List Int}, y ∈ setI l ↔ y ∈ l
  | [] => by simp [setI]
  | x :: l => by unfold setI; rw [mem_insI, mem_setI, List.mem_cons]
theorem setI_pair : ∀ l : List Int, (setI l).Pairwise (· < ·)
  | [] => .nil
  | x :: l => insI_pair x (setI_pair l)
theorem rise_nodup {l : List Int} (h : l.Pairwise (· < ·)) : l.Nodup := List.Pairwise.imp (fun h => by omega) h
theorem setI_perm {l ks : List Int} (hk : ks.Nodup) (hm : ∀ k, k ∈ ks ↔ k ∈ l) : ks.Perm (setI l) :=
  (List.perm_ext_iff_of_nodup hk (rise_nodup (setI_pair l))).mpr fun k => (hm k).trans mem_setI.symm
theorem setI_eq {l ks : List Int} (hk : ks.Pairwise (· < ·)) (hm : ∀ k, k ∈ ks ↔ k ∈ l) : ks = setI l :=
  (setI_perm (rise_nodup hk) hm).eq_of_pairwise (fun a b _ _ h1 h2 => by omega) hk (setI_pair l)
/-! ### the calls -/
def rSetL (K : PySem.W.Frag) (w : World) : List V → Hp → VK → Prop := fun vs H Q => ∃ (l : Addr) (ns : List Int), vs = [V.ref l] ∧ SqL K H l (ns.map V.int) ∧ ns.length < 64 ∧
  ∀ (p : Addr) (c : Nat), H p = none → c ≤ ns.length → Q (.ref p) (upd H p (SetO w p (fun j => decide (j ∈ ns)) c))
section
variable {X : Cx}
theorem cr_setL (hc : X.calm = true) : CallR X (.type "set") (rSetL X.K X.w) := by
  intro pins s σ H vs us Q I r h
  obtain ⟨l, ns, rfl, hq, h64, q⟩ := h
  rw [Vals.ref1 r]
  obtain ⟨its, r2, pl, hz⟩ := I.list hq
  refine set_of_list (I.ok.hd hc) pl.isList (ns := ns) (by simpa using r2.ints) (by unfold scanBound; omega) fun h' tk c R hcl hk => ?_
  have hn : H s.heap.objs.size = none := I.hok.fresh (Nat.le_refl _)
  exact ⟨.ref s.heap.objs.size, upd H s.heap.objs.size (SetO X.w s.heap.objs.size (fun j => decide (j ∈ ns)) c), I.laid (t' := tk) hk (Nat.le_refl _) (setO_new R), rfl, q _ c hn hcl⟩
end
/-! ### sorted(set(xs)), len(set(xs)) -/
section
variable {X : Cx} {G : Gm} {Wx : WX} {P : Pg} {a : Expr} {pos q p p2 : Pos} {f : Bool} {xs : List Ex}
theorem tAs_mono {t : L2.St} {H : Hp} {K1 K2 : List V → Hp → Prop} (h : tAs G Wx P xs t H K1) (m : ∀ vs H1, K1 vs H1 → K2 vs H1) : tAs G Wx P xs t H K2 := by
  obtain ⟨W, s, r, s', k, hH, F, e, hx, hk⟩ := h
  exact ⟨W, s, r, s', k, hH, F, e, hx, fun Wn sn sn' vs vals a b c d e => m _ _ (hk Wn sn sn' vs vals a b c d e)⟩
theorem rz_is {U : Vw} : ∀ ns : List Int, RZs G U (ns.map D.int) (ns.map V.int)
  | [] => .nil
  | n :: ns => .cons (.int n) (rz_is ns)
theorem sset_arg (C : Cxt X G) {vs : List V} {H : Hp} {Q : VK} (h : rBi G .sset vs H Q) : rSetL X.K X.w vs H fun v H2 => rSortedSet X.w [v] H2 Q := by
  obtain ⟨W, p, ds, d, hH, pv, e, k⟩ := h
  subst hH
  cases pv with
  | nil => cases e
  | cons r1 r2 =>
    rename_i d1 v1 ds vs
    cases r2 with
    | cons => cases d1 <;> cases e
    | nil =>
      cases d1 with
      | lst xs =>
        obtain ⟨ns, h2, h3⟩ := Option.bind_eq_some_iff.mp (show (intsOf xs).bind (fun ns => if ns.length < 64 then some (D.lst ((setI ns).map .int)) else none) = some d from e)
        split at h3
        · rename_i h64
          cases h3
          obtain ⟨a, ws, rfl, h1, r⟩ := r1.list
          refine ⟨a, ns, rfl, by rw [← r.ints h2]; exact C.K ▸ h1, h64, fun pp c hp hcl => ⟨pp, _, c, rfl, upd_same, by omega, fun ks p2 hs hm _ hn => ?_⟩⟩
          have ek : ks = setI ns := setI_eq hs fun z => by rw [hm z, decide_eq_true_eq]
          subst ek
          have hn' : (W.nw pp (SetO X.w pp (fun j => decide (j ∈ ns)) c)).H p2 = none := hn
          refine k ((W.nw pp (SetO X.w pp (fun j => decide (j ∈ ns)) c)).nw p2 (.lst ((setI ns).map V.int))) _ (Grow.trans (.nw hp) (.nw hn')) ?_ fun z => by cases z
          have hW : W.H p2 = none := by
            cases e : W.H p2 with
            | none => rfl
            | some o => rw [(Grow.nw hp).H _ _ e] at hn'; cases hn'
          rcases new_lst (G := G) (W := W.nw pp (SetO X.w pp (fun j => decide (j ∈ ns)) c)) (p := p) (ds := (setI ns).map D.int) hn' (rz_is (setI ns)) with ⟨z, _⟩ | ⟨a', e', _, lp⟩
          · cases z
          · exact .inr ⟨a', e', by cases e'; exact hW, lp⟩
        · cases h3
      | _ => cases e
theorem lset_arg (C : Cxt X G) {vs : List V} {H : Hp} {Q : VK} (h : rBi G .lset vs H Q) : ∃ (l : Addr) (ns : List Int), vs = [V.ref l] ∧ SqL X.K H l (ns.map V.int) ∧ ns.length < 64 ∧ Q (.int (setI ns).length) H := by
  obtain ⟨W, p, ds, d, hH, pv, e, k⟩ := h
  subst hH
  cases pv with
  | nil => cases e
  | cons r1 r2 =>
    rename_i d1 v1 ds vs
    cases r2 with
    | cons => cases d1 <;> cases e
    | nil =>
      cases d1 with
      | lst xs =>
        obtain ⟨ns, h2, h3⟩ := Option.bind_eq_some_iff.mp (show (intsOf xs).bind (fun ns => if ns.length < 64 then some (D.int (setI ns).length) else none) = some d from e)
        split at h3
        · rename_i h64
          cases h3
          obtain ⟨a, ws, rfl, h1, r⟩ := r1.list
          exact ⟨a, ns, rfl, by rw [← r.ints h2]; exact C.K ▸ h1, h64, k W _ .refl new_int fun _ => rfl⟩
        · cases h3
      | _ => cases e
theorem v_sset (C : Cxt X G) (hc : X.calm = true) (hg : Gl X "sorted") (hm : X.mg "sorted" = none) (hg2 : Gl X "set") (hm2 : X.mg "set" = none) (hs : PA X [a] (tAs G Wx P xs)) (ns : noStar a = true) :
    PE X (.Call (.Name "sorted" p) [.Call (.Name "set" p2) [a] [] q] [] pos) (tV G Wx P f (.bi .sset xs)) := by
  have s1 : PE X (.Call (.Name "set" p2) [a] [] q) (tCB (rSetL X.K X.w) (tAs G Wx P xs)) := pe_callTy (cr_setL hc) hg2 hm2 (by decide +kernel) hs (by decide) (by decide) (star_cons ns) (star_none rfl)
  refine peImp (pe_callB (cr_sortedSet hc) hg hm (by decide +kernel) (pa_cons s1 pa_nil rfl) (by decide) (by decide) rfl rfl) fun t H Q h => ?_
  exact tAs_mono (bi_imp h) fun vs H1 hr => sset_arg C hr
theorem v_lset (C : Cxt X G) (hc : X.calm = true) (hg : Gl X "len") (hm : X.mg "len" = none) (hg2 : Gl X "set") (hm2 : X.mg "set" = none) (hs : PA X [a] (tAs G Wx P xs)) (ns : noStar a = true) :
    PE X (.Call (.Name "len" p) [.Call (.Name "set" p2) [a] [] q] [] pos) (tV G Wx P f (.bi .lset xs)) := by
  refine ⟨fun pins s σ H Q I h => ?_⟩
  refine Call_ (ld_blt I hg hm PySem.boot_len ?_)
  refine PyProof.Rows.callWith_builtin1 (PyProof.Rows.args_cons ?_ rfl) rfl rfl
  refine Call_ (ld_blt I hg2 hm2 PyProof.Rows.boot_set ?_)
  refine PyProof.Rows.callWith_type1 (thn (hs.run q pins s σ H _ I (tAs_mono (bi_imp h) fun vs H1 hr => lset_arg C hr)) fun us s1 ⟨vs, H1, I1, r1, q1⟩ => ?_) (star_cons ns) (star_none rfl)
  obtain ⟨l, ks, rfl, hq, h64, qq⟩ := q1
  rw [Vals.ref1 r1]
  obtain ⟨its, r2, pl, hz⟩ := I1.list hq
  refine set_of_list (I1.ok.hd hc) pl.isList (ns := ks) (by simpa using r2.ints) (by unfold scanBound; omega) fun h' tk c R hcl hk => ?_
  refine PyProof.Rows.args_nil ?_
  obtain ⟨o, es, ep, t, ho, hx, hd, g, nd, hm', hb, hf, hn, _⟩ := R
  have el : es.size = (setI ks).length := by
    rw [← (setI_perm (l := ks) nd fun z => (hm' z).symm.trans decide_eq_true_iff).length_eq, List.length_map, Array.length_toList]
  have I2 : Inv X pins σ H1 { s1 with heap := h', toks := tk } := I1.kept hk
  refine call_len_set ho hx hd hf (by rw [hn]; omega) ⟨.int (setI ks).length, H1, I2.tok _, ⟨_, by rw [el]⟩, qq⟩
/-! .. of a list that may be boxed -/
theorem v_ssetb {ea : Ex} (C : Cxt X G) (hc : X.calm = true) (hg : Gl X "sorted") (hm : X.mg "sorted" = none) (hg2 : Gl X "set") (hm2 : X.mg "set" = none) (ha : PE X a (tV G Wx P false ea)) (ns : noStar a = true) :
    PE X (.Call (.Name "sorted" p) [.Call (.Name "set" p2) [a] [] q] [] pos) (tV G Wx P f (.bib .sset ea)) := by
  have s1 : PE X (.Call (.Name "set" p2) [a] [] q) (tCB (rSetL X.K X.w) (tCons (tE G Wx P ea) tNil)) := pe_callTy (cr_setL hc) hg2 hm2 (by decide +kernel) (pa_cons (peE ha) pa_nil (star_cons ns)) (by decide) (by decide) (star_cons ns) (star_none rfl)
  refine peImp (pe_callB (cr_sortedSet hc) hg hm (by decide +kernel) (pa_cons s1 pa_nil rfl) (by decide) (by decide) rfl rfl) fun t H Q h => ?_
  exact tE_mono (bib_imp h) fun x H1 hr => sset_arg C hr
theorem v_lsetb {ea : Ex} (C : Cxt X G) (hc : X.calm = true) (hg : Gl X "len") (hm : X.mg "len" = none) (hg2 : Gl X "set") (hm2 : X.mg "set" = none) (ha : PE X a (tV G Wx P false ea)) (ns : noStar a = true) :
    PE X (.Call (.Name "len" p) [.Call (.Name "set" p2) [a] [] q] [] pos) (tV G Wx P f (.bib .lset ea)) := by
  refine ⟨fun pins s σ H Q I h => ?_⟩
  refine Call_ (ld_blt I hg hm PySem.boot_len ?_)
  refine PyProof.Rows.callWith_builtin1 (PyProof.Rows.args_cons ?_ rfl) rfl rfl
  refine Call_ (ld_blt I hg2 hm2 PyProof.Rows.boot_set ?_)
  refine PyProof.Rows.callWith_type1 (thn ((pa_cons (peE ha) pa_nil (star_cons ns) : PA X [a] (tCons (tE G Wx P ea) tNil)).run q pins s σ H _ I (show tCons (tE G Wx P ea) tNil σ H (fun vs H1 => ∃ (l : Addr) (ns : List Int), vs = [V.ref l] ∧ SqL X.K H1 l (ns.map V.int) ∧ ns.length < 64 ∧ Q (.int (setI ns).length) H1) from tE_mono (bib_imp h) fun x H1 hr => lset_arg C hr)) fun us s1 ⟨vs, H1, I1, r1, q1⟩ => ?_) (star_cons ns) (star_none rfl)
  obtain ⟨l, ks, rfl, hq, h64, qq⟩ := q1
  rw [Vals.ref1 r1]
  obtain ⟨its, r2, pl, hz⟩ := I1.list hq
  refine set_of_list (I1.ok.hd hc) pl.isList (ns := ks) (by simpa using r2.ints) (by unfold scanBound; omega) fun h' tk c R hcl hk => ?_
  refine PyProof.Rows.args_nil ?_
  obtain ⟨o, es, ep, t, ho, hx, hd, g, nd, hm', hb, hf, hn, _⟩ := R
  have el : es.size = (setI ks).length := by
    rw [← (setI_perm (l := ks) nd fun z => (hm' z).symm.trans decide_eq_true_iff).length_eq, List.length_map, Array.length_toList]
  have I2 : Inv X pins σ H1 { s1 with heap := h', toks := tk } := I1.kept hk
  refine call_len_set ho hx hd hf (by rw [hn]; omega) ⟨.int (setI ks).length, H1, I2.tok _, ⟨_, by rw [el]⟩, qq⟩
end
end Lk

namespace Lk
open PySem L2 L2.DX PyProof.Rows

/-! ### sorted(d.items()), ints to ints -/
section
variable {P : Program} {w : World} {A : Around} {E : Value → Shared → Prop} {s : Shared}
/-! what two ints a pair at an address holds -/
def twoAt (h : Heap) (v : Value) : Int × Int :=
  match v with
  | .ref a => (match h.get? a with
    | some o => (match o.data with
      | .seq its _ => (match its.toList with
        | [.int i _, .int j _] => (i, j)
        | _ => (0, 0))
      | _ => (0, 0))
    | none => (0, 0))
  | _ => (0, 0)
theorem sort_items {r d : Addr} {kvs : List (L2.Key × Value)} {ep : Nat} {Q : Value → Shared → Prop} (hh : A.handled = none) (hv : s.heap.IsItemsView r d) (hm : s.heap.DictAt (mixKind P w) d kvs ep) (hn : kvs.length ≤ sizeLine)
    (ki : ∀ p ∈ kvs, ∃ i j t, p = (Sum.inl i, Value.int j t))
    (h : ∀ (h1 h' : Heap) (tk n : Nat) (p : Addr) (as : List Addr) (out : List Value), (∀ b o, s.heap.get? b = some o → h'.get? b = some o) → s.heap.get? p = none → h'.get? p = some (seqObj "list" out.toArray n) → as.length = kvs.length → PySem.W.KdxG (mixKind P w) kvs s.heap.objs.size h' as →
      (∀ a ∈ as, a ≠ p ∧ h1.get? a = h'.get? a) → SrtO.Srtd (fun v u => SrtO.lexB (twoAt h1 v) (twoAt h1 u)) out → SrtO.Stb (fun v u => SrtO.lexB (twoAt h1 v) (twoAt h1 u)) out (as.map Value.ref) → Q (.ref p) { s with heap := h', toks := tk }) :
    wpAny (model P w) A (call (.builtin "sorted") [.ref r]) Q E s := by
  refine Calls.call_function_entry kind_sorted plain_sorted entry_sorted (args_sorted1 _) ?_
  unfold Builtin.«sorted»
  refine wpAny_bind (m := checkCount "sorted" 1 1 _) (wpAny_pure ?_)
  refine wpAny_bind (PySem.W.kdx_collect (A := A.in1) hh hv hm hn fun h1 tk as hk hl hG => ?_)
  refine wpAny_bind (wpAny_newList ?_ (by rw [List.length_map, hl]; exact hn))
  have hoL : (h1.push (seqObj "list" (as.map Value.ref).toArray 0)).get? h1.objs.size = some (seqObj "list" (as.map Value.ref).toArray 0) := Heap.get?_push_size _ rfl
  have pr : ∀ v ∈ as.map Value.ref, Srt.IsPair h1 v (twoAt h1 v).1 (twoAt h1 v).2 := fun v hvm => by
    obtain ⟨a, ha, rfl⟩ := List.mem_map.mp hvm
    obtain ⟨j, hj⟩ := List.mem_iff_getElem?.mp ha
    obtain ⟨key, k, x, e1, e2, e3⟩ := hG.pairs j a hj
    obtain ⟨i, y, t, e4⟩ := ki _ (List.mem_of_getElem? e1)
    cases e4
    obtain ⟨t2, rfl⟩ : ∃ t2, key = Value.int i t2 := relV_key (k := Sum.inl i) (show keyIs (Sum.inl i) key = true from e2)
    have et : twoAt h1 (.ref a) = (i, y) := by
      unfold twoAt
      dsimp only
      rw [e3]
    rw [et]
    exact ⟨a, _, t2, t, 0, rfl, e3, rfl, rfl⟩
  refine wpAny_bind (wpAny_holding (wpAny_call_entry slot_list_sort ⟨_, hoL, rfl⟩ entry_list_sort (SrtO.list_sort_ord (SrtO.swo_lex (twoAt h1)) hoL (by rw [List.length_map, hl]; exact hn) (fun h2 => SrtO.pairs_sortableO (by omega) (fun v hvm => ?_) (fun o e => ?_)) fun out hs hb => ⟨_, rfl, ?_⟩) (args_list_sort _)))
  · exact (pr v hvm).keeps fun b o e _ => Heap.get?_push_of_some _ e
  · rw [hoL] at e
    cases e
    intro c
    exact absurd (Value.type.inj c) (by decide)
  · have old : ∀ b o, h1.get? b = some o → (sortedHeap (h1.push (seqObj "list" (as.map Value.ref).toArray 0)) h1.objs.size (as.map Value.ref) out.toArray).get? b = some o := fun b o e => by
      have hlt := Heap.lt_size e
      rw [sortedHeap_old (Nat.ne_of_lt hlt) (by rw [size_push']; exact Nat.lt_succ_of_lt hlt)]
      exact Heap.get?_push_of_some _ e
    obtain ⟨n, hat⟩ := sortedHeap_at (vs := as.map Value.ref) (out := out.toArray) hoL
    have at_ : ∀ a ∈ as, a < h1.objs.size := fun a ha => hG.there ha
    refine wpAny_pure ⟨_, rfl, h h1 _ tk n h1.objs.size as out (fun b o e => old b o (hk b o e)) ?_ hat hl ⟨hG.rise, hG.above, fun j a hj => ?_⟩ (fun a ha => ⟨Nat.ne_of_lt (at_ a ha), ?_⟩) hs hb⟩
    · cases e : s.heap.get? h1.objs.size with
      | none => rfl
      | some o => exact absurd (Heap.lt_size (hk _ o e)) (Nat.lt_irrefl _)
    · obtain ⟨key, k, x, e1, e2, e3⟩ := hG.pairs j a hj
      exact ⟨key, k, x, e1, e2, old a _ e3⟩
    · cases e : h1.get? a with
      | none =>
        obtain ⟨j, hj⟩ := List.mem_iff_getElem?.mp ha
        obtain ⟨_, _, _, _, _, e3⟩ := hG.pairs j a hj
        rw [e3] at e; cases e
      | some o => exact (old a o e).symm
end
section
variable {X : Cx}
/-! the view of a dict of ints and texts -/
def rItemsK : V → List V → Hp → VK → Prop := fun x xs H Q => ∃ (a : Addr) (kvs : List (L2.Key × V)), x = .ref a ∧ xs = [] ∧ H a = some (.dK kvs) ∧ ∀ p, H p = none → Q (.ref p) (upd H p (itemsO p a))
theorem mt_itemsK : MtR X "dict.items" rItemsK := by
  intro pins s σ H x xs v us Q I rx rxs h
  obtain ⟨a, kvs, rfl, rfl, ha, q⟩ := h
  cases rx
  cases rxs
  obtain ⟨z, hd, vs, rel, o, es, ep, ho, hx, hdat, _⟩ := dk_of I.hok ha
  refine DT.callItems (es := es) (ep := ep) hd ⟨o, ho, hx, hdat⟩ ?_
  have hf : H s.heap.objs.size = none := I.hok.fresh (Nat.le_refl _)
  exact ⟨.ref s.heap.objs.size, upd H s.heap.objs.size (itemsO s.heap.objs.size a), I.laid (t' := s.toks) (fun b u e => Heap.get?_push_of_some _ e) (Nat.le_refl _) (itemsO_ok (Heap.get?_push_size _ rfl)), rfl, q _ hf⟩
abbrev entI (z : Int × Int) : L2.Key × V := (Sum.inl z.1, V.int z.2)
def rSortItK : List V → Hp → VK → Prop := fun vs H Q => ∃ (p a : Addr) (zs : List (Int × Int)), vs = [.ref p] ∧ H p = some (itemsO p a) ∧ H a = some (.dK (zs.map entI)) ∧
  ∀ (H' : Hp) (q : Addr) (ys : List (Addr × Int × Int)), (∀ b o, H b = some o → H' b = some o) → (ys.map (·.2)).Perm zs → (ys.map (·.2)).Pairwise (fun x y => x.1 < y.1) → H q = none → H' q = some (.lst (ys.map fun y => V.ref y.1)) →
    (∀ y ∈ ys, H' y.1 = some (.tup [.int y.2.1, .int y.2.2])) → Q (.ref q) H'
theorem vals_refs : ∀ ys : List (Addr × Int × Int), Vals (ys.map fun y => V.ref y.1) (ys.map fun y => Value.ref y.1)
  | [] => .nil
  | _ :: ys => .cons rfl (vals_refs ys)
theorem kv_ints : ∀ {zs : List (Int × Int)} {ws : List (L2.Key × Value)}, KV (zs.map entI) ws → ∀ (j : Nat) (pr : L2.Key × Value), ws[j]? = some pr → ∃ z t, zs[j]? = some z ∧ pr = (Sum.inl z.1, Value.int z.2 t)
  | [], _, .nil, j, pr, e => by simp at e
  | z :: zs, _, .cons (b := w) (l₂ := ws) h r, 0, pr, e => by
    have e : w = pr := by simpa using e
    subst e
    obtain ⟨h1, t, h2⟩ := h
    obtain ⟨w1, w2⟩ := w
    exact ⟨z, t, rfl, by rw [show w1 = Sum.inl z.1 from h1.symm, show w2 = Value.int z.2 t from h2]⟩
  | z :: zs, _, .cons (b := w) (l₂ := ws) h r, j + 1, pr, e => by
    obtain ⟨z', t, e1, e2⟩ := kv_ints r j pr (by simpa using e)
    exact ⟨z', t, by simpa using e1, e2⟩
theorem cr_sortItK (hc : X.calm = true) : CallR X (.builtin "sorted") rSortItK := by
  intro pins s σ H vs us Q I r h
  obtain ⟨p, a, zs, rfl, hp, ha, q⟩ := h
  obtain rfl := Vals.ref1 r
  have view : s.heap.IsItemsView p a := (show ObjOk X.prog X.w H s.heap p (itemsO p a) from I.hok p _ hp).1
  obtain ⟨z, hd, ws, rel, o, es, ep, ho, hx, hdat, r1, r2, nd⟩ := dk_of I.hok ha
  have hl0 : (zs.map entI).length = ws.length := Paired.length rel
  refine sort_items (I.ok.hd hc) view (kvs := ws) (ep := ep) ⟨o, es, ho, hx, hdat, r1, r2, nd⟩ (by rw [← hl0]; exact z) (fun pr hpr => ?_) fun h1 h' tk n hpl pq out hk hpn hgp hl hG hne hs hb => ?_
  · obtain ⟨j, hj⟩ := List.mem_iff_getElem?.mp hpr
    obtain ⟨z, t, _, e⟩ := kv_ints rel j pr hj
    exact ⟨_, _, t, e⟩
  · have zl : zs.length = ws.length := by rw [← hl0, List.length_map]
    -- what stands at each address
    have at_ : ∀ j b, pq[j]? = some b → ∃ z t u, zs[j]? = some z ∧ h'.get? b = some { cls := .type "tuple", data := .seq #[.int z.1 t, .int z.2 u] } ∧ twoAt h1 (.ref b) = z := fun j b hj => by
      obtain ⟨key, k, x, e1, e2, e3⟩ := hG.pairs j b hj
      obtain ⟨z, u, ez, e4⟩ := kv_ints rel j _ e1
      cases e4
      obtain ⟨t, rfl⟩ : ∃ t, key = Value.int z.1 t := relV_key (k := Sum.inl z.1) (show keyIs (Sum.inl z.1) key = true from e2)
      refine ⟨z, t, u, ez, e3, ?_⟩
      unfold twoAt
      dsimp only
      rw [(hne b (List.mem_of_getElem? hj)).2, e3]
    have tz : (pq.map Value.ref).map (twoAt h1) = zs := by
      apply List.ext_getElem?
      intro j
      rw [List.getElem?_map, List.getElem?_map]
      cases e : pq[j]? with
      | none =>
        have : zs.length ≤ j := by rw [zl, ← hl]; exact List.getElem?_eq_none_iff.mp e
        rw [List.getElem?_eq_none this]; rfl
      | some b =>
        obtain ⟨z, t, u, e1, e2, e3⟩ := at_ j b e
        rw [e1]
        show some (twoAt h1 (.ref b)) = some z
        rw [e3]
    -- the sorted ones, with their addresses
    have hperm : out.Perm (pq.map Value.ref) := hb.perm
    have isref : ∀ v ∈ out, ∃ b ∈ pq, v = Value.ref b := fun v hv => by
      obtain ⟨b, hbm, e⟩ := List.mem_map.mp (hperm.mem_iff.mp hv)
      exact ⟨b, hbm, e.symm⟩
    obtain ⟨ys, hys⟩ : ∃ ys : List (Addr × Int × Int), ys = out.map fun v => ((match v with | .ref b => b | _ => 0), twoAt h1 v) := ⟨_, rfl⟩
    have y2 : ys.map (·.2) = out.map (twoAt h1) := by rw [hys, List.map_map]; rfl
    have y1 : ys.map (fun y => Value.ref y.1) = out := by
      rw [hys, List.map_map]
      refine List.map_congr_left (g := id) (fun v hv => ?_) |>.trans (List.map_id _)
      obtain ⟨b, _, rfl⟩ := isref v hv
      rfl
    have yp : (ys.map (·.2)).Perm zs := by rw [y2, ← tz]; exact hperm.map _
    have ndz : (zs.map (·.1)).Nodup := by
      have : zs.map (fun z => (Sum.inl z.1 : L2.Key)) = ws.map (·.1) := by
        apply List.ext_getElem?
        intro j
        rw [List.getElem?_map, List.getElem?_map]
        cases e : ws[j]? with
        | none =>
          have : zs.length ≤ j := by rw [zl]; exact List.getElem?_eq_none_iff.mp e
          rw [List.getElem?_eq_none this]; rfl
        | some w =>
          obtain ⟨z, t, e1, e2⟩ := kv_ints rel j w e
          rw [e1, e2]; rfl
      rw [← this] at nd
      have e : zs.map (fun z => (Sum.inl z.1 : L2.Key)) = (zs.map (·.1)).map Sum.inl := by rw [List.map_map]; rfl
      rw [e] at nd
      exact List.Pairwise.of_map _ (fun a b h z => h (by rw [z])) nd
    have yw : (ys.map (·.2)).Pairwise (fun x y => x.1 < y.1) := by
      have h1 : (ys.map (·.2)).Pairwise (fun x y => SrtO.lexB y x = false) := by rw [y2]; exact List.pairwise_map.mpr hs
      have h2 : ((ys.map (·.2)).map (·.1)).Nodup := (yp.map (·.1)).nodup_iff.mpr ndz
      have h3 : (ys.map (·.2)).Pairwise (fun x y => x.1 ≠ y.1) := List.pairwise_map.mp h2
      refine (h1.and h3).imp fun {x y} ⟨g1, g2⟩ => ?_
      have := SrtO.lexB_no.mp g1
      omega
    -- tracked
    have hn : H hpl = none := I.hok.gone hpn
    have new : ObjOk X.prog X.w (upd H hpl (.lst (ys.map fun y => V.ref y.1))) h' hpl (.lst (ys.map fun y => V.ref y.1)) := by
      refine ⟨?_, out, n, ?_, hgp⟩
      · rw [List.length_map, ← List.length_map (f := fun y : Addr × Int × Int => Value.ref y.1) (as := ys), y1, hperm.length_eq, List.length_map, hl, ← hl0]; exact z
      · have := vals_refs ys
        rw [y1] at this
        exact this
    have J1 := I.laidN (t' := tk) hk hpn hn new
    obtain ⟨H2, J2, kp, tt⟩ := takeT (P := fun a vs => vs = [V.int (twoAt h1 (.ref a)).1, V.int (twoAt h1 (.ref a)).2]) I pq _ J1 (List.Pairwise.imp (fun h => Nat.ne_of_lt h) hG.rise) fun a ha' => by
      have lo := hG.above a ha'
      obtain ⟨j, hj⟩ := List.mem_iff_getElem?.mp ha'
      obtain ⟨z', t, u, e1, e2, e3⟩ := at_ j a hj
      refine ⟨Nat.le_of_lt lo, by rw [upd_ne (hne a ha').1]; exact I.hok.fresh (Nat.le_of_lt lo), _, rfl, fun H3 => ?_⟩
      rw [e3]
      exact ⟨by show 2 ≤ sizeLine; decide, [.int z'.1 t, .int z'.2 u], .cons ⟨t, rfl⟩ (.cons ⟨u, rfl⟩ .nil), ⟨_, e2, rfl, _, rfl⟩⟩
    refine ⟨.ref hpl, H2, J2, rfl, q H2 hpl ys (fun b o e => kp b o (by rw [upd_ne (ne_of_none e hn)]; exact e)) yp yw hn (kp _ _ upd_same) fun y hy => ?_⟩
    rw [hys] at hy
    obtain ⟨v, hv, rfl⟩ := List.mem_map.mp hy
    obtain ⟨b, hbm, rfl⟩ := isref v hv
    obtain ⟨vs, e1, e2⟩ := tt b hbm
    rw [e2, e1]
end
/-! the rule -/
theorem insP_perm (z : Int × Int) : ∀ l, (insP z l).Perm (z :: l)
  | [] => .refl _
  | y :: l => by
    unfold insP
    split
    · exact .refl _
    · exact ((insP_perm z l).cons y).trans (.swap z y l)
theorem sortP_perm : ∀ l, (sortP l).Perm l
  | [] => .refl _
  | z :: l => (insP_perm z (sortP l)).trans ((sortP_perm l).cons z)
theorem insP_le (z : Int × Int) : ∀ {l : List (Int × Int)}, l.Pairwise (fun x y => x.1 ≤ y.1) → (insP z l).Pairwise (fun x y => x.1 ≤ y.1)
  | [], _ => List.pairwise_singleton ..
  | y :: l, h => by
    obtain ⟨h1, h2⟩ := List.pairwise_cons.mp h
    unfold insP
    split
    · rename_i c
      refine List.pairwise_cons.mpr ⟨fun x hx => ?_, h⟩
      rcases List.mem_cons.mp hx with rfl | hx
      · omega
      · have := h1 x hx; omega
    · rename_i c
      refine List.pairwise_cons.mpr ⟨fun x hx => ?_, insP_le z h2⟩
      rcases List.mem_cons.mp ((insP_perm z l).mem_iff.mp hx) with rfl | hx
      · omega
      · exact h1 x hx
theorem sortP_le : ∀ l : List (Int × Int), (sortP l).Pairwise (fun x y => x.1 ≤ y.1)
  | [] => .nil
  | z :: l => insP_le z (sortP_le l)
theorem lt_uniq {ys : List (Int × Int)} (h : ys.Pairwise (fun x y => x.1 < y.1)) : ∀ a ∈ ys, ∀ b ∈ ys, a.1 = b.1 → a = b := by
  induction ys with
  | nil => intro a ha; cases ha
  | cons y ys ih =>
    obtain ⟨h1, h2⟩ := List.pairwise_cons.mp h
    intro a ha b hb e
    rcases List.mem_cons.mp ha with ea | ma <;> rcases List.mem_cons.mp hb with eb | mb
    · rw [ea, eb]
    · have := h1 b mb; rw [ea] at e; omega
    · have := h1 a ma; rw [eb] at e; omega
    · exact ih h2 a ma b mb e
theorem sortP_uniq {ys zs : List (Int × Int)} (hp : ys.Perm zs) (hl : ys.Pairwise (fun x y => x.1 < y.1)) : ys = sortP zs := by
  have p : ys.Perm (sortP zs) := hp.trans (sortP_perm zs).symm
  refine p.eq_of_pairwise (le := fun x y => x.1 ≤ y.1) (fun a b ha hb h1 h2 => ?_) (hl.imp fun h => by omega) (sortP_le zs)
  exact lt_uniq hl a ha b (p.mem_iff.mpr hb) (by omega)
section
variable {X : Cx} {G : Gm} {Wx : WX} {P : Pg} {o : Expr} {eo : Ex} {pos p apos cpos : Pos} {f : Bool}
theorem dicAt_ok {W : Wd} {s : Stt} {t : L2.St} {v : Md × D} {x : V} {q : List D × List D} (F : Fr G W s t) (h : PlR G W t v.1 v.2 x) (e : dicAt s.S v = some q) : ∃ a kvs, x = .ref a ∧ W.H a = some (.dK kvs) ∧ q.1 = kvs.map (fun p => keyD p.1) ∧ RZs G W.fz q.2 (kvs.map (·.2)) := by
  obtain ⟨m, d⟩ := v
  have own : ∀ {ks vs : List D} {a : Addr}, LR G W (.dic ks vs) a → ∃ kvs, W.H a = some (.dK kvs) ∧ ks = kvs.map (fun p => keyD p.1) ∧ RZs G W.fz vs (kvs.map (·.2)) := fun l => by
    cases l with
    | dic h1 h2 h3 => exact ⟨_, h1, h2, h3⟩
  cases m with
  | sl i =>
    cases d with
    | dic ks vs =>
      cases e
      obtain ⟨_, a, ea, _, l⟩ := h
      obtain ⟨kvs, h1, h2, h3⟩ := own l
      exact ⟨a, kvs, ea, h1, h2, h3⟩
    | _ => cases e
  | fl l k =>
    cases d with
    | dic ks vs =>
      cases e
      obtain ⟨_, a, ea, l⟩ := h
      obtain ⟨kvs, h1, h2, h3⟩ := own l
      exact ⟨a, kvs, ea, h1, h2, h3⟩
    | _ => cases e
  | fz =>
    cases d with
    | ref l =>
      unfold dicAt at e
      dsimp only at e
      split at e
      · rename_i ks vs hS
        cases e
        obtain ⟨_, kvs, h1, h2, h3⟩ := F.rel.box l _ hS
        have h : RZ G W.fz (.ref l) x := h
        cases h with
        | ref _ hb => exact ⟨W.i l, kvs, rfl, h1, h2, h3⟩
      · cases e
    | _ => cases e
  | bp => cases d <;> cases e
theorem intPairs_ok {U : Vw} : ∀ {ks vs : List D} {zs : List (Int × Int)} {kvs : List (L2.Key × V)}, intPairs ks vs = some zs → ks = kvs.map (fun p => keyD p.1) → RZs G U vs (kvs.map (·.2)) → kvs = zs.map entI
  | [], [], zs, kvs, e, hk, _ => by
    cases e
    cases kvs with
    | nil => rfl
    | cons => cases hk
  | .int i :: ks, .int j :: vs, zs, kvs, e, hk, hv => by
    obtain ⟨zs', e1, e2⟩ := Option.map_eq_some_iff.mp (show (intPairs ks vs).map ((i, j) :: ·) = some zs from e)
    subst e2
    cases kvs with
    | nil => cases hk
    | cons q kvs =>
      obtain ⟨k, v⟩ := q
      rw [List.map_cons] at hk hv
      injection hk with hk1 hk2
      cases hv with
      | cons r rs =>
        rw [intPairs_ok e1 hk2 rs]
        have hk1 : D.int i = keyD k := hk1
        cases r
        cases k with
        | inl n => cases hk1; rfl
        | inr z => cases hk1
  | [], _ :: _, _, _, e, _, _ => by cases e
  | .int _ :: _, [], _, _, e, _, _ => by cases e
theorem v_sit (hc : X.calm = true) (hg : Gl X "sorted") (hm : X.mg "sorted" = none) (ho : PE X o (tV G Wx P false eo)) (hbo : baseOk o = true) (hli : (apos.endLine == cpos.line) = true) :
    PE X (.Call (.Name "sorted" p) [.Call (.Attribute o "items" apos) [] [] cpos] [] pos) (tV G Wx P f (.sit eo)) := by
  have s1 : PE X (.Call (.Attribute o "items" apos) [] [] cpos) (tBM0 X.K "dict" rItemsK (tE G Wx P eo)) := pe_bm0 PySem.F.plainAttrs_dict PySem.F.slot_dict_items PySem.F.type_dict_items mt_itemsK (peE ho) (base_ok hbo) hli
  refine peImp (pe_callB (cr_sortItK hc) hg hm (by decide +kernel) (pa_cons s1 pa_nil rfl) (by decide) (by decide) rfl rfl) fun t H Q ⟨W, s, r, s', hH, F, e, q⟩ => ?_
  subst hH
  unfold evV at e
  have tr := F.rel.trk
  rcases M.bind_some e with ⟨v, s1, e1, e2⟩ | ⟨c, p, e1, e2⟩
  · refine ⟨W, s, _, s1, rfl, F, e1, fun W1 x x1 F1 p1 _ => ?_⟩
    split at e2
    · rename_i kd hd
      split at e2
      · rename_i d hs
        cases e2
        obtain ⟨a, kvs, ex, ha, hk, hv⟩ := dicAt_ok F1 p1 hd
        subst ex
        obtain ⟨zs, hz, ed⟩ := Option.map_eq_some_iff.mp (show (intPairs kd.1 kd.2).map _ = some d from hs)
        subst ed
        have ek := intPairs_ok hz hk hv
        subst ek
        refine ⟨.inr (.inr (.inl ⟨rfl, .inl ⟨_, ha⟩⟩)), a, _, rfl, rfl, ha, fun p hp => ⟨p, a, zs, rfl, upd_same, (upd_ne (fun z => by rw [z, hp] at ha; cases ha)).trans ha, fun H' qa ys kp yp yw hq hl ht => ?_⟩⟩
        have old : ∀ b u, W1.H b = some u → H' b = some u := fun b u e => kp b u (by rw [upd_ne (ne_of_none e hp)]; exact e)
        have hq1 : W1.H qa = none := by
          cases e : W1.H qa with
          | none => rfl
          | some u => rw [upd_ne (ne_of_none e hp), e] at hq; cases hq
        have g : Grow W1 { W1 with H := H' } := ⟨rfl, rfl, rfl, old⟩
        have ey : ys.map (·.2) = sortP zs := sortP_uniq yp yw
        have rz : ∀ (ys : List (Addr × Int × Int)), (∀ y ∈ ys, H' y.1 = some (.tup [.int y.2.1, .int y.2.2])) → RZs G (({ W1 with H := H' } : Wd).fz) ((ys.map (·.2)).map fun z => D.tup [.int z.1, .int z.2]) (ys.map fun y => V.ref y.1) := fun ys => by
          induction ys with
          | nil => intro _; exact .nil
          | cons y ys ih => intro h; exact .cons (.tup (.inl (h y List.mem_cons_self)) (.cons (.int _) (.cons (.int _) .nil))) (ih fun z hz => h z (List.mem_cons_of_mem _ hz))
        have rz := rz ys ht
        rw [ey] at rz
        exact q { W1 with H := H' } (.ref qa) (x1.trans g.evo tr) (g.fr F1) ⟨qa, rfl, F1.rel.free hq1, .lst hl rz, x1.hnone hq1⟩ fun z => by cases z
      · cases e2
    · cases e2
  · subst e2
    exact ⟨W, s, _, s', rfl, F, e1, q⟩
end
end Lk

namespace Lk
open PySem L2 PyProof.Rows

/-! ### the text's names -/
structure Tb where
  fn : List (Str × Nat × Nat)
  cl : List (Str × Nat × Nat × Nat)
  co : List (Str × Nat)
  mt : List (Nat × Str × Nat × Nat)
  fl : List (List Str)
  xc : List (Str × Nat) := []
  x0 : List Nat := []
  x1 : List Nat := []
  xn : Nat := 0
  cm : Bool := true
/-! within an except suite: no calls -/
def Tb.cold (T : Tb) : Tb := { T with fn := [], cl := [], mt := [], cm := false }
def builtinNames : List Str := ["len", "list", "tuple", "int", "sum", "max", "min", "all", "any", "range", "isinstance", "bool", "str", "zip", "enumerate", "dict", "sorted", "set", "ValueError"]
def biName : BI → Str
  | .len => "len" | .list => "list" | .tuple => "tuple" | .int => "int" | .sum => "sum" | .max => "max" | .min => "min" | .all => "all" | .any => "any" | .sorted => "sorted" | .sset => "sorted" | .lset => "len"
def tyStr : Ty → Str
  | .int => "int" | .bl => "bool" | .str => "str" | .lst => "list" | .tup => "tuple" | .dic => "dict" | .cls _ => "?"
theorem bi_boot {g : BI} (h : plainBI g = true) : bootBuiltins (biName g) = some (biV g) := by cases g <;> first | (cases h; done) | decide +kernel
theorem ty_boot {ty : Ty} (h : ty = .int ∨ ty = .bl ∨ ty = .str ∨ ty = .lst ∨ ty = .tup) : bootBuiltins (tyStr ty) = some (.type (tyName ty)) := by
  rcases h with rfl | rfl | rfl | rfl | rfl <;> decide +kernel
def mtLook (c : Nat) (m : Str) : List (Nat × Str × Nat × Nat) → Option (Nat × Nat)
  | [] => none
  | (c', m', f, l) :: r => if c' = c ∧ m' = m then some (f, l) else mtLook c m r

/-! facts of the world that a def's text leans on; k: the level -/
structure Stat (prog : Program) (w : World) (K : PySem.W.Frag) (mg : Str → Option Value) (base : Heap) (G : Gm) (T : Tb) (P : Pg) (k : Nat) : Prop where
  hK : K = G.K
  hw : w = G.w
  fn : ∀ x f l, T.fn.lookup x = some (f, l) → l ≤ k → ∃ fa fd ps, mg x = some (.ref fa) ∧ PySem.W.keepIn K (.ref fa) = true ∧ Binds K fd ps [] ∧ FnOk prog w K mg base (L2.CX prog w) k fa fd ps (spD G (P.F f))
  mt : ∀ c m f l, mtLook c m T.mt = some (f, l) → l ≤ k → ∃ fa fd ps, Cls K (G.C c) ∧ Meth K (G.C c) m fa ∧ Binds K fd ps [] ∧ FnOk prog w K mg base (L2.CX prog w) k fa fd ps (spD G (P.F f))
  cl : ∀ x c f l, T.cl.lookup x = some (c, f, l) → l + 1 ≤ k → ∃ fa fd ps, mg x = some (.ref (G.C c)) ∧ Mk K (G.C c) fa ∧ Binds K fd ps [] ∧ FnOk prog w K mg base (L2.CX prog w) (k - 1) fa fd ps (spD G (P.F f))
  co : ∀ x j, T.co.lookup x = some j → ∃ u v, mg x = some u ∧ RelV v u ∧ ∀ U, RZ G U (P.con j) v
  bt : ∀ x ∈ builtinNames, mg x = none
  fl : ∀ c, c < T.fl.length → (G.fl c) = T.fl.getD c [] ∧ (G.fl c).Nodup ∧ (G.fl c).length < 1000 ∧ Cls K (G.C c) ∧ ∀ x ∈ G.fl c, NoAttr K (G.C c) x
  xs : 0 < T.xn → XcS K G.E T.xn
  xc : ∀ x c, T.xc.lookup x = some c → c < T.xn ∧ mg x = some (.ref (G.E c))
  x0 : ∀ c ∈ T.x0, PySem.W.excIn K (G.E c) [.type "ValueError", .type "Exception", .type "BaseException", .type "object"] "ValueError.__new__" = true
  x1 : ∀ c ∈ T.x1, ∃ f1 qn, RowTxt K (G.E c) f1 qn
theorem Stat.cold {prog : Program} {w : World} {K : PySem.W.Frag} {mg : Str → Option Value} {base : Heap} {G : Gm} {T : Tb} {P : Pg} {k : Nat} (Z : Stat prog w K mg base G T P k) : Stat prog w K mg base G T.cold P k :=
  ⟨Z.hK, Z.hw, fun _ _ _ h => (by cases h), fun _ _ _ _ h => (by cases h), fun _ _ _ _ h => (by cases h), Z.co, Z.bt, Z.fl, Z.xs, Z.xc, Z.x0, Z.x1⟩
structure Fits (X : Cx) (G : Gm) (T : Tb) (P : Pg) (k : Nat) (Wx : WX) : Prop where
  st : Stat X.prog X.w X.K X.mg X.base G T P k
  calm : T.cm = true → X.calm = true
  nd : X.N.Nodup
  room : T.cm = true → Room k X.A
  hu : X.A.units + 65 < cLine
  pass : ∀ σ, PassesAt (L2.CX X.prog X.w) X σ (WE Wx σ)
section
variable {X : Cx} {G : Gm} {T : Tb} {P : Pg} {k : Nat} {Wx : WX}
theorem Fits.cxt (F : Fits X G T P k Wx) : Cxt X G := ⟨F.st.hK, F.st.hw, F.nd, F.hu⟩
theorem Fits.blk (F : Fits X G T P k Wx) (s : Shared) (H : Hp) (scope : Scope) (C : Addr) (cl : List (Str × Addr)) (fp : List Addr) : Fits (X.blk s H scope (compEnvC scope cl C X.env) fp) G T P k WxF :=
  ⟨F.st, F.calm, F.nd, F.room, F.hu, passAt takes0⟩
end

/-! ### the checker -/
def nmOk (x : Str) : Bool := !(x == ("__debug__" : Str)) && !(x == ("__classdict__" : Str)) && decide (x ≠ "__name__")
def visB (sc : Scope) (x : Str) : Bool := match sc.names.lookup x with
  | some .local => true
  | some .cell => true
  | some .free => true
  | _ => false
def glB (sc : Scope) (x : Str) : Bool := nmOk x && decide (sc.names.lookup x = some .globalImplicit)
def slotB (N : List Str) (sc : Scope) (i : Nat) (x : Str) : Bool := nmOk x && decide (N[i]? = some x) && visB sc x
theorem nm_ok {x : Str} (h : nmOk x = true) : (x == ("__debug__" : Str)) = false ∧ (x == ("__classdict__" : Str)) = false ∧ x ≠ "__name__" := by
  unfold nmOk at h
  simp only [Bool.and_eq_true, Bool.not_eq_true', decide_eq_true_eq] at h
  exact ⟨h.1.1, h.1.2, h.2⟩
theorem vis_ok {sc : Scope} {x : Str} (h : visB sc x = true) : Vis sc x := by
  unfold visB at h
  split at h
  · rename_i e; exact .inl e
  · rename_i e; exact .inr (.inl e)
  · rename_i e; exact .inr (.inr e)
  · cases h
instance glDec (X : Cx) (x : Str) : Decidable (Gl X x) := inferInstanceAs (Decidable (X.env.scope.names.lookup x = some .globalImplicit))
theorem gl_ok {X : Cx} {x : Str} (h : glB X.env.scope x = true) : Gl X x ∧ (x == ("__debug__" : Str)) = false ∧ x ≠ "__name__" := by
  unfold glB at h
  rw [Bool.and_eq_true] at h
  exact ⟨(of_decide_eq_true h.2 : X.env.scope.names.lookup x = some .globalImplicit), (nm_ok h.1).1, (nm_ok h.1).2.2⟩
theorem slot_ok {X : Cx} {i : Nat} {x : Str} (h : slotB X.N X.env.scope i x = true) : X.N[i]? = some x ∧ Vis X.env.scope x ∧ (x == ("__debug__" : Str)) = false ∧ (x == ("__classdict__" : Str)) = false := by
  unfold slotB at h
  rw [Bool.and_eq_true, Bool.and_eq_true] at h
  exact ⟨of_decide_eq_true h.1.2, vis_ok h.2, (nm_ok h.1.1).1, (nm_ok h.1.1).2.1⟩
/-! a target's names are the block's own; d: in a def's own text, where they may be cells -/
def locB (d : Bool) (sc : Scope) (x : Str) : Bool := match sc.names.lookup x with
  | some .local => true
  | some .cell => d
  | _ => false
def tgB (d : Bool) (N : List Str) (sc : Scope) (i : Nat) : Expr → Bool
  | .Name x _ => nmOk x && decide (N[i]? = some x) && locB d sc x
  | _ => false
def tgsB (d : Bool) (N : List Str) (sc : Scope) : List Nat → List Expr → Bool
  | [], [] => true
  | i :: is, e :: es => tgB d N sc i e && tgsB d N sc is es
  | _, _ => false
def patB (d : Bool) (N : List Str) (sc : Scope) : Pat → Expr → Bool
  | .nm i, e => tgB d N sc i e
  | .tu is, .Tuple es _ _ => tgsB d N sc is es
  | _, _ => false
def isCon : Ex → Bool
  | .con _ => true
  | _ => false
def isTu : Pat → Bool
  | .tu _ => true
  | _ => false
theorem tu_of {d : Bool} {N : List Str} {sc : Scope} {p : Pat} {e : Expr} (h : patB d N sc p e = true) (z : isTu p = true) : ∃ el kk tp, e = .Tuple el kk tp := by
  cases p with
  | nm i => cases z
  | tu is =>
    cases e <;> first | exact ⟨_, _, _, rfl⟩ | (unfold patB at h; cases h)
def flagFree : Ex → Bool
  | .not _ => false
  | .and _ => false
  | .or _ => false
  | _ => true
theorem flag_free {P : Pg} {ex : Ex} (h : flagFree ex = true) (s : Stt) : evV P true ex s = evV P false ex s := by
  cases ex <;> first | (cases h; done) | (rw [evV, evV])
def ownN (N : List Str) (own : List Nat) : List (Str × Nat) := own.map fun i => (N.getD i ⟨#[]⟩, i)
theorem ownN_map {N : List Str} {own : List Nat} : (ownN N own).map (·.2) = own := by
  unfold ownN
  rw [List.map_map]
  exact List.map_id'' (fun _ => rfl) own
def tyOkB : Ty → Bool
  | .int => true | .bl => true | .str => true | .lst => true | .tup => true | _ => false
/-! classes that isinstance asks for -/
def okX (T : Tb) (sc : Scope) (c : Nat) : Expr → Bool
  | .Name n _ => glB sc n && (decide (T.xc.lookup n = some c) || (decide (n = "ValueError") && decide (c = 1000)))
  | _ => false
def okXl (T : Tb) (sc : Scope) : List Nat → List Expr → Bool
  | [], zs => zs.isEmpty
  | c :: cs, zs => (match zs with
    | [] => false
    | z :: zs => okX T sc c z && okXl T sc cs zs)
def okXs (T : Tb) (sc : Scope) (cs : List Nat) (z : Expr) : Bool := match z with
  | .Tuple zs _ _ => decide (zs.length ≤ 100) && okXl T sc cs zs
  | z => (match cs with
    | [c] => okX T sc c z
    | _ => false)
section
variable (T : Tb) (k : Nat) (N : List Str)
mutual
def okV (sc : Scope) (t : Bool) : Ex → Expr → Bool
  | .var i, e => (match e with
    | .Name x _ => slotB N sc i x
    | _ => false)
  | .con j, e => (match e with
    | .Name x _ => glB sc x && decide (T.co.lookup x = some j)
    | _ => false)
  | .int i, e => (match e with
    | .Constant (.int j) _ _ => decide (j = i)
    | _ => false)
  | .str x, e => (match e with
    | .Constant (.str y) _ _ => decide (y = x)
    | _ => false)
  | .bl b, e => (match e with
    | .Constant (.bool c) _ _ => decide (c = b)
    | _ => false)
  | .non, e => (match e with
    | .Constant .none _ _ => true
    | _ => false)
  | .bin op a b, e => (match e with
    | .BinOp x o y _ => decide (o = bOp op) && okV sc false a x && okV sc false b y
    | _ => false)
  | .neg a, e => (match e with
    | .UnaryOp .USub x _ => !t && okV sc false a x
    | _ => false)
  | .not a, e => (match e with
    | .UnaryOp .Not x _ => (t || flagFree a) && okV sc t a x
    | _ => false)
  | .and es, e => (match e with
    | .BoolOp .And xs _ => okL sc t es xs && !xs.isEmpty
    | _ => false)
  | .or es, e => (match e with
    | .BoolOp .Or xs _ => okL sc t es xs && !xs.isEmpty
    | _ => false)
  | .cmp op a b, e => (match e with
    | .Compare x [o] [y] _ => decide (o = cOp op) && noSet y && okV sc false a x && okV sc false b y
    | _ => false)
  | .chn o1 o2 a b c, e => (match e with
    | .Compare x [p1, p2] [y, z] _ => decide (p1 = cOp o1) && decide (p2 = cOp o2) && noSet z && okV sc false a x && okV sc false b y && okV sc false c z
    | _ => false)
  | .ite c a b, e => (match e with
    | .IfExp z x y _ => !t && okV sc true c z && okV sc false a x && okV sc false b y
    | _ => false)
  | .tup es, e => (match e with
    | .Tuple xs _ _ => okL sc false es xs && decide (es.length ≤ 1000)
    | _ => false)
  | .lst box es, e => (match e with
    | .List xs _ => !box && okL sc false es xs && decide (es.length ≤ 1000)
    | _ => false)
  | .dic box es, e => (match e with
    | .Dict keys values _ => !box && okP sc es keys values && decide (keys.length ≤ 15) && decide (es.length ≤ 30)
    | _ => false)
  | .idx a b, e => (match e with
    | .Subscript x y _ => noSlice y && okV sc false a x && okV sc false b y
    | _ => false)
  | .slc a lo hi, e => (match e with
    | .Subscript x (.Slice l h none _) _ => okV sc false a x && (match l with
        | none => isNonE lo
        | some y => !isNonE lo && okV sc false lo y) && (match h with
        | none => isNonE hi
        | some y => !isNonE hi && okV sc false hi y)
    | _ => false)
  | .rev _, _ => false
  | .fld c j a, e => (match e with
    | .Attribute x fn _ => baseOk x && decide (c < T.fl.length) && decide ((T.fl.getD c [])[j]? = some fn) && okV sc false a x
    | _ => false)
  | .keep a, e => !t && okV sc false a e
  | .call f es, e => (match e with
    | .Call (.Name x _) xs [] _ => T.cm && glB sc x && (match T.fn.lookup x with
        | some (g, l) => decide (g = f) && decide (l ≤ k)
        | none => false) && xs.all noStar && okL sc false es xs
    | _ => false)
  | .meth f c o es, e => (match e with
    | .Call (.Attribute y m apos) xs [] pos => T.cm && (match mtLook c m T.mt with
        | some (g, l) => decide (g = f) && decide (l ≤ k)
        | none => false) && decide (c < T.fl.length) && decide (m ∉ T.fl.getD c []) && baseOk y && xs.all noStar && decide (xs.length < 30) && (apos.endLine == pos.line) && okV sc false o y && okL sc false es xs
    | _ => false)
  | .mk f c es, e => (match e with
    | .Call (.Name x _) xs [] _ => T.cm && glB sc x && (match T.cl.lookup x with
        | some (c', g, l) => decide (c' = c) && decide (g = f) && decide (l + 1 ≤ k)
        | none => false) && xs.all noStar && okL sc false es xs
    | _ => false)
  | .isi a ty, e => (match e with
    | .Call (.Name x _) [y, .Name n _] [] _ => decide (x = "isinstance") && glB sc x && decide (n = tyStr ty) && tyOkB ty && glB sc n && noStar y && okV sc false a y
    | _ => false)
  | .bi g es, e => (match e with
    | .Call (.Name x _) xs [] _ => (T.cm || !calmBI g) && decide (x = biName g) && glB sc x && (if plainBI g then xs.all noStar && !xs.isEmpty && okL sc false es xs else
        match xs with
        | [.Call (.Name y _) [z] [] _] => decide (y = "set") && glB sc y && noStar z && okL sc false es [z]
        | _ => false)
    | _ => false)
  | .bm g o es, e => (match e with
    | .Call (.Attribute y m apos) xs [] pos => baseOk y && xs.all noStar && (apos.endLine == pos.line) && okV sc false o y && okL sc false es xs && (match g with
        | .get => decide (m = "get") && decide (xs.length = 2)
        | .index => decide (m = "index") && decide (xs.length = 1)
        | .count => decide (m = "count") && decide (xs.length = 1)
        | .indexT => decide (m = "index") && decide (xs.length = 1) && isCon o)
    | _ => false)
  | .rngL es, e => (match e with
    | .Call (.Name x _) [.Call (.Name y _) [a] [] _] [] _ => T.cm && decide (x = "list") && glB sc x && decide (y = "range") && glB sc y && noStar a && okL sc false es [a]
    | _ => false)
  | .comp e p it src cond own, x => (match x with
    | .ListComp elt [⟨tg, iter, ifs, 0⟩] scope _ => T.cm && noFold iter && okI sc it (isTu p) src iter && blkC N sc scope (ownN N own) && patB false N (relS scope sc) p tg && (patIs p).all (fun i => own.contains i) &&
        okC (relS scope sc) cond ifs && okV (relS scope sc) false e elt
    | _ => false)
  | .box a, e => !t && okV sc false a e
  | .dcp a, e => (match e with
    | .Call (.Name x _) [y] [] _ => decide (x = "dict") && glB sc x && noStar y && okV sc false a y
    | _ => false)
  | .rep a b, e => (match e with
    | .BinOp x o y _ => decide (o = .Mult) && okV sc false a x && okV sc false b y
    | _ => false)
  | .cmpb op a b, e => (match e with
    | .Compare x [o] [y] _ => decide (o = cOp op) && noSet y && okV sc false a x && okV sc false b y
    | _ => false)
  | .cmpn op a b, e => (match e with
    | .Compare x [o] [y] _ => decide (o = cOp op) && noSet y && okV sc false a x && okV sc false b y
    | _ => false)
  | .bib g a, e => (match e with
    | .Call (.Name x _) [y] [] _ => (T.cm || !calmBI g) && decide (x = biName g) && glB sc x && (if plainBI g then noStar y && okV sc false a y else
        match y with
        | .Call (.Name z _) [w] [] _ => decide (z = "set") && glB sc z && noStar w && okV sc false a w
        | _ => false)
    | _ => false)
  | .sit a, e => (match e with
    | .Call (.Name x _) [.Call (.Attribute y m apos) [] [] cpos] [] _ => T.cm && decide (x = "sorted") && glB sc x && decide (m = "items") && baseOk y && (apos.endLine == cpos.line) && okV sc false a y
    | _ => false)
  | .mkx0 c, e => (match e with
    | .Call (.Name x _) [.Constant (.str _) _ _] [] _ => T.cm && decide (0 < T.xn) && glB sc x && decide (T.xc.lookup x = some c) && T.x0.contains c
    | _ => false)
  | .mkx1 c a, e => (match e with
    | .Call (.Name x _) [y] [] _ => T.cm && decide (0 < T.xn) && glB sc x && decide (T.xc.lookup x = some c) && T.x1.contains c && noStar y && okV sc false a y
    | _ => false)
  | .isx a cs, e => (match e with
    | .Call (.Name x _) [y, z] [] _ => decide (x = "isinstance") && glB sc x && noStar y && okV sc false a y && decide (0 < T.xn) && okXs T sc cs z
    | _ => false)
  | .xrow a, e => (match e with
    | .Attribute x fn _ => decide (fn = "row") && baseOk x && decide (0 < T.xn) && okV sc false a x
    | _ => false)
-- one by one
def okL (sc : Scope) (t : Bool) : List Ex → List Expr → Bool
  | [], xs => xs.isEmpty
  | e :: es, xs => (match xs with
    | [] => false
    | x :: xs => (t || noStar x) && okV sc t e x && okL sc t es xs)
-- the pairs of a display
def okP (sc : Scope) : List Ex → List (Option Expr) → List Expr → Bool
  | [], ks, vs => ks.isEmpty && vs.isEmpty
  | [_], _, _ => false
  | k :: v :: r, ks, vs => (match ks, vs with
    | some a :: ks, b :: vs => okV sc false k a && okV sc false v b && okP sc r ks vs
    | _, _ => false)
-- a comprehension's tests: none or one
def okC (sc : Scope) : List Ex → List Expr → Bool
  | [], xs => xs.isEmpty
  | e :: es, xs => es.isEmpty && (match xs with
    | [x] => okV sc true e x
    | _ => false)
-- what is walked
def okI (sc : Scope) (it : It) (tu : Bool) : List Ex → Expr → Bool
  | [], _ => false
  | e :: es, x => (match it with
    | .seq => es.isEmpty && okV sc false e x
    | .rng => (match x with
      | .Call (.Name n _) xs [] _ => decide (n = "range") && glB sc n && (match xs with
        | [a] => es.isEmpty && noStar a && okV sc false e a
        | [a, b] => noStar a && noStar b && okV sc false e a && (match es with
          | [e2] => okV sc false e2 b
          | _ => false)
        | _ => false)
      | _ => false)
    | .zip => tu && (match x with
      | .Call (.Name n _) [a, b] [] _ => decide (n = "zip") && glB sc n && noStar a && noStar b && okV sc false e a && (match es with
          | [e2] => okV sc false e2 b
          | _ => false)
      | _ => false)
    | .enum => tu && (match x with
      | .Call (.Name n _) [a] [] _ => decide (n = "enumerate") && glB sc n && es.isEmpty && noStar a && okV sc false e a
      | _ => false)
    | _ => false)
end
end
end Lk

namespace Lk
open PySem L2 PyProof.Rows

def Sd (X : Cx) (G : Gm) (Wx : WX) (P : Pg) (t : Bool) (ex : Ex) (e : Expr) : Prop := (t = false → PE X e (tV G Wx P false ex)) ∧ (t = true → PT X e (tT G Wx P ex))
structure SdL (X : Cx) (G : Gm) (Wx : WX) (P : Pg) (t : Bool) (xs : List Ex) (es : List Expr) : Prop where
  nil : es = [] → xs = []
  args : t = false → es.all noStar = true ∧ PA X es (tAs G Wx P xs) ∧ PA X es (tSs G Wx P xs) ∧ PA X es (tIs G Wx P xs)
  vals : t = false → es ≠ [] → ∀ pos, PE X (.BoolOp .And es pos) (tAV G Wx P xs) ∧ PE X (.BoolOp .Or es pos) (tOV G Wx P xs)
  tests : t = true → es ≠ [] → ∀ pos, PW X (.BoolOp .And es pos) (tTA G Wx P xs) ∧ PW X (.BoolOp .Or es pos) (tTO G Wx P xs)
section
variable {X : Cx} {G : Gm} {T : Tb} {P : Pg} {k : Nat} {Wx : WX} {N : List Str} {ex : Ex} {e : Expr} {t : Bool}
theorem leaf (F : Fits X G T P k Wx) (h : ∀ f, PE X e (tV G Wx P f ex)) (pt : plainT e = true) : Sd X G Wx P t ex e := ⟨fun _ => h false, fun _ => t_gen F.cxt (h true) pt⟩
theorem tg_ok {d : Bool} (nd : X.N.Nodup) (hd : d = true → ∀ x, X.fn x = true) {i : Nat} (h : tgB d X.N X.env.scope i e = true) : PG X e (gName i) ∧ ∃ x p, e = .Name x p := by
  cases e <;> first | (cases h; done) | skip
  rename_i x pos
  have h : (nmOk x && decide (X.N[i]? = some x) && locB d X.env.scope x) = true := h
  rw [Bool.and_eq_true, Bool.and_eq_true] at h
  refine ⟨?_, x, pos, rfl⟩
  have h2 := h.2
  unfold locB at h2
  split at h2
  · rename_i z
    exact pg_name nd (of_decide_eq_true h.1.2) (.inl z) (.inr z)
  · rename_i z
    exact pg_name nd (of_decide_eq_true h.1.2) (.inr z) (.inl (hd h2 x))
  · cases h2
theorem assign_names {d : Bool} : ∀ {is : List Nat} {es : List Expr} {sc : Scope} {env : PySem.Env}, tgsB d N sc is es = true → (assignEach es env).length = is.length ∧ (assignEach es env).findIdx? (·.1) = none
  | [], [], _, _, _ => ⟨rfl, rfl⟩
  | [], _ :: _, _, _, h => by cases h
  | _ :: _, [], _, _, h => by cases h
  | i :: is, e :: es, sc, env, h => by
    have h : (tgB d N sc i e && tgsB d N sc is es) = true := h
    rw [Bool.and_eq_true] at h
    obtain ⟨h1, h2⟩ := h
    obtain ⟨a, b⟩ := assign_names (env := env) h2
    cases e <;> first | (cases h1; done) | skip
    refine ⟨by show (_ :: assignEach es env).length = _; simp [a], ?_⟩
    show (List.findIdx? (·.1) ((false, _) :: assignEach es env)) = none
    rw [List.findIdx?_cons]
    simp [b]
theorem tgs_ok {d : Bool} (nd : X.N.Nodup) (hd : d = true → ∀ x, X.fn x = true) : ∀ {is : List Nat} {es : List Expr}, tgsB d X.N X.env.scope is es = true → PGs X es (gList is)
  | [], [], _ => pgs_nil
  | [], _ :: _, h => by cases h
  | _ :: _, [], h => by cases h
  | i :: is, e :: es, h => by
    have h : (tgB d X.N X.env.scope i e && tgsB d X.N X.env.scope is es) = true := h
    rw [Bool.and_eq_true] at h
    obtain ⟨h1, h2⟩ := h
    obtain ⟨g, x, p, rfl⟩ := tg_ok nd hd h1
    exact pgs_cons g (tgs_ok nd hd h2)
theorem pat_ok {d : Bool} (C : Cxt X G) (hc : X.calm = true) (hd : d = true → ∀ x, X.fn x = true) {p : Pat} (h : patB d X.N X.env.scope p e = true) : PG X e (gPat X.K p) := by
  unfold patB at h
  split at h
  · exact (tg_ok C.nd hd h).1
  · rename_i is es k pos
    obtain ⟨a, b⟩ := assign_names (env := X.env) h
    exact pg_tup hc (tgs_ok C.nd hd h) a b
  · cases h
theorem bi_in (g : BI) : biName g ∈ builtinNames := by cases g <;> decide +kernel
theorem ty_in {ty : Ty} (h : ty = .int ∨ ty = .bl ∨ ty = .str ∨ ty = .lst ∨ ty = .tup) : tyStr ty ∈ builtinNames := by
  rcases h with rfl | rfl | rfl | rfl | rfl <;> decide +kernel
theorem range_in : ("range" : Str) ∈ builtinNames := by decide +kernel
theorem enum_in : ("enumerate" : Str) ∈ builtinNames := by decide +kernel
theorem zip_in : ("zip" : Str) ∈ builtinNames := by decide +kernel
theorem list_in : ("list" : Str) ∈ builtinNames := by decide +kernel
theorem inst_in : ("isinstance" : Str) ∈ builtinNames := by decide +kernel
theorem clx_ok {c m : Nat} {z : Expr} (F : Fits X G T P k Wx) (S : XcS G.K G.E m) (h : okX T X.env.scope c z = true) : ClX X G z c := by
  unfold okX at h
  split at h
  · rename_i n q
    rw [Bool.and_eq_true, Bool.or_eq_true, Bool.and_eq_true, decide_eq_true_eq, decide_eq_true_eq, decide_eq_true_eq] at h
    obtain ⟨g1, g2, _⟩ := gl_ok h.1
    rcases h.2 with e | ⟨e1, e2⟩
    · obtain ⟨r1, r2⟩ := F.st.xc _ _ e
      have S' := F.st.xs (by omega)
      exact clx_own (F.st.hK ▸ S') r1 g1 r2 g2
    · subst e1
      subst e2
      exact clx_ve S g1 (F.st.bt _ (by decide +kernel))
  · cases h
theorem clxs_ok {m : Nat} (F : Fits X G T P k Wx) (S : XcS G.K G.E m) : ∀ {cs : List Nat} {zs : List Expr}, okXl T X.env.scope cs zs = true → ClXs X G zs cs
  | [], zs, h => by
    unfold okXl at h
    cases zs with
    | nil => exact clxs_nil
    | cons _ _ => cases h
  | c :: cs, zs, h => by
    unfold okXl at h
    cases zs with
    | nil => cases h
    | cons z zs =>
      rw [Bool.and_eq_true] at h
      exact clxs_cons (clx_ok F S h.1) (clxs_ok F S h.2)
mutual
theorem okV_ok : ∀ (ex : Ex) (sc : Scope) (t : Bool) (e : Expr), okV T k N sc t ex e = true → ∀ (X : Cx) (Wx : WX), Fits X G T P k Wx → X.env.scope = sc → X.N = N → Sd X G Wx P t ex e
  | .var i, sc, t, e, h, X, Wx, F, hs, hN => by
    subst hs; subst hN
    unfold okV at h
    split at h
    · obtain ⟨a, b, c, d⟩ := slot_ok h
      exact leaf F (fun f => v_var a b c d) rfl
    · cases h
  | .con j, sc, t, e, h, X, Wx, F, hs, hN => by
    subst hs; subst hN
    unfold okV at h
    split at h
    · rw [Bool.and_eq_true] at h
      obtain ⟨a, b, c⟩ := gl_ok h.1
      obtain ⟨u, v, h1, h2, h3⟩ := F.st.co _ _ (of_decide_eq_true h.2)
      exact leaf F (fun f => v_con a h1 h2 h3 b) rfl
    · cases h
  | .int i, sc, t, e, h, X, Wx, F, hs, hN => by
    unfold okV at h
    split at h
    · have := of_decide_eq_true h
      subst this
      exact leaf F (fun f => v_int) rfl
    · cases h
  | .str i, sc, t, e, h, X, Wx, F, hs, hN => by
    unfold okV at h
    split at h
    · have := of_decide_eq_true h
      subst this
      exact leaf F (fun f => v_str) rfl
    · cases h
  | .bl i, sc, t, e, h, X, Wx, F, hs, hN => by
    unfold okV at h
    split at h
    · have := of_decide_eq_true h
      subst this
      exact leaf F (fun f => v_bl) rfl
    · cases h
  | .non, sc, t, e, h, X, Wx, F, hs, hN => by
    unfold okV at h
    split at h
    · exact leaf F (fun f => v_non) rfl
    · cases h
  | .bin op a b, sc, t, e, h, X, Wx, F, hs, hN => by
    unfold okV at h
    split at h
    · simp only [Bool.and_eq_true, decide_eq_true_eq] at h
      obtain ⟨⟨h1, h2⟩, h3⟩ := h
      subst h1
      exact leaf F (fun f => v_bin F.cxt ((okV_ok a sc false _ h2 X Wx F hs hN).1 rfl) ((okV_ok b sc false _ h3 X Wx F hs hN).1 rfl)) rfl
    · cases h
  | .neg a, sc, t, e, h, X, Wx, F, hs, hN => by
    unfold okV at h
    split at h
    · simp only [Bool.and_eq_true, Bool.not_eq_true'] at h
      exact ⟨fun _ => v_neg ((okV_ok a sc false _ h.2 X Wx F hs hN).1 rfl), fun z => by rw [h.1] at z; cases z⟩
    · cases h
  | .not a, sc, t, e, h, X, Wx, F, hs, hN => by
    unfold okV at h
    split at h
    · simp only [Bool.and_eq_true, Bool.or_eq_true] at h
      have r := okV_ok a sc t _ h.2 X Wx F hs hN
      refine ⟨fun z => ?_, fun z => t_not (r.2 z)⟩
      have ff : flagFree a = true := h.1.resolve_left (fun y => by rw [z] at y; cases y)
      refine v_not F.cxt ?_ (flag_free ff)
      have q := r.1 z
      have e1 : tV G Wx P true a = tV G Wx P false a := by
        unfold tV
        rw [show evV P true a = evV P false a from funext (flag_free ff)]
      rw [e1]
      exact q
    · cases h
  | .and es, sc, t, e, h, X, Wx, F, hs, hN => by
    unfold okV at h
    split at h
    · simp only [Bool.and_eq_true] at h
      have r := okL_ok es sc t _ h.1 X Wx F hs hN
      have ne : ∀ {xs : List Expr}, (!xs.isEmpty) = true → xs ≠ [] := fun z y => by subst y; cases z
      exact ⟨fun z => v_all ((r.vals z (ne h.2) _).1), fun z => t_all ((r.tests z (ne h.2) _).1)⟩
    · cases h
  | .or es, sc, t, e, h, X, Wx, F, hs, hN => by
    unfold okV at h
    split at h
    · simp only [Bool.and_eq_true] at h
      have r := okL_ok es sc t _ h.1 X Wx F hs hN
      have ne : ∀ {xs : List Expr}, (!xs.isEmpty) = true → xs ≠ [] := fun z y => by subst y; cases z
      exact ⟨fun z => v_any ((r.vals z (ne h.2) _).2), fun z => t_one ((r.tests z (ne h.2) _).2)⟩
    · cases h
  | .cmp op a b, sc, t, e, h, X, Wx, F, hs, hN => by
    unfold okV at h
    split at h
    · simp only [Bool.and_eq_true, decide_eq_true_eq] at h
      obtain ⟨⟨⟨h1, h2⟩, h3⟩, h4⟩ := h
      subst h1
      have ra := (okV_ok a sc false _ h3 X Wx F hs hN).1 rfl
      have rb := (okV_ok b sc false _ h4 X Wx F hs hN).1 rfl
      exact ⟨fun _ => v_cmp F.cxt ra rb h2, fun _ => t_cmp F.cxt ra rb h2⟩
    · cases h
  | .chn o1 o2 a b c, sc, t, e, h, X, Wx, F, hs, hN => by
    unfold okV at h
    split at h
    · simp only [Bool.and_eq_true, decide_eq_true_eq] at h
      obtain ⟨⟨⟨⟨⟨h1, h2⟩, h3⟩, h4⟩, h5⟩, h6⟩ := h
      subst h1; subst h2
      have ra := (okV_ok a sc false _ h4 X Wx F hs hN).1 rfl
      have rb := (okV_ok b sc false _ h5 X Wx F hs hN).1 rfl
      have rc := (okV_ok c sc false _ h6 X Wx F hs hN).1 rfl
      exact ⟨fun _ => v_chn ra rb rc h3, fun _ => t_chn ra rb rc h3⟩
    · cases h
  | .ite c a b, sc, t, e, h, X, Wx, F, hs, hN => by
    unfold okV at h
    split at h
    · simp only [Bool.and_eq_true, Bool.not_eq_true'] at h
      obtain ⟨⟨⟨h1, h2⟩, h3⟩, h4⟩ := h
      exact ⟨fun _ => v_ite ((okV_ok c sc true _ h2 X Wx F hs hN).2 rfl) ((okV_ok a sc false _ h3 X Wx F hs hN).1 rfl) ((okV_ok b sc false _ h4 X Wx F hs hN).1 rfl), fun z => by rw [h1] at z; cases z⟩
    · cases h
  | .tup es, sc, t, e, h, X, Wx, F, hs, hN => by
    unfold okV at h
    split at h
    · simp only [Bool.and_eq_true, decide_eq_true_eq] at h
      obtain ⟨_, _, r, _⟩ := (okL_ok es sc false _ h.1 X Wx F hs hN).args rfl
      exact leaf F (fun f => v_tup r (Nat.le_trans h.2 (by decide))) rfl
    · cases h
  | .lst box es, sc, t, e, h, X, Wx, F, hs, hN => by
    unfold okV at h
    split at h
    · simp only [Bool.and_eq_true, decide_eq_true_eq, Bool.not_eq_true'] at h
      obtain ⟨⟨h0, h1⟩, h2⟩ := h
      subst h0
      obtain ⟨_, _, r, _⟩ := (okL_ok es sc false _ h1 X Wx F hs hN).args rfl
      exact leaf F (fun f => v_lst r (Nat.le_trans h2 (by decide))) rfl
    · cases h
  | .dic box es, sc, t, e, h, X, Wx, F, hs, hN => by
    unfold okV at h
    split at h
    · simp only [Bool.and_eq_true, Bool.not_eq_true', decide_eq_true_eq] at h
      obtain ⟨⟨⟨h0, h1⟩, h2⟩, h3⟩ := h
      subst h0
      obtain ⟨p1, p2, p3, p4⟩ := okP_ok es sc _ _ h1 X Wx F hs hN
      rename_i keys values pos
      cases keys with
      | nil =>
        have hv : values = [] := by cases values <;> first | rfl | cases p4
        subst hv
        have he : es = [] := by
          cases es with
          | nil => rfl
          | cons k r => cases r <;> unfold okP at h1 <;> cases h1
        subst he
        exact leaf F (fun f => v_dic0) rfl
      | cons k ks => exact leaf F (fun f => v_dic (p1 _) p2 p3 p4 (by simp) h2 h3) rfl
    · cases h
  | .idx a b, sc, t, e, h, X, Wx, F, hs, hN => by
    unfold okV at h
    split at h
    · simp only [Bool.and_eq_true] at h
      exact leaf F (fun f => v_idx F.cxt ((okV_ok a sc false _ h.1.2 X Wx F hs hN).1 rfl) ((okV_ok b sc false _ h.2 X Wx F hs hN).1 rfl) h.1.1) rfl
    · cases h
  | .slc a lo hi, sc, t, e, h, X, Wx, F, hs, hN => by
    unfold okV at h
    split at h
    · rename_i x l hh p2 pos
      simp only [Bool.and_eq_true] at h
      obtain ⟨⟨h1, h2⟩, h3⟩ := h
      refine leaf F (fun f => v_slc F.cxt ((okV_ok a sc false _ h1 X Wx F hs hN).1 rfl) ?_ ?_) rfl
      · cases l with
        | none =>
          have : lo = .non := by cases lo <;> first | rfl | cases h2
          subst this
          exact part_none
        | some y =>
          simp only [Bool.and_eq_true, Bool.not_eq_true'] at h2
          exact part_some ((okV_ok lo sc false _ h2.2 X Wx F hs hN).1 rfl) h2.1
      · cases hh with
        | none =>
          have : hi = .non := by cases hi <;> first | rfl | cases h3
          subst this
          exact part_none
        | some y =>
          simp only [Bool.and_eq_true, Bool.not_eq_true'] at h3
          exact part_some ((okV_ok hi sc false _ h3.2 X Wx F hs hN).1 rfl) h3.1
    · cases h
  | .rev _, sc, t, e, h, X, Wx, F, hs, hN => by unfold okV at h; cases h
  | .fld c j a, sc, t, e, h, X, Wx, F, hs, hN => by
    unfold okV at h
    split at h
    · simp only [Bool.and_eq_true, decide_eq_true_eq] at h
      obtain ⟨⟨⟨h1, h2⟩, h3⟩, h4⟩ := h
      obtain ⟨f1, f2, f3, f4, f5⟩ := F.st.fl c h2
      rw [← f1] at h3
      exact leaf F (fun f => v_fld ((okV_ok a sc false _ h4 X Wx F hs hN).1 rfl) (base_ok h1) F.cxt h3 f2 f4 (f5 _ (List.mem_of_getElem? h3))) rfl
    · cases h
  | .box a, sc, t, e, h, X, Wx, F, hs, hN => by
    unfold okV at h
    simp only [Bool.and_eq_true, Bool.not_eq_true'] at h
    exact ⟨fun _ => v_box ((okV_ok a sc false _ h.2 X Wx F hs hN).1 rfl), fun z => by rw [h.1] at z; cases z⟩
  | .dcp a, sc, t, e, h, X, Wx, F, hs, hN => by
    unfold okV at h
    split at h
    · rename_i x p y pos
      simp only [Bool.and_eq_true, decide_eq_true_eq] at h
      obtain ⟨⟨⟨h1, h2⟩, h3⟩, h4⟩ := h
      subst h1
      rw [← hs] at h2
      obtain ⟨a1, b1, c1⟩ := gl_ok h2
      have ra := (okV_ok a sc false _ h4 X Wx F hs hN).1 rfl
      exact leaf F (fun f => v_dcp a1 (F.st.bt _ (by decide +kernel)) ra h3 c1 b1) rfl
    · cases h
  | .rep a b, sc, t, e, h, X, Wx, F, hs, hN => by
    unfold okV at h
    split at h
    · simp only [Bool.and_eq_true, decide_eq_true_eq] at h
      obtain ⟨⟨h1, h2⟩, h3⟩ := h
      subst h1
      have ra := (okV_ok a sc false _ h2 X Wx F hs hN).1 rfl
      have rb := (okV_ok b sc false _ h3 X Wx F hs hN).1 rfl
      exact leaf F (fun f => v_rep ra rb) rfl
    · cases h
  | .cmpb op a b, sc, t, e, h, X, Wx, F, hs, hN => by
    unfold okV at h
    split at h
    · simp only [Bool.and_eq_true, decide_eq_true_eq] at h
      obtain ⟨⟨⟨h1, h2⟩, h3⟩, h4⟩ := h
      subst h1
      have ra := (okV_ok a sc false _ h3 X Wx F hs hN).1 rfl
      have rb := (okV_ok b sc false _ h4 X Wx F hs hN).1 rfl
      exact ⟨fun _ => v_cmpb F.cxt ra rb h2, fun _ => t_cmpb F.cxt ra rb h2⟩
    · cases h
  | .cmpn op a b, sc, t, e, h, X, Wx, F, hs, hN => by
    unfold okV at h
    split at h
    · simp only [Bool.and_eq_true, decide_eq_true_eq] at h
      obtain ⟨⟨⟨h1, h2⟩, h3⟩, h4⟩ := h
      subst h1
      have ra := (okV_ok a sc false _ h3 X Wx F hs hN).1 rfl
      have rb := (okV_ok b sc false _ h4 X Wx F hs hN).1 rfl
      exact ⟨fun _ => v_cmpn F.cxt ra rb h2, fun _ => t_cmpn F.cxt ra rb h2⟩
    · cases h
  | .bib g a, sc, t, e, h, X, Wx, F, hs, hN => by
    unfold okV at h
    split at h
    · rename_i x p y pos
      rw [Bool.and_eq_true] at h
      obtain ⟨h, hr⟩ := h
      simp only [Bool.and_eq_true, decide_eq_true_eq] at h
      obtain ⟨⟨h0, h1⟩, h2⟩ := h
      subst h1
      rw [← hs] at h2
      obtain ⟨a1, b1, c1⟩ := gl_ok h2
      have hc : calmBI g = true → X.calm = true := fun z => F.calm (by rw [z] at h0; simpa using h0)
      split at hr
      · rename_i hp
        simp only [Bool.and_eq_true] at hr
        have ra := (okV_ok a sc false _ hr.2 X Wx F hs hN).1 rfl
        exact leaf F (fun f => v_bib F.cxt hp hc a1 (F.st.bt _ (bi_in g)) (bi_boot hp) ra hr.1 c1 b1) rfl
      · rename_i hp
        split at hr
        · rename_i z p2 w q
          simp only [Bool.and_eq_true, decide_eq_true_eq] at hr
          obtain ⟨⟨⟨e1, e2⟩, e3⟩, e4⟩ := hr
          subst e1
          rw [← hs] at e2
          obtain ⟨a2, b2, c2⟩ := gl_ok e2
          have ra := (okV_ok a sc false _ e4 X Wx F hs hN).1 rfl
          have set_in : ("set" : Str) ∈ builtinNames := by decide +kernel
          cases g with
          | sset => exact leaf F (fun f => v_ssetb F.cxt (hc rfl) a1 (F.st.bt _ (bi_in .sset)) a2 (F.st.bt _ set_in) ra e3) rfl
          | lset => exact leaf F (fun f => v_lsetb F.cxt (hc rfl) a1 (F.st.bt _ (bi_in .lset)) a2 (F.st.bt _ set_in) ra e3) rfl
          | _ => exact absurd rfl hp
        · cases hr
    · cases h
  | .keep a, sc, t, e, h, X, Wx, F, hs, hN => by
    unfold okV at h
    simp only [Bool.and_eq_true, Bool.not_eq_true'] at h
    exact ⟨fun _ => v_keep ((okV_ok a sc false _ h.2 X Wx F hs hN).1 rfl), fun z => by rw [h.1] at z; cases z⟩
  | .call f es, sc, t, e, h, X, Wx, F, hs, hN => by
    unfold okV at h
    split at h
    · rename_i x p xs pos
      simp only [Bool.and_eq_true] at h
      obtain ⟨⟨⟨⟨h0, h1⟩, h2⟩, h3⟩, h4⟩ := h
      rw [← hs] at h1
      obtain ⟨a, b, c⟩ := gl_ok h1
      split at h2
      · rename_i g l hl
        simp only [Bool.and_eq_true, decide_eq_true_eq] at h2
        obtain ⟨e1, e2⟩ := h2
        subst e1
        obtain ⟨fa, fd, ps, m1, m2, m3, m4⟩ := F.st.fn x g l hl e2
        have r := okL_ok es sc false _ h4 X Wx F hs hN
        exact leaf F (fun f => v_call m4 (F.room h0) a m1 m2 m3 F.pass (r.args rfl).2.1 h3 b r.nil) rfl
      · cases h2
    · cases h
  | .meth f c o es, sc, t, e, h, X, Wx, F, hs, hN => by
    unfold okV at h
    split at h
    · rename_i y m apos xs pos
      simp only [Bool.and_eq_true, decide_eq_true_eq] at h
      obtain ⟨⟨⟨⟨⟨⟨⟨⟨⟨h0, h2⟩, hc⟩, hm⟩, hb⟩, hns⟩, hn⟩, hli⟩, ho⟩, h4⟩ := h
      obtain ⟨f1, f2, f3, f4, f5⟩ := F.st.fl c hc
      rw [← f1] at hm
      split at h2
      · rename_i g l hl
        simp only [Bool.and_eq_true, decide_eq_true_eq] at h2
        obtain ⟨e1, e2⟩ := h2
        subst e1
        obtain ⟨fa, fd, ps, m1, m2, m3, m4⟩ := F.st.mt c m g l hl e2
        have r := okL_ok es sc false _ h4 X Wx F hs hN
        exact leaf F (fun f => v_meth ((okV_ok o sc false _ ho X Wx F hs hN).1 rfl) m1 m2 m4 (F.room h0) m3 F.pass hm (r.args rfl).2.1 hns r.nil hb hn hli) rfl
      · cases h2
    · cases h
  | .mk f c es, sc, t, e, h, X, Wx, F, hs, hN => by
    unfold okV at h
    split at h
    · rename_i x p xs pos
      simp only [Bool.and_eq_true] at h
      obtain ⟨⟨⟨⟨h0, h1⟩, h2⟩, h3⟩, h4⟩ := h
      rw [← hs] at h1
      obtain ⟨a, b, cc⟩ := gl_ok h1
      split at h2
      · rename_i c' g l hl
        simp only [Bool.and_eq_true, decide_eq_true_eq] at h2
        obtain ⟨⟨e0, e1⟩, e2⟩ := h2
        subst e0; subst e1
        obtain ⟨fa, fd, ps, m1, m2, m3, m4⟩ := F.st.cl x c' g l hl e2
        have r := okL_ok es sc false _ h4 X Wx F hs hN
        have rm : Room (k - 1 + 1) X.A := by
          rw [show k - 1 + 1 = k from by omega]
          exact (F.room h0)
        exact leaf F (fun f => v_mk F.cxt m2 m4 rm a m1 m3 F.pass (r.args rfl).2.1 h3 b r.nil) rfl
      · cases h2
    · cases h
  | .isi a ty, sc, t, e, h, X, Wx, F, hs, hN => by
    unfold okV at h
    split at h
    · rename_i x p y n p2 pos
      simp only [Bool.and_eq_true, decide_eq_true_eq] at h
      obtain ⟨⟨⟨⟨⟨⟨h1, h2⟩, h3⟩, h4⟩, h5⟩, h6⟩, h7⟩ := h
      subst h1; subst h3
      rw [← hs] at h2 h5
      have hty : ty = .int ∨ ty = .bl ∨ ty = .str ∨ ty = .lst ∨ ty = .tup := by
        cases ty <;> first | (cases h4; done) | simp
      obtain ⟨a1, b1, c1⟩ := gl_ok h2
      obtain ⟨a2, b2, c2⟩ := gl_ok h5
      refine leaf F (fun f => v_isi F.cxt ((okV_ok a sc false _ h7 X Wx F hs hN).1 rfl) h6 hty a1 (F.st.bt _ inst_in) a2 (F.st.bt _ (ty_in hty)) (ty_boot hty) c2 b2) rfl
    · cases h
  | .bi g es, sc, t, e, h, X, Wx, F, hs, hN => by
    unfold okV at h
    split at h
    · rename_i x p xs pos
      rw [Bool.and_eq_true] at h
      obtain ⟨h, hr⟩ := h
      simp only [Bool.and_eq_true, decide_eq_true_eq] at h
      obtain ⟨⟨h0, h1⟩, h2⟩ := h
      subst h1
      rw [← hs] at h2
      obtain ⟨a1, b1, c1⟩ := gl_ok h2
      have hc : calmBI g = true → X.calm = true := fun z => F.calm (by rw [z] at h0; simpa using h0)
      split at hr
      · rename_i hp
        simp only [Bool.and_eq_true] at hr
        obtain ⟨⟨h3, h4⟩, h5⟩ := hr
        have r := okL_ok es sc false _ h5 X Wx F hs hN
        cases xs with
        | nil => cases h4
        | cons y ys =>
          have ns : noStar y = true := by
            rw [List.all_cons, Bool.and_eq_true] at h3
            exact h3.1
          exact leaf F (fun f => v_bi (id := "") F.cxt hp hc a1 (F.st.bt _ (bi_in g)) (bi_boot hp) (r.args rfl).2.1 ns (by rw [List.all_cons, Bool.and_eq_true] at h3; exact h3.2) c1 b1) rfl
      · rename_i hp
        split at hr
        · rename_i y p2 z q
          simp only [Bool.and_eq_true, decide_eq_true_eq] at hr
          obtain ⟨⟨⟨e1, e2⟩, e3⟩, e4⟩ := hr
          subst e1
          rw [← hs] at e2
          obtain ⟨a2, b2, c2⟩ := gl_ok e2
          have r := okL_ok es sc false _ e4 X Wx F hs hN
          have set_in : ("set" : Str) ∈ builtinNames := by decide +kernel
          cases g with
          | sset => exact leaf F (fun f => v_sset F.cxt (hc rfl) a1 (F.st.bt _ (bi_in .sset)) a2 (F.st.bt _ set_in) (r.args rfl).2.1 e3) rfl
          | lset => exact leaf F (fun f => v_lset F.cxt (hc rfl) a1 (F.st.bt _ (bi_in .lset)) a2 (F.st.bt _ set_in) (r.args rfl).2.1 e3) rfl
          | _ => exact absurd rfl hp
        · cases hr
    · cases h
  | .bm g o es, sc, t, e, h, X, Wx, F, hs, hN => by
    unfold okV at h
    split at h
    · rename_i y m apos xs pos
      simp only [Bool.and_eq_true] at h
      obtain ⟨⟨⟨⟨⟨h1, h2⟩, h3⟩, h4⟩, h5⟩, h6⟩ := h
      have ro := (okV_ok o sc false _ h4 X Wx F hs hN).1 rfl
      have rs := okL_ok es sc false _ h5 X Wx F hs hN
      cases g with
      | get =>
        simp only [Bool.and_eq_true, decide_eq_true_eq] at h6
        obtain ⟨hm, hlen⟩ := h6
        subst hm
        match xs, hlen, h2, h5 with
        | [a, b], _, h2, h5 =>
          match es, h5 with
          | [], h5 => unfold okL at h5; cases h5
          | [_], h5 => unfold okL at h5; rw [Bool.and_eq_true] at h5; have h5 := h5.2; unfold okL at h5; cases h5
          | _ :: _ :: _ :: _, h5 =>
            unfold okL at h5
            rw [Bool.and_eq_true] at h5
            have h5 := h5.2
            unfold okL at h5
            rw [Bool.and_eq_true] at h5
            have h5 := h5.2
            unfold okL at h5
            cases h5
          | [ea, eb], h5 =>
            unfold okL at h5
            rw [Bool.and_eq_true, Bool.and_eq_true] at h5
            have h7 := h5.2
            unfold okL at h7
            rw [Bool.and_eq_true, Bool.and_eq_true] at h7
            have n1 : noStar a = true := by simpa using h5.1.1
            have n2 : noStar b = true := by simpa using h7.1.1
            exact leaf F (fun f => v_get F.cxt ro ((okV_ok ea sc false _ h5.1.2 X Wx F hs hN).1 rfl) ((okV_ok eb sc false _ h7.1.2 X Wx F hs hN).1 rfl) (m2_ok h1 n1 n2 h3)) rfl
      | index =>
        simp only [Bool.and_eq_true, decide_eq_true_eq] at h6
        obtain ⟨hm, hlen⟩ := h6
        subst hm
        match xs, hlen, h2, rs with
        | [a], _, h2, rs => exact leaf F (fun f => v_index F.cxt ro (rs.args rfl).2.2.1 h2 h1 (by show 1 < 30; decide) h3) rfl
      | count =>
        simp only [Bool.and_eq_true, decide_eq_true_eq] at h6
        obtain ⟨hm, hlen⟩ := h6
        subst hm
        match xs, hlen, h2, rs with
        | [a], _, h2, rs => exact leaf F (fun f => v_count F.cxt ro (rs.args rfl).2.2.1 h2 h1 (by show 1 < 30; decide) h3) rfl
      | indexT =>
        simp only [Bool.and_eq_true, decide_eq_true_eq] at h6
        obtain ⟨⟨hm, hlen⟩, hc⟩ := h6
        subst hm
        cases o with
        | con j =>
          subst hs; subst hN
          unfold okV at h4
          split at h4
          · rw [Bool.and_eq_true] at h4
            obtain ⟨a1, b1, c1⟩ := gl_ok h4.1
            obtain ⟨u, v, g1, g2, g3⟩ := F.st.co _ _ (of_decide_eq_true h4.2)
            match xs, hlen, h2, rs with
            | [a], _, h2, rs => exact leaf F (fun f => v_indexT F.cxt a1 g1 g2 g3 b1 (rs.args rfl).2.2.1 h2 h1 (by show 1 < 30; decide) h3) rfl
          · cases h4
        | _ => cases hc
    · cases h
  | .rngL es, sc, t, e, h, X, Wx, F, hs, hN => by
    unfold okV at h
    split at h
    · rename_i x p y p2 a apos pos
      simp only [Bool.and_eq_true, decide_eq_true_eq] at h
      obtain ⟨⟨⟨⟨⟨⟨h0, h1⟩, h2⟩, h3⟩, h4⟩, h5⟩, h6⟩ := h
      subst h1; subst h3
      rw [← hs] at h2 h4
      cases es with
      | nil => unfold okL at h6; cases h6
      | cons ea er =>
        have h6' := h6
        unfold okL at h6
        simp only [Bool.and_eq_true] at h6
        cases er with
        | cons _ _ => have := h6.2; unfold okL at this; cases this
        | nil =>
          obtain ⟨a1, b1, c1⟩ := gl_ok h2
          obtain ⟨a2, b2, c2⟩ := gl_ok h4
          exact leaf F (fun f => v_rngL F.cxt (F.calm h0) ((okV_ok ea sc false _ h6.1.2 X Wx F hs hN).1 rfl) h5 a1 (F.st.bt _ list_in) a2 (F.st.bt _ range_in)) rfl
    · cases h
  | .comp e p it src cond own, sc, t, x, h, X, Wx, F, hs, hN => by
    unfold okV at h
    split at h
    · rename_i elt tg iter ifs scope pos
      simp only [Bool.and_eq_true] at h
      obtain ⟨⟨⟨⟨⟨⟨⟨h0, h1⟩, h2⟩, h3⟩, h4⟩, h5⟩, h6⟩, h7⟩ := h
      have key : own = (ownN N own).map (·.2) := ownN_map.symm
      have hp : ∀ i ∈ patIs p, i ∈ (ownN N own).map (·.2) := fun i hi => by
        rw [ownN_map]
        have := List.all_eq_true.mp h5 i hi
        simpa using this
      have ok : BlkOk X.N X.env.scope scope (ownN N own) := by
        rw [hN, hs]
        exact blkOk_by h3
      have hI := okI_ok src sc it _ iter h2 X Wx F hs hN tg (tu_of h4)
      rw [key]
      refine leaf F (fun f => e_comp F.cxt (F.calm h0) hI ok (fun s H C cl fp => ?_) (fun s H C cl fp => ?_) (fun s H C cl fp => ?_) hp h1) rfl
      · refine pat_ok (d := false) (F.blk s H scope C cl fp).cxt ((F.blk s H scope C cl fp).calm h0) (fun z => by cases z) ?_
        show patB false X.N (relS scope X.env.scope) p tg = true
        rw [hN, hs]
        exact h4
      · exact okC_ok cond _ _ h6 _ _ (F.blk s H scope C cl fp) (by show relS scope X.env.scope = _; rw [hs]) hN
      · exact (okV_ok e _ false _ h7 _ _ (F.blk s H scope C cl fp) (by show relS scope X.env.scope = _; rw [hs]) hN).1 rfl
    · cases h
  | .sit a, sc, t, e, h, X, Wx, F, hs, hN => by
    unfold okV at h
    split at h
    · simp only [Bool.and_eq_true, decide_eq_true_eq] at h
      obtain ⟨⟨⟨⟨⟨⟨h0, h1⟩, h2⟩, h3⟩, h4⟩, h5⟩, h6⟩ := h
      subst h1 h3
      rw [← hs] at h2
      obtain ⟨a1, b1, c1⟩ := gl_ok h2
      have ra := (okV_ok a sc false _ h6 X Wx F hs hN).1 rfl
      have so : ("sorted" : Str) ∈ builtinNames := by decide +kernel
      exact leaf F (fun f => v_sit (F.calm h0) a1 (F.st.bt _ so) ra h4 h5) rfl
    · cases h
  | .mkx0 c, sc, t, e, h, X, Wx, F, hs, hN => by
    unfold okV at h
    split at h
    · simp only [Bool.and_eq_true, decide_eq_true_eq] at h
      obtain ⟨⟨⟨⟨h0, h1⟩, h2⟩, h3⟩, h4⟩ := h
      rw [← hs] at h2
      obtain ⟨a1, b1, c1⟩ := gl_ok h2
      exact leaf F (fun f => v_mkx0 (F.st.xs h1) (F.st.x0 c (by simpa using h4)) (F.st.xc _ _ h3).2 a1 b1) rfl
    · cases h
  | .mkx1 c a, sc, t, e, h, X, Wx, F, hs, hN => by
    unfold okV at h
    split at h
    · simp only [Bool.and_eq_true, decide_eq_true_eq] at h
      obtain ⟨⟨⟨⟨⟨⟨h0, h1⟩, h2⟩, h3⟩, h4⟩, h6⟩, h7⟩ := h
      rw [← hs] at h2
      obtain ⟨a1, b1, c1⟩ := gl_ok h2
      obtain ⟨f1, qn, RT⟩ := F.st.x1 c (by simpa using h4)
      have ra := (okV_ok a sc false _ h7 X Wx F hs hN).1 rfl
      exact leaf F (fun f => v_mkx1 (F.st.xs h1) RT (F.room h0) (F.st.xc _ _ h3).2 a1 b1 ra h6) rfl
    · cases h
  | .isx a cs, sc, t, e, h, X, Wx, F, hs, hN => by
    unfold okV at h
    split at h
    · rename_i x p y z pos
      simp only [Bool.and_eq_true, decide_eq_true_eq] at h
      obtain ⟨⟨⟨⟨⟨h1, h2⟩, h3⟩, h4⟩, h5⟩, h6⟩ := h
      subst h1
      rw [← hs] at h2 h6
      obtain ⟨a1, b1, c1⟩ := gl_ok h2
      have ra := (okV_ok a sc false _ h4 X Wx F hs hN).1 rfl
      have S := F.st.xs h5
      unfold okXs at h6
      split at h6
      · rename_i zs _ _
        rw [Bool.and_eq_true, decide_eq_true_eq] at h6
        exact leaf F (fun f => v_isxT F.cxt (F.st.hK ▸ S) (clxs_ok F (F.st.hK ▸ S) h6.2) h6.1 ra h3 a1 (F.st.bt _ inst_in)) rfl
      · split at h6
        · exact leaf F (fun f => v_isx1 F.cxt (F.st.hK ▸ S) (clx_ok F (F.st.hK ▸ S) h6) ra h3 a1 (F.st.bt _ inst_in)) rfl
        · cases h6
    · cases h
  | .xrow a, sc, t, e, h, X, Wx, F, hs, hN => by
    unfold okV at h
    split at h
    · rename_i x fn pos
      simp only [Bool.and_eq_true, decide_eq_true_eq] at h
      obtain ⟨⟨⟨h1, h2⟩, h3⟩, h4⟩ := h
      subst h1
      have ra := (okV_ok a sc false _ h4 X Wx F hs hN).1 rfl
      exact leaf F (fun f => v_xrow F.cxt (F.st.hK ▸ F.st.xs h3) ra (base_ok h2)) rfl
    · cases h
theorem okL_ok : ∀ (xs : List Ex) (sc : Scope) (t : Bool) (es : List Expr), okL T k N sc t xs es = true → ∀ (X : Cx) (Wx : WX), Fits X G T P k Wx → X.env.scope = sc → X.N = N → SdL X G Wx P t xs es
  | [], sc, t, es, h, X, Wx, F, hs, hN => by
    unfold okL at h
    cases es with
    | cons _ _ => cases h
    | nil => exact ⟨fun _ => rfl, fun _ => ⟨rfl, args_nil, items_nil, walked_nil⟩, fun _ ne => absurd rfl ne, fun _ ne => absurd rfl ne⟩
  | x :: xs, sc, t, es, h, X, Wx, F, hs, hN => by
    unfold okL at h
    cases es with
    | nil => cases h
    | cons e es =>
      simp only [Bool.and_eq_true, Bool.or_eq_true] at h
      obtain ⟨⟨h1, h2⟩, h3⟩ := h
      have r := okV_ok x sc t _ h2 X Wx F hs hN
      have rs := okL_ok xs sc t _ h3 X Wx F hs hN
      refine ⟨fun z => (nomatch z), fun z => ?_, fun z _ pos => ?_, fun z _ pos => ?_⟩
      · have ns : noStar e = true := h1.resolve_left (fun y => by rw [z] at y; cases y)
        obtain ⟨q1, q2, q3, q4⟩ := rs.args z
        exact ⟨by rw [List.all_cons, ns, q1]; rfl, args_cons ns (r.1 z) q2, items_cons ns (r.1 z) q3, walked_cons ns (r.1 z) q4⟩
      · cases es with
        | nil =>
          have hx : xs = [] := rs.nil rfl
          subst hx
          exact ⟨v_and1 (r.1 z), v_or1 (r.1 z)⟩
        | cons e2 es =>
          cases xs with
          | nil => unfold okL at h3; cases h3
          | cons x2 xs =>
            obtain ⟨q1, q2⟩ := rs.vals z (by simp) pos
            exact ⟨v_and (r.1 z) q1, v_or (r.1 z) q2⟩
      · cases es with
        | nil =>
          have hx : xs = [] := rs.nil rfl
          subst hx
          exact ⟨t_and1 (r.2 z), t_or1 (r.2 z)⟩
        | cons e2 es =>
          cases xs with
          | nil => unfold okL at h3; cases h3
          | cons x2 xs =>
            obtain ⟨q1, q2⟩ := rs.tests z (by simp) pos
            exact ⟨t_and (r.2 z) q1, t_or (r.2 z) q2⟩
theorem okP_ok : ∀ (xs : List Ex) (sc : Scope) (ks : List (Option Expr)) (vs : List Expr), okP T k N sc xs ks vs = true → ∀ (X : Cx) (Wx : WX), Fits X G T P k Wx → X.env.scope = sc → X.N = N →
    (∀ pos, PPs X pos ks vs (pairT G Wx P xs)) ∧ evenX xs = true ∧ ks.all (·.isSome) = true ∧ ks.length = vs.length
  | [], sc, ks, vs, h, X, Wx, F, hs, hN => by
    unfold okP at h
    cases ks with
    | cons _ _ => cases h
    | nil => cases vs with
      | cons _ _ => cases h
      | nil => exact ⟨fun pos => pps_nil, rfl, rfl, rfl⟩
  | [_], sc, ks, vs, h, X, Wx, F, hs, hN => by unfold okP at h; cases h
  | x :: y :: r, sc, ks, vs, h, X, Wx, F, hs, hN => by
    unfold okP at h
    split at h
    · simp only [Bool.and_eq_true] at h
      obtain ⟨⟨h1, h2⟩, h3⟩ := h
      obtain ⟨p1, p2, p3, p4⟩ := okP_ok r sc _ _ h3 X Wx F hs hN
      exact ⟨fun pos => pps_cons (peR ((okV_ok x sc false _ h1 X Wx F hs hN).1 rfl)) (peR ((okV_ok y sc false _ h2 X Wx F hs hN).1 rfl)) (p1 pos), p2, by rw [List.all_cons, p3]; rfl, by rw [List.length_cons, List.length_cons, p4]⟩
    · cases h
theorem okC_ok : ∀ (xs : List Ex) (sc : Scope) (es : List Expr), okC T k N sc xs es = true → ∀ (X : Cx) (Wx : WX), Fits X G T P k Wx → X.env.scope = sc → X.N = N → PTs X es (tC G Wx P xs)
  | [], sc, es, h, X, Wx, F, hs, hN => by
    unfold okC at h
    cases es with
    | cons _ _ => cases h
    | nil => exact c_nil
  | x :: xs, sc, es, h, X, Wx, F, hs, hN => by
    unfold okC at h
    rw [Bool.and_eq_true] at h
    cases xs with
    | cons _ _ => cases h.1
    | nil =>
      have h2 := h.2
      split at h2
      · exact c_one ((okV_ok x sc true _ h2 X Wx F hs hN).2 rfl)
      · cases h2
theorem okI_ok : ∀ (xs : List Ex) (sc : Scope) (it : It) (tu : Bool) (e : Expr), okI T k N sc it tu xs e = true → ∀ (X : Cx) (Wx : WX), Fits X G T P k Wx → X.env.scope = sc → X.N = N → ∀ tg, (tu = true → ∃ el kk tp, tg = .Tuple el kk tp) → PI X tg e (tIt G Wx P it xs)
  | [], sc, it, tu, e, h, X, Wx, F, hs, hN, tg, ht => by unfold okI at h; cases h
  | x :: xs, sc, it, tu, e, h, X, Wx, F, hs, hN, tg, ht => by
    unfold okI at h
    cases it with
    | seq =>
      simp only [Bool.and_eq_true] at h
      cases xs with
      | cons _ _ => cases h.1
      | nil => exact w_seq F.cxt ((okV_ok x sc false _ h.2 X Wx F hs hN).1 rfl)
    | rng =>
      dsimp only at h
      split at h
      · rename_i n p es pos
        simp only [Bool.and_eq_true, decide_eq_true_eq] at h
        obtain ⟨⟨h1, h2⟩, h3⟩ := h
        subst h1
        rw [← hs] at h2
        obtain ⟨a1, b1, c1⟩ := gl_ok h2
        have bt : X.mg "range" = none := F.st.bt _ range_in
        split at h3
        · simp only [Bool.and_eq_true] at h3
          obtain ⟨⟨g1, g2⟩, g3⟩ := h3
          cases xs with
          | cons _ _ => cases g1
          | nil => exact w_rng1 a1 bt (walked_cons g2 ((okV_ok x sc false _ g3 X Wx F hs hN).1 rfl) walked_nil) g2
        · simp only [Bool.and_eq_true] at h3
          obtain ⟨⟨⟨g1, g2⟩, g3⟩, g4⟩ := h3
          cases xs with
          | nil => cases g4
          | cons x2 xs =>
            cases xs with
            | cons _ _ => cases g4
            | nil => exact w_rng2 a1 bt (walked_cons g1 ((okV_ok x sc false _ g3 X Wx F hs hN).1 rfl) (walked_cons g2 ((okV_ok x2 sc false _ g4 X Wx F hs hN).1 rfl) walked_nil)) g1 g2
        · cases h3
      · cases h
    | zip =>
      dsimp only at h
      rw [Bool.and_eq_true] at h
      obtain ⟨h0, h⟩ := h
      obtain ⟨el, kk, tp, rfl⟩ := ht h0
      split at h
      · rename_i n p a b pos
        simp only [Bool.and_eq_true, decide_eq_true_eq] at h
        obtain ⟨⟨⟨⟨⟨h1, h2⟩, g1⟩, g2⟩, g3⟩, g4⟩ := h
        subst h1
        rw [← hs] at h2
        obtain ⟨a1, b1, c1⟩ := gl_ok h2
        have bt : X.mg "zip" = none := F.st.bt _ zip_in
        cases xs with
        | nil => cases g4
        | cons x2 xs =>
          cases xs with
          | cons _ _ => cases g4
          | nil => exact w_zip F.cxt a1 bt (walked_cons g1 ((okV_ok x sc false _ g3 X Wx F hs hN).1 rfl) (walked_cons g2 ((okV_ok x2 sc false _ g4 X Wx F hs hN).1 rfl) walked_nil)) g1 g2
      · cases h
    | enum =>
      dsimp only at h
      rw [Bool.and_eq_true] at h
      obtain ⟨h0, h⟩ := h
      obtain ⟨el, kk, tp, rfl⟩ := ht h0
      split at h
      · rename_i n p a pos
        simp only [Bool.and_eq_true, decide_eq_true_eq] at h
        obtain ⟨⟨⟨⟨h1, h2⟩, g1⟩, g2⟩, g3⟩ := h
        subst h1
        rw [← hs] at h2
        obtain ⟨a1, b1, c1⟩ := gl_ok h2
        have bt : X.mg "enumerate" = none := F.st.bt _ enum_in
        cases xs with
        | cons _ _ => cases g1
        | nil => exact w_enum F.cxt a1 bt (walked_cons g2 ((okV_ok x sc false _ g3 X Wx F hs hN).1 rfl) walked_nil) g2
      · cases h
    | items => cases h
end
end
end Lk

namespace Lk
open PySem L2 PyProof.Rows

/-! ### the checker of statements -/
section
variable (T : Tb) (k : Nat) (N : List Str) (sc : Scope)
def mmArgs : MM → List Expr → Bool
  | .append, _ :: _ => true
  | .popAt, _ :: _ => true
  | .pop, [] => true
  | .clear, [] => true
  | .reverse, [] => true
  | _, _ => false
def okM (m : MM) (o : Ex) (xs : List Ex) : Expr → Bool
  | .Call (.Attribute y n apos) es [] pos => decide (n = mmName m) && mmArgs m es && baseOk y && es.all noStar && decide (es.length < 30) && (apos.endLine == pos.line) && okV T k N sc false o y && okL T k N sc false xs es
  | _ => false
-- a comprehension given to a name
def isCompX : Ex → Bool
  | .comp _ _ _ _ _ _ => true
  | _ => false
def okCg (p : Pos) (y : Str) : Expr → Bool
  | .ListComp _ _ scope pos => (p.line == pos.line) && !(scope.names.any fun (n, k) => n == y && (k == .local || k == .cell)) && decide (sc.names.lookup y = some .local)
  | _ => false
def okCc (sc : Scope) (y : Str) : Expr → Bool
  | .ListComp _ _ _ _ => decide (sc.names.lookup y = some .cell)
  | _ => false
end
section
variable (k : Nat) (N : List Str) (sc : Scope)
mutual
def okS (T : Tb) : St → Stmt → Bool
  | .asg i e, st => (match st with
    | .Assign [.Name y p] x _ => tgB true N sc i (.Name y p) && okV T k N sc false e x && (notComp x || (isCompX e && (okCg sc p y x || okCc sc y x)))
    | _ => false)
  | .unp is e, st => (match st with
    | .Assign [.Tuple ts _ _] x _ => T.cm && tgsB true N sc is ts && okV T k N sc false e x && notComp x && noTup x
    | _ => false)
  | .fset c j o e, st => (match st with
    | .Assign [.Attribute y fn _] x _ => decide (c < T.fl.length) && decide ((T.fl.getD c [])[j]? = some fn) && okV T k N sc false o y && okV T k N sc false e x
    | _ => false)
  | .sset o i e, st => (match st with
    | .Assign [.Subscript y z _] x _ => noSlice z && okV T k N sc false o y && okV T k N sc false i z && okV T k N sc false e x
    | _ => false)
  | .exp e, st => (match st with
    | .Expr x _ => notComp x && okV T k N sc false e x
    | _ => false)
  | .upd o e, st => (match st with
    | .Expr (.Call (.Attribute y m apos) [x] [] cpos) _ => decide (m = "update") && baseOk y && noStar x && (apos.endLine == cpos.line) && okV T k N sc false o y && okV T k N sc false e x
    | _ => false)
  | .mut none m o xs, st => (match st with
    | .Expr x _ => notComp x && okM T k N sc m o xs x
    | _ => false)
  | .mut (some i) m o xs, st => (match st with
    | .Assign [.Name y p] x _ => tgB true N sc i (.Name y p) && notComp x && okM T k N sc m o xs x
    | _ => false)
  | .ite c a b, st => (match st with
    | .If x ya yb _ => okV T k N sc true c x && okSs T a ya && okSs T b yb
    | _ => false)
  | .for_ p it src body, st => (match st with
    | .For tg iter yb [] _ => T.cm && noFold iter && patB true N sc p tg && okI T k N sc it (isTu p) src iter && okSs T body yb
    | _ => false)
  | .whl c body, st => (match st with
    | .While x yb [] _ => okV T k N sc true c x && okSs T body yb
    | _ => false)
  | .ret e, st => (match st with
    | .Return (some x) _ => okV T k N sc false e x
    | _ => false)
  | .retN, st => (match st with
    | .Return none _ => true
    | _ => false)
  | .pass, st => (match st with
    | .Pass _ => true
    | _ => false)
  | .brk, st => (match st with
    | .Break _ => true
    | _ => false)
  | .cnt, st => (match st with
    | .Continue _ => true
    | _ => false)
  | .nev, _ => true
  | .rse c [], st => (match st with
    | .Raise (some (.Call (.Name x _) [.Constant (.str _) _ _] [] _)) none _ => T.cm && decide (0 < T.xn) && glB sc x && decide (T.xc.lookup x = some c) && T.x0.contains c
    | _ => false)
  | .rse c (e :: es), st => (match st with
    | .Raise (some (.Call (.Name x _) [y] [] _)) none _ => T.cm && decide (0 < T.xn) && glB sc x && decide (T.xc.lookup x = some c) && T.x1.contains c && es.isEmpty && noStar y && okV T k N sc false e y
    | _ => false)
  | .tryx c (some i) body suite, st => (match st with
    | .Try yb [.ExceptHandler (some (.Name x _)) (some en) (y0 :: ys) _] [] [] _ => T.cm && decide (0 < T.xn) && glB sc x && decide (T.xc.lookup x = some c) && decide (N[i]? = some en) && decide (sc.names.lookup en = some .local) && okSs T body yb && okSs T.cold suite (y0 :: ys)
    | _ => false)
  | .tryx _ none _ _, _ => false
def okSs (T : Tb) : List St → List Stmt → Bool
  | [], ys => ys.isEmpty
  | s :: ss, ys => (match ys with
    | [] => false
    | y :: ys => okS T s y && okSs T ss ys)
end
end
structure FitsD (X : Cx) (G : Gm) (T : Tb) (P : Pg) (k : Nat) (Wx : WX) : Prop extends Fits X G T P k Wx where
  fn : ∀ x, X.fn x = true
  own : PassesOwn (model X.prog X.w) X.A X.env X.xe
  tk : Takes X Wx
  stk : T.cm = true → X.stack = X.env :: X.outer ∧ X.env.frame = some X.env.locals ∧ X.ex = []
  kind : X.env.scope.kind = .function
section
variable {X : Cx} {G : Gm} {T : Tb} {P : Pg} {k n : Nat} {Wx : WX} {N : List Str} {ex : Ex} {e : Expr} {t : Bool} {sc : Scope}
theorem okM_ok {m : MM} {o : Ex} {xs : List Ex} (F : Fits X G T P k Wx) (hs : X.env.scope = sc) (hN : X.N = N) (h : okM T k N sc m o xs e = true) : PE X e (tMut G Wx P m o xs) := by
  unfold okM at h
  split at h
  · rename_i y n apos es pos
    simp only [Bool.and_eq_true, decide_eq_true_eq] at h
    obtain ⟨⟨⟨⟨⟨⟨⟨h1, h2⟩, h3⟩, h4⟩, h5⟩, h6⟩, h7⟩, h8⟩ := h
    subst h1
    have ro := (okV_ok o sc false _ h7 X Wx F hs hN).1 rfl
    have ra := okL_ok xs sc false _ h8 X Wx F hs hN
    unfold mmArgs at h2
    split at h2
    · exact pe_mut F.cxt .append ro (ra.args rfl).2.2.1 h4 h3 h5 h6 (.inl rfl)
    · exact pe_mut F.cxt .popAt ro (ra.args rfl).2.2.1 h4 h3 h5 h6 (.inr rfl)
    · have := ra.nil rfl
      subst this
      exact pe_mut0 F.cxt .pop ro h3 h6 (.inl rfl)
    · have := ra.nil rfl
      subst this
      exact pe_mut0 F.cxt .clear ro h3 h6 (.inr (.inl rfl))
    · have := ra.nil rfl
      subst this
      exact pe_mut0 F.cxt .reverse ro h3 h6 (.inr (.inr rfl))
    · cases h2
  · cases h
theorem tg_name {i : Nat} {y : Str} {p : Pos} (fn : ∀ x, X.fn x = true) (h : tgB true X.N X.env.scope i (.Name y p) = true) : X.N[i]? = some y ∧ Loc X.env.scope y ∧ X.fn y = true := by
  have h : (nmOk y && decide (X.N[i]? = some y) && locB true X.env.scope y) = true := h
  rw [Bool.and_eq_true, Bool.and_eq_true] at h
  have h2 := h.2
  unfold locB at h2
  split at h2
  · rename_i z
    exact ⟨of_decide_eq_true h.1.2, .inl z, fn y⟩
  · rename_i z
    exact ⟨of_decide_eq_true h.1.2, .inr z, fn y⟩
  · cases h2
theorem sw_cell {elt : Expr} {gs : List Comprehension} {scope : Scope} {pos py : Pos} {y : Str} {l : Nat} {env : PySem.Env} (hy : env.scope.names.lookup y = some .cell) : swapsWith (.ListComp elt gs scope pos) (some (.Name y py)) l env = pure false := by
  have ky : env.kindOf y = some .cell := hy
  unfold swapsWith
  simp only [ky]
  cases h : (env.blockKind == .function) <;> rfl
theorem asgC_ok {i : Nat} {y : Str} {p pos : Pos} (F : FitsD X G T P k Wx) (hs : X.env.scope = sc) (hN : X.N = N) (ht : tgB true N sc i (.Name y p) = true) (h : okV T k N sc false ex e = true) (hx : isCompX ex = true) (hc : okCg sc p y e = true) : PS X (.Assign [.Name y p] e pos) (tS G Wx P n (.asg i ex)) := by
  unfold okCg at hc
  split at hc
  · rename_i elt gens scope cpos
    rw [← hs, ← hN] at ht
    obtain ⟨t1, t2, t3⟩ := tg_name F.fn ht
    simp only [Bool.and_eq_true, Bool.not_eq_true', decide_eq_true_eq] at hc
    obtain ⟨⟨c1, c2⟩, c3⟩ := hc
    cases ex <;> first | (cases hx; done) | unfold okV at h
    case comp ee p' it src cond own =>
      split at h
      · rename_i heq
        cases heq
        simp only [Bool.and_eq_true] at h
        obtain ⟨⟨⟨⟨⟨⟨⟨h0, h1⟩, h2⟩, h3⟩, h4⟩, h5⟩, h6⟩, h7⟩ := h
        have key : own = (ownN N own).map (·.2) := ownN_map.symm
        have hp : ∀ i ∈ patIs p', i ∈ (ownN N own).map (·.2) := fun i hi => by
          rw [ownN_map]
          have := List.all_eq_true.mp h5 i hi
          simpa using this
        have ok : BlkOk X.N X.env.scope scope (ownN N own) := by
          rw [hN, hs]
          exact blkOk_by h3
        have hI := fun tg ht => okI_ok src sc it _ _ h2 X Wx F.toFits hs hN tg ht
        rw [key]
        refine s_asgC F.cxt (F.calm h0) t1 (by rw [hs]; exact c3) F.kind c1 c2 (hI _ (tu_of h4)) ok (fun s H C cl fp => ?_) (fun s H C cl fp => ?_) (fun s H C cl fp => ?_) hp h1
        · refine pat_ok (d := false) (F.blk s H scope C cl fp).cxt ((F.blk s H scope C cl fp).calm h0) (fun z => by cases z) ?_
          show patB false X.N (relS scope X.env.scope) _ _ = true
          rw [hN, hs]
          exact h4
        · exact okC_ok cond _ _ h6 _ _ (F.blk s H scope C cl fp) (by show relS scope X.env.scope = _; rw [hs]) hN
        · exact (okV_ok ee _ false _ h7 _ _ (F.blk s H scope C cl fp) (by show relS scope X.env.scope = _; rw [hs]) hN).1 rfl
      · cases h
  · cases hc
mutual
theorem okS_ok : ∀ (st : St) (T : Tb) (y : Stmt), okS k N sc T st y = true → ∀ (X : Cx) (Wx : WX), FitsD X G T P k Wx → X.env.scope = sc → X.N = N → PS X y (tS G Wx P n st)
  | .asg i e, T, y, h, X, Wx, F, hs, hN => by
    unfold okS at h
    split at h
    · simp only [Bool.and_eq_true, Bool.or_eq_true] at h
      obtain ⟨⟨h1, h2⟩, h3⟩ := h
      rcases h3 with h3 | h3
      · rw [← hs, ← hN] at h1
        obtain ⟨t1, t2, t3⟩ := tg_name F.fn h1
        exact s_asg F.cxt t1 t2 (.inl t3) ((okV_ok e sc false _ h2 X Wx F.toFits hs hN).1 rfl) h3
      · rcases h3.2 with h4 | h4
        · exact asgC_ok F hs hN h1 h2 h3.1 h4
        · unfold okCc at h4
          split at h4
          · rw [decide_eq_true_eq, ← hs] at h4
            rw [← hs, ← hN] at h1
            obtain ⟨t1, t2, t3⟩ := tg_name F.fn h1
            exact psImp (ps_set F.cxt.nd t1 t2 (peR ((okV_ok e sc false _ h2 X Wx F.toFits hs hN).1 rfl)) (sw_cell h4) (.inl t3)) fun D t H h => asg_imp h
          · cases h4
    · cases h
  | .unp is e, T, y, h, X, Wx, F, hs, hN => by
    unfold okS at h
    split at h
    · simp only [Bool.and_eq_true] at h
      obtain ⟨⟨⟨⟨h0, h1⟩, h2⟩, h3⟩, h4⟩ := h
      obtain ⟨a, b⟩ := assign_names (env := X.env) h1
      rw [← hs, ← hN] at h1
      exact s_unp F.cxt (F.calm h0) ((okV_ok e sc false _ h2 X Wx F.toFits hs hN).1 rfl) (tgs_ok F.nd (fun _ => F.fn) h1) a b h3 h4
    · cases h
  | .fset c j o e, T, y, h, X, Wx, F, hs, hN => by
    unfold okS at h
    split at h
    · simp only [Bool.and_eq_true, decide_eq_true_eq] at h
      obtain ⟨⟨⟨h1, h2⟩, h3⟩, h4⟩ := h
      obtain ⟨f1, f2, f3, f4, f5⟩ := F.st.fl c h1
      rw [← f1] at h2
      exact s_fset F.cxt ((okV_ok o sc false _ h3 X Wx F.toFits hs hN).1 rfl) ((okV_ok e sc false _ h4 X Wx F.toFits hs hN).1 rfl) h2 f2 f3 f4 (f5 _ (List.mem_of_getElem? h2))
    · cases h
  | .sset o i e, T, y, h, X, Wx, F, hs, hN => by
    unfold okS at h
    split at h
    · simp only [Bool.and_eq_true] at h
      obtain ⟨⟨⟨h1, h3⟩, h4⟩, h5⟩ := h
      exact s_sset F.cxt ((okV_ok e sc false _ h5 X Wx F.toFits hs hN).1 rfl) ((okV_ok o sc false _ h3 X Wx F.toFits hs hN).1 rfl) ((okV_ok i sc false _ h4 X Wx F.toFits hs hN).1 rfl) h1
    · cases h
  | .exp e, T, y, h, X, Wx, F, hs, hN => by
    unfold okS at h
    split at h
    · simp only [Bool.and_eq_true] at h
      exact s_exp ((okV_ok e sc false _ h.2 X Wx F.toFits hs hN).1 rfl) h.1
    · cases h
  | .upd o e, T, y, h, X, Wx, F, hs, hN => by
    unfold okS at h
    split at h
    · simp only [Bool.and_eq_true, decide_eq_true_eq] at h
      obtain ⟨⟨⟨⟨⟨h1, h2⟩, h3⟩, h4⟩, h5⟩, h6⟩ := h
      subst h1
      exact s_upd F.cxt ((okV_ok o sc false _ h5 X Wx F.toFits hs hN).1 rfl) ((okV_ok e sc false _ h6 X Wx F.toFits hs hN).1 rfl) h2 h3 h4
    · cases h
  | .mut none m o xs, T, y, h, X, Wx, F, hs, hN => by
    unfold okS at h
    split at h
    · simp only [Bool.and_eq_true] at h
      exact s_mut (okM_ok F.toFits hs hN h.2) h.1
    · cases h
  | .mut (some i) m o xs, T, y, h, X, Wx, F, hs, hN => by
    unfold okS at h
    split at h
    · simp only [Bool.and_eq_true] at h
      obtain ⟨⟨h1, h2⟩, h3⟩ := h
      rw [← hs, ← hN] at h1
      obtain ⟨t1, t2, t3⟩ := tg_name F.fn h1
      exact s_mutT F.cxt t1 t2 (.inl t3) (okM_ok F.toFits hs hN h3) h2
    · cases h
  | .ite c a b, T, y, h, X, Wx, F, hs, hN => by
    unfold okS at h
    split at h
    · simp only [Bool.and_eq_true] at h
      obtain ⟨⟨h1, h2⟩, h3⟩ := h
      exact s_ite ((okV_ok c sc true _ h1 X Wx F.toFits hs hN).2 rfl) (okSs_ok a T _ h2 X Wx F hs hN) (okSs_ok b T _ h3 X Wx F hs hN)
    · cases h
  | .for_ p it src body, T, y, h, X, Wx, F, hs, hN => by
    unfold okS at h
    split at h
    · simp only [Bool.and_eq_true] at h
      obtain ⟨⟨⟨⟨h0, h1⟩, h2⟩, h3⟩, h4⟩ := h
      rw [← hs, ← hN] at h2
      exact s_for F.cxt (F.calm h0) F.own (okI_ok src sc it _ _ h3 X Wx F.toFits hs hN _ (tu_of h2)) (pat_ok F.cxt (F.calm h0) (fun _ => F.fn) h2) (okSs_ok body T _ h4 X Wx F hs hN) (no_fold h1)
    · cases h
  | .whl c body, T, y, h, X, Wx, F, hs, hN => by
    unfold okS at h
    split at h
    · simp only [Bool.and_eq_true] at h
      exact s_whl F.own ((okV_ok c sc true _ h.1 X Wx F.toFits hs hN).2 rfl) (okSs_ok body T _ h.2 X Wx F hs hN)
    · cases h
  | .ret e, T, y, h, X, Wx, F, hs, hN => by
    unfold okS at h
    split at h
    · exact s_ret ((okV_ok e sc false _ h X Wx F.toFits hs hN).1 rfl)
    · cases h
  | .retN, T, y, h, X, Wx, F, hs, hN => by
    unfold okS at h
    split at h
    · exact s_retN
    · cases h
  | .pass, T, y, h, X, Wx, F, hs, hN => by
    unfold okS at h
    split at h
    · exact s_pass
    · cases h
  | .brk, T, y, h, X, Wx, F, hs, hN => by
    unfold okS at h
    split at h
    · exact s_brk
    · cases h
  | .cnt, T, y, h, X, Wx, F, hs, hN => by
    unfold okS at h
    split at h
    · exact s_cnt
    · cases h
  | .nev, T, y, h, X, Wx, F, hs, hN => s_nev
  | .rse c [], T, y, h, X, Wx, F, hs, hN => by
    unfold okS at h
    split at h
    · simp only [Bool.and_eq_true, decide_eq_true_eq] at h
      obtain ⟨⟨⟨⟨h0, h1⟩, h2⟩, h3⟩, h4⟩ := h
      rw [← hs] at h2
      obtain ⟨a1, b1, c1⟩ := gl_ok h2
      exact s_rse0 F.tk (F.calm h0) (F.st.xs h1) (F.st.x0 c (by simpa using h4)) (F.st.xc _ _ h3).2 a1 b1
    · cases h
  | .rse c (e :: es), T, y, h, X, Wx, F, hs, hN => by
    unfold okS at h
    split at h
    · simp only [Bool.and_eq_true, decide_eq_true_eq] at h
      obtain ⟨⟨⟨⟨⟨⟨⟨h0, h1⟩, h2⟩, h3⟩, h4⟩, h5⟩, h6⟩, h7⟩ := h
      cases es with
      | cons _ _ => cases h5
      | nil =>
        rw [← hs] at h2
        obtain ⟨a1, b1, c1⟩ := gl_ok h2
        obtain ⟨f1, qn, RT⟩ := F.st.x1 c (by simpa using h4)
        exact s_rse1 F.tk (F.calm h0) (F.st.xs h1) RT (F.room h0) (F.st.xc _ _ h3).2 a1 b1 ((okV_ok e sc false _ h7 X Wx F.toFits hs hN).1 rfl) h6
    · cases h
  | .tryx c (some i) body suite, T, y, h, X, Wx, F, hs, hN => by
    unfold okS at h
    split at h
    · rename_i yb x xp en y0 ys hp tp
      simp only [Bool.and_eq_true, decide_eq_true_eq] at h
      obtain ⟨⟨⟨⟨⟨⟨⟨h0, h1⟩, h2⟩, h3⟩, h4⟩, h5⟩, h6⟩, h7⟩ := h
      rw [← hs] at h2
      obtain ⟨a1, b1, c1⟩ := gl_ok h2
      obtain ⟨k1, k2, k3⟩ := F.stk h0
      have S := F.st.xs h1
      obtain ⟨r1, r2⟩ := F.st.xc _ _ h3
      refine s_tryx F.cxt k1 k2 k3 (by rw [hN]; exact h4) (by rw [← hs] at h5; exact h5) F.tk (F.st.hK ▸ S) r1 a1 b1 r2 (fun W pn xe tk po => ?_) (fun e0 pn => ?_)
      · exact okSs_ok body T _ h6 _ _ { st := F.st, calm := F.calm, nd := F.nd, room := F.room, hu := F.hu, pass := passAt tk, fn := F.fn, own := po, tk := tk, stk := F.stk, kind := F.kind } hs hN
      · exact okSs_ok suite T.cold _ h7 _ _ { st := F.st.cold, calm := fun z => (by cases z), nd := F.nd, room := fun z => (by cases z), hu := F.hu, pass := passAt takes0, fn := F.fn, own := PassesOwn.never, tk := takes0, stk := fun z => (by cases z), kind := F.kind } hs hN
    · cases h
  | .tryx _ none _ _, T, y, h, X, Wx, F, hs, hN => by unfold okS at h; cases h
theorem okSs_ok : ∀ (sts : List St) (T : Tb) (ys : List Stmt), okSs k N sc T sts ys = true → ∀ (X : Cx) (Wx : WX), FitsD X G T P k Wx → X.env.scope = sc → X.N = N → PSs X ys (tSs' G Wx P n sts)
  | [], T, ys, h, X, Wx, F, hs, hN => by
    unfold okSs at h
    cases ys with
    | cons _ _ => cases h
    | nil => exact ss_nil
  | s :: ss, T, ys, h, X, Wx, F, hs, hN => by
    unfold okSs at h
    cases ys with
    | nil => cases h
    | cons y ys =>
      simp only [Bool.and_eq_true] at h
      exact ss_cons (okS_ok s T _ h.1 X Wx F hs hN) (okSs_ok ss T _ h.2 X Wx F hs hN)
end
end
end Lk

namespace Lk
open PySem L2 PyProof.Rows

/-! ### a def of the text -/
/-! .. with p parameters and m slots in all -/
def denP (P : Pg) (n p m : Nat) (body : List St) : Den := fun cs S => if cs.length = p then denB P n m body cs S else none
theorem denP_len {P : Pg} {n p m : Nat} {body : List St} : ∀ cs S r, denP P n p m body cs S = some r → cs.length = p := fun cs S r h => by
  unfold denP at h
  split at h
  · assumption
  · cases h
/-! out of a def: no frame any more -/
def outR (r : Option Role) : Option Role := match r with
  | some (.slot _) => none
  | some (.rds _) => none
  | r => r
def Wd.out (W : Wd) : Wd := ⟨fun a => outR (W.g a), W.i, W.H, W.k⟩
section
variable {G : Gm} {W W' : Wd} {S : Sto} {a : Addr} {d : D} {v : V}
theorem out_fr (a : Addr) : ¬ frameR (W.out.g a) := by
  show ¬ frameR (outR (W.g a))
  cases W.g a with
  | none => exact id
  | some r => cases r <;> exact id
theorem out_eq {r : Option Role} (h : ¬ frameR r) : outR r = r := by
  cases r with
  | none => rfl
  | some r => cases r <;> first | rfl | exact absurd trivial h
theorem out_of {r : Role} (h : outR (W.g a) = some r) : W.g a = some r := by
  cases q : W.g a with
  | none => rw [q] at h; cases h
  | some r' => rw [q] at h; cases r' <;> first | exact h | cases h
theorem out_fz : Stay W.fz W.out.fz := by
  refine ⟨fun l h => ⟨rfl, ?_⟩, fun _ _ e => e, fun a o z e => ⟨?_, e⟩⟩
  · have h : W.g (W.i l) = some (.box l) := h
    show outR (W.g (W.i l)) = some (.box l)
    rw [h]
    rfl
  · have z : W.g a = some .fro := z
    show outR (W.g a) = some .fro
    rw [z]
    rfl
theorem Rel.out (R : Rel G W S) : Rel G W.out S := by
  refine ⟨fun l o e => ?_, fun l hl z => R.top l hl (out_of z), fun a r e => R.trk a r (out_of e)⟩
  obtain ⟨hb, x⟩ := R.box l o e
  have hb' : W.out.B l := (out_fz.io l hb).2
  refine ⟨hb', x.stay out_fz hb rfl fun c k v q => ?_⟩
  cases c with
  | fz d => exact RZ.stay out_fz q
  | own d =>
    obtain ⟨a, e, g, l⟩ := q
    exact ⟨a, e, by show outR _ = _; rw [g]; rfl, l.stay out_fz rfl⟩
  | rd d =>
    obtain ⟨a, e', e, g, l, kk⟩ := q
    exact ⟨a, e', e, by show outR _ = _; rw [g]; rfl, l.stay out_fz rfl, kk⟩
  | br d => exact q
theorem Evo.out (nf : ∀ a, ¬ frameR (W.g a)) (x : Evo true W W') : Evo true W W'.out := by
  refine ⟨x.io, x.tup, x.keep, fun a o e h => ?_, fun z => (nomatch z), x.there, x.lk, fun a l k e => ?_⟩
  · show outR (W'.g a) = W.g a
    rw [x.role a o e h]
    exact out_eq (nf a)
  · show outR (W'.g a) = _ ∨ outR (W'.g a) = _
    rcases x.fld a l k e with q | q <;> rw [q]
    · exact .inl rfl
    · exact .inr rfl
theorem fresh_slot {i : Nat} (nf : ∀ a, ¬ frameR (W.g a)) (x : Evo true W W') (h : W'.g a = some (.slot i)) : W.H a = none := by
  cases e : W.H a with
  | none => rfl
  | some o =>
    exfalso
    cases q : W.g a with
    | none =>
      have := x.role a o e (by rw [q]; trivial)
      rw [q, h] at this
      cases this
    | some r =>
      cases r with
      | slot j => exact nf a (by rw [q]; trivial)
      | rds j => exact nf a (by rw [q]; trivial)
      | fld l k =>
        rcases x.fld a l k q with z | z <;> rw [h] at z <;> cases z
      | _ =>
        have := x.role a o e (by rw [q]; trivial)
        rw [q, h] at this
        cases this
theorem paired_at {α β : Type} {F : α → β → Prop} : ∀ {xs : List α} {ys : List β} {i : Nat} {x : α}, Paired F xs ys → xs[i]? = some x → ∃ y, ys[i]? = some y ∧ F x y
  | _, _, i, x, .nil, h => by simp at h
  | _, _, 0, x, .cons (a := a) (b := b) h1 _, h => by
    simp at h
    subst h
    exact ⟨b, by simp, h1⟩
  | _, _, i + 1, x, .cons _ hs, h => by
    obtain ⟨y, h1, h2⟩ := paired_at (i := i) hs (by simpa using h)
    exact ⟨y, by simpa using h1, h2⟩
theorem start_fr {N : List Str} {cs : List Cell} {vs : List V} (R : Rel G W S) (pa : Paired (ArgR G W) cs vs) : Fr G W ⟨cs.map some ++ List.replicate (N.length - cs.length) none, S⟩ (start N vs) := by
  have hl := Paired.length pa
  refine ⟨R, by simp [L2.start, hl], fun i c e => ?_⟩
  have e : (cs.map some ++ List.replicate (N.length - cs.length) none)[i]? = some (some c) := e
  show ∃ v, (vs.map some ++ List.replicate (N.length - vs.length) none)[i]? = some (some v) ∧ _
  by_cases hi : i < cs.length
  · rw [List.getElem?_append_left (by simpa using hi), List.getElem?_map] at e
    cases q : cs[i]? with
    | none => rw [q] at e; cases e
    | some c' =>
      rw [q] at e
      cases e
      obtain ⟨v, h1, h2⟩ := paired_at pa q
      refine ⟨v, by rw [List.getElem?_append_left (by rw [List.length_map, ← hl]; exact hi), List.getElem?_map, h1]; rfl, ?_⟩
      cases c with
      | fz d => exact h2
      | br d => exact h2
      | own d => exact h2.elim
      | rd d => exact h2.elim
  · exfalso
    rw [List.getElem?_append_right (by simpa using hi)] at e
    have := List.mem_of_getElem? e
    cases List.eq_of_mem_replicate this
end
/-! a def as it stands behind the top, whatever its defaults -/
structure FunL (K : PySem.W.Frag) (x qual : Str) (st : Stmt) (f : Addr) (fd : FuncData) : Prop where
  ex : ∃ (oc : Value) (od : Option Addr) (dV kV doc pm : Value) (an : Option Addr) (cdv ct : Value) (osl : Array (Option Value)),
    fd = PySem.W.fnOf x qual (defArgs st) (defBody st) (defScope st) dV kV doc pm an cdv ct ∧ K.lookup f = some ⟨oc, od, .func fd, osl⟩ ∧ PySem.W.codeIn K cdv qual = true
  kp : PySem.W.keepIn K (.ref f) = true
theorem FunL.okX {P : Program} {w : World} {K : PySem.W.Frag} {mg : Str → Option Value} {base : Heap} {x qual : Str} {st : Stmt} {f : Addr} {fd : FuncData} {N ps : List Str} {k : Nat} {sp : Sp} (F : FunL K x qual st f fd) (S : FnScope N ps (defScope st)) (len : ∀ vs H Q E, sp vs H Q E → vs.length = ps.length)
    (hbody : ∀ (cdv : Value) (A : Around) (outer : List PySem.Env) (s : Shared) (H : Hp) (vs : List V) (Q : VK) (E : XK), L2.Room k (A.deeper (envOfC qual (defScope st) s.heap.objs.size f cdv)) → sp vs H Q E →
      ∃ t, PSs (cxOf (L2.CX P w) P w K mg base N qual (defScope st) f cdv A outer s H E) (defBody st) t ∧ t { nx := fun _ H' => Q .non H', rt := Q } (start N vs) H) : FnOk P w K mg base (L2.CX P w) (k + 1) f fd ps sp := by
  obtain ⟨oc, od, dV, kV, doc, pm, an, cdv, ct, osl, rfl, lk, hcd⟩ := F.ex
  exact fn_of lk hcd S len fun A outer s H vs Q E hr hsp => hbody cdv A outer s H vs Q E hr hsp
theorem def_ok {prog : Program} {w : World} {K : PySem.W.Frag} {mg : Str → Option Value} {base : Heap} {G : Gm} {T : Tb} {P : Pg} {k n : Nat} {x qual : Str} {st : Stmt} {f : Addr} {fd : FuncData} {N ps : List Str} {body : List St} {p m : Nat}
    (Z : Stat prog w K mg base G T P k) (F : FunL K x qual st f fd) (S : FnScope N ps (defScope st)) (hp : ps.length = p) (hm : N.length = m) (ok : okSs k N (defScope st) T body (defBody st) = true) :
    FnOk prog w K mg base (L2.CX prog w) (k + 1) f fd ps (spD G (denP P n p m body)) := by
  subst hp
  subst hm
  refine F.okX S (spD_len denP_len) fun cdv A outer s H vs Q E hr hsp => ?_
  have FT : FitsD (cxOf (L2.CX prog w) prog w K mg base N qual (defScope st) f cdv A outer s H E) G T P k (fun cls d _ H' => E cls d H') :=
    { st := Z, calm := fun _ => rfl, nd := S.nd, room := fun _ => hr, hu := by have := hr.un; show (A.deeper _).units + 65 < _; omega, pass := fun σ => passAt (takes_of (E := E) (E₁ := fun e' s'' => L2.CX prog w outer H s E e' s'') rfl rfl rfl rfl) σ, fn := fun _ => rfl, own := passes_of (K := fun e s'' => L2.CX prog w outer H s E e s'') rfl, tk := takes_of (E := E) (E₁ := fun e' s'' => L2.CX prog w outer H s E e' s'') rfl rfl rfl rfl, stk := fun _ => ⟨rfl, rfl, rfl⟩, kind := S.kind }
  refine ⟨_, okSs_ok (n := n) body T _ ok _ _ FT rfl rfl, ?_⟩
  obtain ⟨W, S0, cs, r, S', hH, R, nf, pa, e, q⟩ := hsp
  subst hH
  have hc := denP_len _ _ _ e
  unfold denP at e
  rw [if_pos hc] at e
  unfold denB at e
  have FR := start_fr (N := N) R pa
  cases q1 : execs P n body ⟨cs.map some ++ List.replicate (N.length - cs.length) none, S0⟩ with
  | none => rw [q1] at e; cases e
  | some z =>
    obtain ⟨o, s'⟩ := z
    refine ⟨W, _, o, s', rfl, FR, q1, ?_⟩
    rw [q1] at e
    cases o with
    | ex c p =>
      cases e
      exact fun W' t' dx x F' hx => q W'.out dx (x.out nf) F'.rel.out out_fr (by
        cases p with
        | none => cases dx with
          | none => trivial
          | some _ => exact hx
        | some d => cases dx with
          | none => exact hx
          | some a =>
            obtain ⟨v, g1, h1, h2⟩ := hx
            exact ⟨v, (out_fz.z _ _ g1 h1).1, h1, RZ.stay out_fz h2⟩)
    | ok fl =>
      cases fl with
      | next =>
        cases e
        exact fun W' t' x F' => q W'.out .non (x.out nf) F'.rel.out out_fr (by exact RZ.non)
      | brk => cases e
      | cnt => cases e
      | ret c =>
        cases e
        intro W' t' v x F' hv
        refine q W'.out v (x.out nf) F'.rel.out out_fr ?_
        cases c with
        | fz d => exact RZ.stay out_fz hv
        | own d =>
          obtain ⟨a, e1, l, h⟩ := hv
          have hn : W.H a = none := by
            rcases h with ⟨i, h⟩ | ⟨_, h⟩
            · exact fresh_slot nf x h
            · exact h
          refine ⟨a, e1, ?_, l.stay out_fz rfl, hn⟩
          show outR (W'.g a) = none
          rcases h with ⟨i, h⟩ | ⟨h, _⟩ <;> rw [h] <;> rfl
        | rd d => exact hv.elim
        | br d => exact hv.elim
end Lk

namespace Lk
open PySem L2 PyProof.Rows

/-! ### the whole text -/
structure Df where
  x : Str
  qual : Str
  st : Stmt
  N : List Str
  ps : List Str
  body : List St
/-! what the first i defs do -/
def PGn (con : Nat → D) (n : Nat) (tab : List Df) : Nat → Pg
  | 0 => ⟨fun _ _ _ => none, con⟩
  | i + 1 => match tab[i]? with
    | none => PGn con n tab i
    | some d => ⟨fun j => if j = i then denP (PGn con n tab i) n d.ps.length d.N.length d.body else (PGn con n tab i).F j, con⟩
theorem PGn_con {con : Nat → D} {n : Nat} {tab : List Df} : ∀ i, (PGn con n tab i).con = con
  | 0 => rfl
  | i + 1 => by
    unfold PGn
    split
    · exact PGn_con i
    · rfl
theorem PGn_new {con : Nat → D} {n : Nat} {tab : List Df} {i : Nat} {d : Df} (h : tab[i]? = some d) : (PGn con n tab (i + 1)).F i = denP (PGn con n tab i) n d.ps.length d.N.length d.body := by
  rw [PGn, h]
  exact if_pos rfl
theorem PGn_old {con : Nat → D} {n : Nat} {tab : List Df} {i j : Nat} (h : j < i) : (PGn con n tab (i + 1)).F j = (PGn con n tab i).F j := by
  rw [PGn]
  split
  · rfl
  · exact if_neg (by omega)
/-! a def, by its place -/
def Fd (con : Nat → D) (n : Nat) (tab : List Df) (i : Nat) : Den := (PGn con n tab (i + 1)).F i
theorem PGn_F {con : Nat → D} {n : Nat} {tab : List Df} : ∀ {i j : Nat}, j < i → (PGn con n tab i).F j = Fd con n tab j
  | 0, _, h => absurd h (Nat.not_lt_zero _)
  | i + 1, j, h => by
    by_cases e : j = i
    · subst e; rfl
    · rw [PGn_old (by omega), PGn_F (by omega)]
/-! what the top has written -/
structure FnAt (K : PySem.W.Frag) (d : Df) (f : Addr) : Prop where
  ex : ∃ fd, FunL K d.x d.qual d.st f fd ∧ Binds K fd d.ps [] ∧ (d.x = "law" → ∀ us : List Value, us.length = d.ps.length → bindArgs fd ⟨us, []⟩ = pure (d.ps.zip us))
def AllF (K : PySem.W.Frag) (tab : List Df) (fs : List Addr) : Prop := Paired (FnAt K) tab fs
structure Top (K : PySem.W.Frag) (mg : Str → Option Value) (w : World) (G : Gm) (T : Tb) (tab : List Df) (con : Nat → D) (fs : List Addr) : Prop where
  hK : K = G.K
  hw : w = G.w
  all : AllF K tab fs
  fn : ∀ e ∈ T.fn, e.2.2 = e.2.1 + 1 ∧ e.2.1 < tab.length ∧ mg e.1 = some (.ref (fs.getD e.2.1 0))
  mt : ∀ e ∈ T.mt, e.2.2.2 = e.2.2.1 + 1 ∧ e.2.2.1 < tab.length ∧ Cls K (G.C e.1) ∧ Meth K (G.C e.1) e.2.1 (fs.getD e.2.2.1 0)
  cl : ∀ e ∈ T.cl, e.2.2.2 = e.2.2.1 + 1 ∧ e.2.2.1 < tab.length ∧ mg e.1 = some (.ref (G.C e.2.1)) ∧ Mk K (G.C e.2.1) (fs.getD e.2.2.1 0)
  co : ∀ e ∈ T.co, ∃ u v, mg e.1 = some u ∧ RelV v u ∧ ∀ U, RZ G U (con e.2) v
  bt : ∀ x ∈ builtinNames, mg x = none
  fl : ∀ c, c < T.fl.length → (G.fl c) = T.fl.getD c [] ∧ (G.fl c).Nodup ∧ (G.fl c).length < 1000 ∧ Cls K (G.C c) ∧ ∀ x ∈ G.fl c, NoAttr K (G.C c) x
  xs : 0 < T.xn → XcS K G.E T.xn
  xc : ∀ e ∈ T.xc, e.2 < T.xn ∧ mg e.1 = some (.ref (G.E e.2))
  x0 : ∀ c ∈ T.x0, PySem.W.excIn K (G.E c) [.type "ValueError", .type "Exception", .type "BaseException", .type "object"] "ValueError.__new__" = true
  x1 : ∀ c ∈ T.x1, ∃ f1 qn, RowTxt K (G.E c) f1 qn
theorem lookup_mem {α β : Type} [BEq α] [LawfulBEq α] {x : α} {y : β} : ∀ {l : List (α × β)}, l.lookup x = some y → (x, y) ∈ l
  | [], h => by cases h
  | (a, b) :: l, h => by
    rw [List.lookup_cons] at h
    split at h
    · rename_i e
      cases h
      rw [eq_of_beq e]
      exact List.mem_cons_self
    · exact List.mem_cons_of_mem _ (lookup_mem h)
theorem mtLook_mem {c : Nat} {m : Str} {y : Nat × Nat} : ∀ {l : List (Nat × Str × Nat × Nat)}, mtLook c m l = some y → (c, m, y) ∈ l
  | [], h => by cases h
  | (c', m', f, z) :: l, h => by
    unfold mtLook at h
    split at h
    · rename_i e
      cases h
      rw [e.1, e.2]
      exact List.mem_cons_self
    · exact List.mem_cons_of_mem _ (mtLook_mem h)
theorem fa_nil {α : Type} {P : α → Prop} : ∀ e ∈ ([] : List α), P e := fun _ h => (nomatch h)
theorem fa_cons {α : Type} {P : α → Prop} {a : α} {l : List α} (h : P a) (hs : ∀ e ∈ l, P e) : ∀ e ∈ a :: l, P e := fun e he => by
  rcases List.mem_cons.mp he with rfl | q
  · exact h
  · exact hs e q
section
variable {prog : Program} {w : World} {K : PySem.W.Frag} {mg : Str → Option Value} {base : Heap} {G : Gm} {T : Tb} {tab : List Df} {con : Nat → D} {n : Nat} {fs : List Addr}
def Done (prog : Program) (w : World) (K : PySem.W.Frag) (mg : Str → Option Value) (base : Heap) (G : Gm) (tab : List Df) (con : Nat → D) (n : Nat) (fs : List Addr) (j : Nat) : Prop :=
  ∃ fd d, tab[j]? = some d ∧ PySem.W.keepIn K (.ref (fs.getD j 0)) = true ∧ Binds K fd d.ps [] ∧ FnOk prog w K mg base (L2.CX prog w) (j + 1) (fs.getD j 0) fd d.ps (spD G (Fd con n tab j))
theorem stat_of (Tp : Top K mg w G T tab con fs) {i : Nat} (h : ∀ j, j < i → j < tab.length → Done prog w K mg base G tab con n fs j) : Stat prog w K mg base G T (PGn con n tab i) i := by
  refine ⟨Tp.hK, Tp.hw, fun x f l e hl => ?_, fun c m f l e hl => ?_, fun x c f l e hl => ?_, fun x j e => ?_, Tp.bt, Tp.fl, Tp.xs, fun x c e => Tp.xc _ (lookup_mem e), Tp.x0, Tp.x1⟩
  · obtain ⟨h1, h2, h3⟩ := Tp.fn _ (lookup_mem e)
    dsimp only at h1 h2 h3
    obtain ⟨fd, d, e1, e2, e3, e4⟩ := h f (by omega) h2
    refine ⟨_, fd, d.ps, h3, e2, e3, ?_⟩
    rw [PGn_F (by omega : f < i)]
    exact e4.mono (by omega)
  · obtain ⟨h1, h2, h3, h4⟩ := Tp.mt _ (mtLook_mem e)
    dsimp only at h1 h2 h3 h4
    obtain ⟨fd, d, e1, e2, e3, e4⟩ := h f (by omega) h2
    refine ⟨_, fd, d.ps, h3, h4, e3, ?_⟩
    rw [PGn_F (by omega : f < i)]
    exact e4.mono (by omega)
  · obtain ⟨h1, h2, h3, h4⟩ := Tp.cl _ (lookup_mem e)
    dsimp only at h1 h2 h3 h4
    obtain ⟨fd, d, e1, e2, e3, e4⟩ := h f (by omega) h2
    refine ⟨_, fd, d.ps, h3, h4, e3, ?_⟩
    rw [PGn_F (by omega : f < i)]
    exact e4.mono (by omega)
  · rw [PGn_con]
    exact Tp.co _ (lookup_mem e)
/-! every def of the table keeps its promise -/
def okDf (T : Tb) (i : Nat) (d : Df) : Bool := okSs i d.N (defScope d.st) T d.body (defBody d.st)
def okTab (T : Tb) : Nat → List Df → Bool
  | _, [] => true
  | i, d :: ds => okDf T i d && okTab T (i + 1) ds
theorem okTab_at : ∀ {tab : List Df} {i j : Nat} {d : Df}, okTab T i tab = true → tab[j]? = some d → okDf T (i + j) d = true
  | [], _, _, _, _, h => by simp at h
  | d :: ds, i, 0, d', h, e => by
    unfold okTab at h
    rw [Bool.and_eq_true] at h
    simp at e
    subst e
    exact h.1
  | d :: ds, i, j + 1, d', h, e => by
    unfold okTab at h
    rw [Bool.and_eq_true] at h
    rw [show i + (j + 1) = i + 1 + j from by omega]
    exact okTab_at h.2 (by simpa using e)
theorem done_all (Tp : Top K mg w G T tab con fs) (sc : ∀ d ∈ tab, FnScope d.N d.ps (defScope d.st)) (ok : okTab T 0 tab = true) : ∀ i, ∀ j, j < i → j < tab.length → Done prog w K mg base G tab con n fs j
  | 0, j, h, _ => absurd h (Nat.not_lt_zero _)
  | i + 1, j, h, hl => by
    have ih := done_all Tp sc ok i
    by_cases e : j < i
    · exact ih j e hl
    · have e : j = i := by omega
      subst e
      have hd : tab[j]? = some tab[j] := List.getElem?_eq_getElem hl
      have Z := stat_of (n := n) Tp ih
      have okd := okTab_at ok hd
      rw [Nat.zero_add] at okd
      obtain ⟨f, h1, h2⟩ := paired_at Tp.all hd
      obtain ⟨fd, F, B, _⟩ := h2.ex
      have ef : fs.getD j 0 = f := by rw [List.getD_eq_getElem?_getD, h1]; rfl
      refine ⟨fd, tab[j], hd, by rw [ef]; exact F.kp, B, ?_⟩
      rw [ef]
      unfold Fd
      rw [PGn_new hd]
      exact def_ok Z F (sc _ (List.getElem_mem hl)) rfl rfl okd
end
end Lk

namespace Lk
open PySem L2 PyProof.Rows

/-! ### the law -/
theorem fnAt_mk {K : PySem.W.Frag} {d : Df} {f : Addr} {oc : Value} {od an : Option Addr} {osl : Array (Option Value)} {kV doc pm cdv ct : Value}
    (l : K.lookup f = some ⟨oc, od, .func (PySem.W.fnOf d.x d.qual (defArgs d.st) (defBody d.st) (defScope d.st) .none kV doc pm an cdv ct), osl⟩) (c : PySem.W.codeIn K cdv d.qual = true) (k : PySem.W.keepIn K (.ref f) = true)
    (h : ∀ (kV doc pm : Value) (an : Option Addr) (cdv ct : Value) (us : List Value), us.length = d.ps.length → bindArgs (PySem.W.fnOf d.x d.qual (defArgs d.st) (defBody d.st) (defScope d.st) .none kV doc pm an cdv ct) ⟨us, []⟩ = pure (d.ps.zip us)) : FnAt K d f :=
  ⟨_, ⟨⟨oc, od, .none, kV, doc, pm, an, cdv, ct, osl, rfl, l, c⟩, k⟩, .all (h kV doc pm an cdv ct), fun _ => h kV doc pm an cdv ct⟩
/-! .. with one default, which no call asks for -/
theorem fnAt_mkD {K : PySem.W.Frag} {d : Df} {f : Addr} {oc : Value} {od an : Option Addr} {osl : Array (Option Value)} {kV doc pm cdv ct dv tc : Value} {T : Addr} {td : Option Addr} {tn : Nat} {tsl : Array (Option Value)}
    (l : K.lookup f = some ⟨oc, od, .func (PySem.W.fnOf d.x d.qual (defArgs d.st) (defBody d.st) (defScope d.st) (.ref T) kV doc pm an cdv ct), osl⟩) (lT : K.lookup T = some ⟨tc, td, .seq #[dv] tn, tsl⟩) (c : PySem.W.codeIn K cdv d.qual = true) (k : PySem.W.keepIn K (.ref f) = true) (hx : d.x ≠ "law")
    (h : ∀ (T : Addr) (kV doc pm : Value) (an : Option Addr) (cdv ct dv : Value) (us : List Value), us.length = d.ps.length → ∃ k, bindArgs (PySem.W.fnOf d.x d.qual (defArgs d.st) (defBody d.st) (defScope d.st) (.ref T) kV doc pm an cdv ct) ⟨us, []⟩ = seqItems? (.ref T) >>= k ∧ k (some #[dv]) = pure (d.ps.zip us)) : FnAt K d f :=
  ⟨_, ⟨⟨oc, od, .ref T, kV, doc, pm, an, cdv, ct, osl, rfl, l, c⟩, k⟩, fun s us X hl => by
    rw [List.append_nil] at hl ⊢
    obtain ⟨k, e1, e2⟩ := h T kV doc pm an cdv ct dv us hl
    refine BindsTo.of_looks fun M => ?_
    rw [e1]
    exact looks_items X lT rfl (.of_pure e2), fun e => absurd e hx⟩
def spLaw (K : PySem.W.Frag) : Sp := fun vs H Q _ => ∃ (a : Addr) (ns : List Int), vs = [.ref a] ∧ Only H ∧ SqL K H a (ns.map V.int) ∧ ns.length ≤ 63 ∧ ∀ H', Q (.bl true) H'
theorem rz_ints {G : Gm} {U : Vw} : ∀ ns : List Int, RZs G U (ns.map D.int) (ns.map V.int)
  | [] => .nil
  | n :: ns => .cons (.int n) (rz_ints ns)
theorem law_imp {G : Gm} {f : Den} (h : ∀ ns : List Int, ns.length ≤ 63 → ∃ S', f [.fz (.lst (ns.map D.int))] [] = some (.ok (.fz (.bl true)), S')) (vs : List V) (H : Hp) (Q : VK) (E : XK) (z : spLaw G.K vs H Q E) : spD G f vs H Q E := by
  obtain ⟨a, ns, rfl, hO, hS, hl, k⟩ := z
  obtain ⟨S', e⟩ := h ns hl
  let W : Wd := ⟨fun b => match H b with | none => none | some _ => some .fro, fun _ => 0, H, fun _ _ => none⟩
  have hg : ∀ b o, H b = some o → W.g b = some .fro := fun b o e => by
    show (match H b with | none => none | some _ => some Role.fro) = _
    rw [e]
  have hn : ∀ b, W.g b = none ∨ ∃ o, H b = some o ∧ W.g b = some .fro := fun b => by
    cases q : H b with
    | none =>
      left
      show (match H b with | none => none | some _ => some Role.fro) = _
      rw [q]
    | some o => exact .inr ⟨o, rfl, hg b o q⟩
  refine ⟨W, [], [.fz (.lst (ns.map D.int))], _, S', rfl, ⟨fun l o e => (by simp at e), fun l _ hb => ?_, fun b r e => ?_⟩, fun b => ?_, .cons ?_ .nil, e, ?_⟩
  · have hb : W.g (W.i l) = some (.box l) := hb
    rcases hn (W.i l) with q | ⟨_, _, q⟩ <;> rw [q] at hb <;> cases hb
  · rcases hn b with q | ⟨o, q, _⟩
    · rw [q] at e; cases e
    · exact ⟨o, q⟩
  · rcases hn b with q | ⟨_, _, q⟩ <;> rw [q] <;> exact id
  · show RZ G W.fz (.lst (ns.map D.int)) (.ref a)
    refine .lst ?_ (rz_ints ns)
    rcases hS with q | q
    · left
      refine ⟨?_, q⟩
      rcases q with q | ⟨o, q⟩ <;> exact hg a _ q
    · exact .inr q
  · intro W' v _ _ _ hv
    have hv : RZ G W'.fz (.bl true) v := hv
    cases hv
    exact k W'.H
theorem ref_eq {m : Option Value} {a b : Addr} (h1 : m = some (.ref a)) (h2 : m = some (.ref b)) : some a = some b := by
  rw [h1] at h2
  cases h2
  rfl
theorem walk_lk {l : PySem.W.OpenLaw} {q : Program} {loose : List Str} {XP : (Str → Option Value) → Heap → Prop} {YP : World → Heap → Prop} {d : DefRec} {K : Params → PySem.W.Frag} {T : Tb} {tab : List Df} {con : Nat → D} {n iL : Nat} {dL : Df}
    (hn : l.most = some 63) (hdf : d.params.defaults = []) (hr : Room (iL + 1) callerA) (hY : ∀ (w : World) (h : Heap), YP w h → (K w.params).In h)
    (sc : ∀ d ∈ tab, FnScope d.N d.ps (defScope d.st)) (ok : okTab T 0 tab = true) (hL : tab[iL]? = some dL) (hps : dL.ps = [("script" : Str)]) (hxL : dL.x = "law")
    (plain : ∀ ns : List Int, ns.length ≤ 63 → ∃ S', Fd con n tab iL [.fz (.lst (ns.map D.int))] [] = some (.ok (.fz (.bl true)), S'))
    (F : ∀ (w : World) (mg : Str → Option Value) (fa : Addr) (h : Heap), (K w.params).In h → h.Ns mainGlobals mg → mg d.name = some (.ref fa) → ∃ (G : Gm) (fs : List Addr), Top (K w.params) mg w G T tab con fs ∧ fs[iL]? = some fa) :
    PySem.W.WalkO q loose XP YP l.row.toRowW d [] (fun f vs => PySem.call f vs) := by
  refine L2.walk_of (n := 63) (k := iL + 1) (x := "script") (CX := fun w => L2.CX l.prog w) (sp := fun w => spLaw (K w.params)) hn (by decide) hdf hr hY ?_ (fun w H a ns hl hO hS => ⟨a, ns, rfl, hO, hS, hl, fun _ => rfl⟩) ?_
  · intro w mg fa h KX hN hmg
    obtain ⟨G, fs, Tp, hf⟩ := F w mg fa h KX hN hmg
    have hi : iL < tab.length := (List.getElem?_eq_some_iff.mp hL).1
    obtain ⟨f, h1, h2⟩ := paired_at Tp.all hL
    rw [hf] at h1
    cases h1
    obtain ⟨fd, FF, _, hB⟩ := h2.ex
    have hB := hB hxL
    rw [hps] at hB
    refine ⟨fd, fun s v => .of_eq (hB [v] rfl), fun base _ _ => ?_⟩
    have ih := done_all (base := base) (n := n) (prog := l.prog) Tp sc ok iL
    have Z := stat_of (n := n) Tp ih
    have okd := okTab_at ok hL
    rw [Nat.zero_add] at okd
    have r := def_ok (base := base) (n := n) (prog := l.prog) Z FF (sc _ (List.mem_of_getElem? hL)) rfl rfl okd
    rw [hps] at r
    refine r.imp fun vs H Q E z => ?_
    have e : Fd con n tab iL = denP (PGn con n tab iL) n dL.ps.length dL.N.length dL.body := by
      unfold Fd
      exact PGn_new hL
    rw [hps] at e
    rw [← e]
    refine law_imp plain vs H Q E ?_
    rw [← Tp.hK]
    exact z
  · intro w H s e s' z
    obtain ⟨_, _, _, _, _, _, _, _, _, _, _, _, z⟩ := z
    exact z.elim
end Lk
namespace Lk
open PySem L2 PyProof.Rows
/-! ### the top, def by def -/
/-! what a def is: a function of the module, a method of a class, the one that makes a class -/
inductive Kd where
  | fn (x : Str) | mt (c : Nat) (m : Str) | cl (x : Str) (c : Nat)
deriving DecidableEq
def KdF (K : PySem.W.Frag) (mg : Str → Option Value) (C : Nat → Addr) (f : Addr) : Kd → Prop
  | .fn x => mg x = some (.ref f)
  | .mt c m => Meth K (C c) m f
  | .cl x c => mg x = some (.ref (C c)) ∧ Mk K (C c) f
inductive AllK (K : PySem.W.Frag) (mg : Str → Option Value) (C : Nat → Addr) : List Kd → List Df → List Addr → Prop
  | nil : AllK K mg C [] [] []
  | cons {k : Kd} {d : Df} {f : Addr} {ks : List Kd} {ds : List Df} {fs : List Addr} : FnAt K d f → KdF K mg C f k → AllK K mg C ks ds fs → AllK K mg C (k :: ks) (d :: ds) (f :: fs)
theorem AllK.all {K : PySem.W.Frag} {mg : Str → Option Value} {C : Nat → Addr} : ∀ {ks : List Kd} {ds : List Df} {fs : List Addr}, AllK K mg C ks ds fs → AllF K ds fs
  | _, _, _, .nil => .nil
  | _, _, _, .cons h _ t => .cons h t.all
theorem AllK.at {K : PySem.W.Frag} {mg : Str → Option Value} {C : Nat → Addr} : ∀ {ks : List Kd} {ds : List Df} {fs : List Addr} {i : Nat} {k : Kd}, AllK K mg C ks ds fs → ks[i]? = some k → ∃ f, fs[i]? = some f ∧ KdF K mg C f k ∧ i < ds.length
  | _, _, _, _, _, .nil, h => by simp at h
  | _, _, _, 0, _, .cons _ h2 _, h => by simp at h; subst h; exact ⟨_, rfl, h2, by simp⟩
  | _, _, _, i + 1, _, .cons _ _ t, h => by
    obtain ⟨f, h1, h2, h3⟩ := t.at (i := i) (by simpa using h)
    exact ⟨f, by simpa using h1, h2, by simp; omega⟩
def okKd (ks : List Kd) (T : Tb) : Bool :=
  T.fn.all (fun e => decide (e.2.2 = e.2.1 + 1) && decide (ks[e.2.1]? = some (.fn e.1))) &&
  T.mt.all (fun e => decide (e.2.2.2 = e.2.2.1 + 1) && decide (ks[e.2.2.1]? = some (.mt e.1 e.2.1)) && decide (e.1 < T.fl.length)) &&
  T.cl.all (fun e => decide (e.2.2.2 = e.2.2.1 + 1) && decide (ks[e.2.2.1]? = some (.cl e.1 e.2.1)))
/-! the exceptions' part of the top -/
structure XTop (K : PySem.W.Frag) (mg : Str → Option Value) (E : Nat → Addr) (T : Tb) : Prop where
  xs : 0 < T.xn → XcS K E T.xn
  xc : ∀ e ∈ T.xc, e.2 < T.xn ∧ mg e.1 = some (.ref (E e.2))
  x0 : ∀ c ∈ T.x0, PySem.W.excIn K (E c) [.type "ValueError", .type "Exception", .type "BaseException", .type "object"] "ValueError.__new__" = true
  x1 : ∀ c ∈ T.x1, ∃ f1 qn, RowTxt K (E c) f1 qn
theorem xtop_no {K : PySem.W.Frag} {mg : Str → Option Value} {T : Tb} (h : T.xn = 0) (h1 : T.xc = []) (h2 : T.x0 = []) (h3 : T.x1 = []) : XTop K mg (fun _ => 0) T :=
  ⟨fun z => absurd z (by omega), fun e he => (by rw [h1] at he; cases he), fun e he => (by rw [h2] at he; cases he), fun e he => (by rw [h3] at he; cases he)⟩
theorem top_mk {w : World} {K : PySem.W.Frag} {mg : Str → Option Value} {C E : Nat → Addr} {T : Tb} {tab : List Df} {con : Nat → D} {fs : List Addr} {ks : List Kd} {fa : Addr} {iL : Nat} (hf : mg "law" = some (.ref fa)) (hL : ks[iL]? = some (.fn "law"))
    (all : AllK K mg C ks tab fs) (ok : okKd ks T = true)
    (xt : XTop K mg E T) (co : ∀ e ∈ T.co, ∃ u v, mg e.1 = some u ∧ RelV v u ∧ ∀ U, RZ ⟨K, w, C, E, fun i => T.fl.getD i []⟩ U (con e.2) v) (bt : ∀ x ∈ builtinNames, mg x = none)
    (fl : ∀ c, c < T.fl.length → (T.fl.getD c []).Nodup ∧ (T.fl.getD c []).length < 1000 ∧ Cls K (C c) ∧ ∀ x ∈ T.fl.getD c [], NoAttr K (C c) x) :
    ∃ (G : Gm) (fs : List Addr), Top K mg w G T tab con fs ∧ fs[iL]? = some fa := by
  unfold okKd at ok
  rw [Bool.and_eq_true, Bool.and_eq_true, List.all_eq_true, List.all_eq_true, List.all_eq_true] at ok
  obtain ⟨⟨o1, o2⟩, o3⟩ := ok
  have gd : ∀ {i : Nat} {f : Addr}, fs[i]? = some f → fs.getD i 0 = f := fun h => by rw [List.getD_eq_getElem?_getD, h]; rfl
  refine ⟨⟨K, w, C, E, fun i => T.fl.getD i []⟩, fs, ⟨rfl, rfl, all.all, fun e he => ?_, fun e he => ?_, fun e he => ?_, co, bt, fun c hc => ?_, xt.xs, xt.xc, xt.x0, xt.x1⟩, ?_⟩
  · have o := o1 e he
    rw [Bool.and_eq_true, decide_eq_true_eq, decide_eq_true_eq] at o
    obtain ⟨f, h1, h2, h3⟩ := all.at o.2
    exact ⟨o.1, h3, by rw [gd h1]; exact h2⟩
  · have o := o2 e he
    rw [Bool.and_eq_true, Bool.and_eq_true, decide_eq_true_eq, decide_eq_true_eq, decide_eq_true_eq] at o
    obtain ⟨f, h1, h2, h3⟩ := all.at o.1.2
    exact ⟨o.1.1, h3, (fl _ o.2).2.2.1, by rw [gd h1]; exact h2⟩
  · have o := o3 e he
    rw [Bool.and_eq_true, decide_eq_true_eq, decide_eq_true_eq] at o
    obtain ⟨f, h1, h2, h3⟩ := all.at o.2
    exact ⟨o.1, h3, h2.1, by rw [gd h1]; exact h2.2⟩
  · exact ⟨rfl, (fl c hc).1, (fl c hc).2.1, (fl c hc).2.2.1, (fl c hc).2.2.2⟩
  · obtain ⟨f, h1, h2, _⟩ := all.at hL
    rw [h1]
    exact ref_eq h2 hf
abbrev nthA (l : List Addr) (i : Nat) : Addr := l.getD i 0
theorem nth_at {cs : List Addr} {c : Nat} {a : Addr} (h : cs[c]? = some a) : nthA cs c = a := by
  show cs.getD c 0 = a
  rw [List.getD_eq_getElem?_getD, h]; rfl
theorem kd_mt {K : PySem.W.Frag} {mg : Str → Option Value} {cs : List Addr} {b f : Addr} {c : Nat} {m : Str} (hc : cs[c]? = some b) (a : PySem.W.findIn K (.ref b) m = some (some (.ref f))) (i : PySem.W.isFn K (.ref f) = true) (k : PySem.W.keepIn K (.ref f) = true) : KdF K mg (nthA cs) f (.mt c m) := by
  rw [← nth_at hc] at a
  exact ⟨a, i, k⟩
theorem kd_cl {K : PySem.W.Frag} {mg : Str → Option Value} {cs : List Addr} {b f : Addr} {c : Nat} {x : Str} (hc : cs[c]? = some b) (h : mg x = some (.ref b)) (mk : PySem.W.makesIn K b = true) (a : PySem.W.findIn K (.ref b) "__init__" = some (some (.ref f))) (i : PySem.W.isFn K (.ref f) = true) (k : PySem.W.keepIn K (.ref b) = true) : KdF K mg (nthA cs) f (.cl x c) := by
  rw [← nth_at hc] at a h mk k
  exact ⟨h, mk, a, i, k⟩
theorem fl_mk {K : PySem.W.Frag} {cs : List Addr} {c : Nat} {b : Addr} {xs : List Str} (hc : cs[c]? = some b) (h1 : xs.Nodup) (h2 : xs.length < 1000) (pg : PySem.W.plainGet K b Str.empty = true) (hd : PySem.W.hasDictIn K b = true) (po : PySem.W.plainOver K b = true) (sa : PySem.W.findIn K (.ref b) "__setattr__" = some (some (.builtin "object.__setattr__"))) (n : ∀ x ∈ xs, PySem.W.findIn K (.ref b) x = some none) :
    xs.Nodup ∧ xs.length < 1000 ∧ Cls K (nthA cs c) ∧ ∀ x ∈ xs, NoAttr K (nthA cs c) x := by
  rw [nth_at hc]
  exact ⟨h1, h2, ⟨pg, hd, po, sa⟩, n⟩
theorem kd_fn {K : PySem.W.Frag} {mg : Str → Option Value} {C : Nat → Addr} {f : Addr} {x : Str} (h : mg x = some (.ref f)) : KdF K mg C f (.fn x) := h
theorem lt_nil {P : Nat → Prop} : ∀ c, c < 0 → P c := fun _ h => absurd h (Nat.not_lt_zero _)
theorem lt_cons {P : Nat → Prop} {n : Nat} (h0 : P 0) (h : ∀ c, c < n → P (c + 1)) : ∀ c, c < n + 1 → P c := fun c hc => match c, hc with
  | 0, _ => h0
  | c + 1, hc => h c (Nat.lt_of_succ_lt_succ hc)
/-! a dict of the module, its keys texts -/
inductive DictP : List PySem.DictEntry → List Str → List V → Prop
  | nil : DictP [] [] []
  | cons {e : PySem.DictEntry} {es : List PySem.DictEntry} {k : Str} {ks : List Str} {v : V} {vs : List V} : (∃ t, e.key = .str k t) → RelV v e.val → DictP es ks vs → DictP (e :: es) (k :: ks) (v :: vs)
theorem DictP.len : ∀ {es : List PySem.DictEntry} {ks : List Str} {vs : List V}, DictP es ks vs → ks.length = vs.length
  | _, _, _, .nil => rfl
  | _, _, _, .cons _ _ t => congrArg (· + 1) t.len
theorem DictP.at : ∀ {es : List PySem.DictEntry} {ks : List Str} {vs : List V} {j : Nat} {k : Str}, DictP es ks vs → ks.Nodup → ks[j]? = some k → ∃ e v, es.find? (·.key.isStr k) = some e ∧ vs[j]? = some v ∧ RelV v e.val
  | _, _, _, _, _, .nil, _, h => by simp at h
  | _, _, _, 0, _, .cons ⟨t, h1⟩ h2 _, _, h => by
    simp at h
    subst h
    refine ⟨_, _, ?_, rfl, h2⟩
    rw [List.find?_cons, h1]
    show (match (_ == _) with | true => _ | false => _) = _
    rw [beq_self_eq_true]
  | _, _, _, j + 1, k', .cons (e := e) (k := k) ⟨t, h1⟩ h2 r, nd, h => by
    have h : _ = some k' := (by simpa using h)
    obtain ⟨e', v', g1, g2, g3⟩ := r.at (List.nodup_cons.mp nd).2 h
    refine ⟨e', v', ?_, by simpa using g2, g3⟩
    have ne : (k == k') = false := by
      rw [beq_eq_false_iff_ne]
      intro q
      subst q
      exact (List.nodup_cons.mp nd).1 (List.mem_of_getElem? h)
    rw [List.find?_cons, h1]
    show (match (k == k') with | true => _ | false => _) = _
    rw [ne]
    exact g1
theorem DictP.no : ∀ {es : List PySem.DictEntry} {ks : List Str} {vs : List V} {x : Str}, DictP es ks vs → (∀ k ∈ ks, k ≠ x) → es.find? (·.key.isStr x) = none ∧ es.any (·.refKey) = false
  | _, _, _, _, .nil, _ => ⟨rfl, rfl⟩
  | _, _, _, x, .cons (e := e) (k := k) ⟨t, h1⟩ h2 r, h => by
    obtain ⟨g1, g2⟩ := r.no fun k hk => h k (List.mem_cons_of_mem _ hk)
    have ne : (k == x) = false := by
      rw [beq_eq_false_iff_ne]
      exact h k List.mem_cons_self
    constructor
    · rw [List.find?_cons, h1]
      show (match (k == x) with | true => _ | false => _) = _
      rw [ne]
      exact g1
    · rw [List.any_cons, g2, Bool.or_false]
      unfold PySem.DictEntry.refKey
      rw [h1]
theorem con_dicS {K : PySem.W.Frag} {w : World} {C E : Nat → Addr} {fl : Nat → List Str} {mg : Str → Option Value} {x : Str} {a : Addr} {es : Array PySem.DictEntry} {n : Nat} {ks : List Str} {ds : List D} {vs : List V} (hm : mg x = some (.ref a))
    (l : K.lookup a = some ⟨.type "dict", none, .dict es n, #[]⟩) (kl : PySem.W.KeysLit w.params es.toList) (sy : (a == sysModules) = false) (hp : DictP es.toList ks vs) (nd : ks.Nodup) (ne : ks ≠ []) (r : ∀ U, RZs ⟨K, w, C, E, fl⟩ U ds vs) :
    ∃ u v, mg x = some u ∧ RelV v u ∧ ∀ U, RZ ⟨K, w, C, E, fl⟩ U (.dic (ks.map D.str) ds) v := by
  refine ⟨_, .ref a, hm, rfl, fun U => .kdic (vs := vs) ⟨es, n, l, kl, sy, by rw [List.length_map]; exact hp.len, fun z => ne (List.map_eq_nil_iff.mp z), fun j k hk => ?_, fun x hx => ?_⟩ (r U)⟩
  · rw [List.getElem?_map] at hk
    obtain ⟨y, h1, h2⟩ := Option.map_eq_some_iff.mp hk
    subst h2
    obtain ⟨e, v, g1, g2, g3⟩ := hp.at nd h1
    refine ⟨y, v, e.val, rfl, g2, ?_, g3⟩
    unfold PySem.W.nsIn
    rw [l]
    dsimp only
    rw [g1]
  · obtain ⟨g1, g2⟩ := hp.no (x := x) fun k hk e => hx (.str k) (List.mem_map.mpr ⟨k, hk, rfl⟩) (by rw [e])
    unfold PySem.W.nsIn
    rw [l]
    dsimp only
    rw [g1]
    dsimp only
    rw [g2]
    rfl
/-! .. by their list -/
def xA (es : List Addr) : Nat → Addr := fun c => es.getD c (es.getD 0 0)
def AllI {α : Type} (P : Nat → α → Prop) : Nat → List α → Prop
  | _, [] => True
  | i, a :: l => P i a ∧ AllI P (i + 1) l
theorem AllI.at {α : Type} {P : Nat → α → Prop} : ∀ {l : List α} {i j : Nat} {a : α}, AllI P i l → l[j]? = some a → P (i + j) a
  | [], _, _, _, _, h => by simp at h
  | a :: l, i, 0, b, h, e => by simp at e; subst e; exact h.1
  | a :: l, i, j + 1, b, h, e => by
    rw [show i + (j + 1) = i + 1 + j from by omega]
    exact h.2.at (by simpa using e)
theorem xA_at {es : List Addr} {c : Nat} {a : Addr} (h : es[c]? = some a) : xA es c = a := by
  show es.getD c _ = a
  rw [List.getD_eq_getElem?_getD, h]; rfl
theorem xs_mk {K : PySem.W.Frag} {es : List Addr} {m : Nat} (hm : es.length = m) (h0 : 0 < m) (hb : m ≤ 100) (one : ∀ a ∈ es, XcF K a) (sub : AllI (fun i a => AllI (fun j b => PySem.W.subIn K (.ref a) (.ref b) = some (i == j || j == 0)) 0 es) 0 es)
    (hn : PySem.W.specialIn K (.builtin "object.__class__") "__get__" = some (some (.builtin "getset_descriptor.__get__"))) (ht : PySem.W.takesIn K (.builtin "object.__class__") = some true) : XcS K (xA es) m := by
  subst hm
  have at_ : ∀ c, c < es.length → es[c]? = some (xA es c) := fun c h => by
    rw [List.getElem?_eq_getElem h, xA_at (List.getElem?_eq_getElem h)]
  refine ⟨h0, hb, fun c h => one _ (List.mem_of_getElem? (at_ c h)), fun c h => ?_, fun c' h' c h => ?_, hn, ht⟩
  · show es.getD c _ = es.getD 0 _
    have e0 : es[0]? = some es[0] := List.getElem?_eq_getElem h0
    simp only [List.getD_eq_getElem?_getD, List.getElem?_eq_none h, e0, Option.getD_none, Option.getD_some]
  · have r := (sub.at (at_ c' h')).at (at_ c h)
    simpa using r
theorem x0_mk {K : PySem.W.Frag} {es : List Addr} {c : Nat} {a : Addr} (h : es[c]? = some a) (q : PySem.W.excIn K a [.type "ValueError", .type "Exception", .type "BaseException", .type "object"] "ValueError.__new__" = true) : PySem.W.excIn K (xA es c) [.type "ValueError", .type "Exception", .type "BaseException", .type "object"] "ValueError.__new__" = true := by
  rw [xA_at h]; exact q
theorem x1_mk {K : PySem.W.Frag} {es : List Addr} {c : Nat} {a f1 : Addr} {qn : Str} (h : es[c]? = some a) (q : RowTxt K a f1 qn) : ∃ f1 qn, RowTxt K (xA es c) f1 qn := by
  rw [xA_at h]; exact ⟨f1, qn, q⟩
theorem xc_mk {mg : Str → Option Value} {es : List Addr} {x : Str} {c m : Nat} {a : Addr} (h : es[c]? = some a) (hc : c < m) (q : mg x = some (.ref a)) : (x, c).2 < m ∧ mg (x, c).1 = some (.ref (xA es (x, c).2)) := by
  rw [show (x, c).2 = c from rfl, xA_at h]; exact ⟨hc, q⟩
theorem row_mk {K : PySem.W.Frag} {C f1 : Addr} {qn : Str} {nm q : Str} {N : Addr} {bs bm : List Value} {sn : List Str} {sub : List Value} {ab : Bool} {col : Option Bool} {dd : Option Addr} {k0 k1 k2 k3 k5 : Option Value}
    {oc : Value} {od : Option Addr} {doc pm : Value} {an : Option Addr} {cdv ct : Value} {osl : Array (Option Value)} {p1 p2 q1 q2 q3 q4 : Pos}
    (l : K.lookup C = some (excClassObj nm q C N bs bm true sn sub ab col dd k0 k1 k2 k3 k5 "ValueError.__new__"))
    (sa : PySem.W.findIn K (.ref C) "__setattr__" = some (some (.builtin "object.__setattr__"))) (noN : PySem.W.findIn K (.ref C) "row" = some none)
    (iC : PySem.W.findIn K (.ref C) "__init__" = some (some (.ref f1))) (tC : PySem.W.typeIn K (.ref f1) = some (.type "function"))
    (k : K.lookup f1 = some ⟨oc, od, .func (PySem.W.fnOf "__init__" qn (rowArgs p1 p2) (rowBody q1 q2 q3 q4) rowScope .none .none doc pm an cdv ct), osl⟩) (hb : PySem.HandSPX.refsVE bm = true) (d : PySem.W.codeIn K cdv qn = true) : RowTxt K C f1 qn :=
  ⟨⟨_, _, _, _, _, _, _, _, _, _, _, _, _, _, _, l, hb⟩, sa, noN, iC, tC, ⟨_, _, _, _, _, _, _, _, _, _, _, _, _, _, k, d⟩⟩
theorem si {K : PySem.W.Frag} {a b : Addr} {v : Bool} (h : PySem.W.subIn K (.ref a) (.ref b) = some v) : PySem.W.subIn K (.ref a) (.ref b) = some v := h
end Lk

namespace Lk
open PySem

/-! ### plain runs -/
theorem bind_eq {a b : Type} (m : M a) (k : a → M b) (s : Stt) : m.bind k s = (match m s with
  | some (.ok v, s') => k v s'
  | some (.ex c p, s') => some (.ex c p, s')
  | none => none) := rfl
theorem ok_eq {a : Type} (v : a) (s : Stt) : M.ok v s = some (.ok v, s) := rfl
theorem of_som {a : Type} (v : a) (s : Stt) : M.of (some v) s = some (.ok v, s) := rfl
theorem nw_eq (m : M Cell) (s : Stt) : m.nw s = (match m s with
  | some (.ok v, s') => some (.ok (.nw v), s')
  | some (.ex c p, s') => some (.ex c p, s')
  | none => none) := by
  unfold M.nw M.bind
  cases m s with
  | none => rfl
  | some q => obtain ⟨o, s'⟩ := q; cases o <;> rfl
theorem bl_eq (m : M Bool) (s : Stt) : m.bl s = (match m s with
  | some (.ok v, s') => some (.ok (.nw (.fz (.bl v))), s')
  | some (.ex c p, s') => some (.ex c p, s')
  | none => none) := by
  unfold M.bl M.bind
  cases m s with
  | none => rfl
  | some q => obtain ⟨o, s'⟩ := q; cases o <;> rfl
theorem cell_som (c : Cell) (s : Stt) : M.cell (some c) s = some (.ok (.nw c), s) := rfl
theorem asV_pl (m : Md) (d : D) (s : Stt) : asV (.pl m d) s = some (.ok (m, d), s) := rfl
theorem asV_fz (d : D) (s : Stt) : asV (.nw (.fz d)) s = some (.ok (.fz, d), s) := rfl
theorem asV_own (d : D) (s : Stt) : asV (.nw (.own d)) s = some (.ok (.fz, d), s) := rfl
theorem asV_br (d : D) (s : Stt) : asV (.nw (.br d)) s = some (.ok (.bp, d), s) := rfl
theorem asC_nw (c : Cell) (s : Stt) : asC (.nw c) s = some (.ok c, s) := rfl
theorem asC_fz (d : D) (s : Stt) : asC (.pl .fz d) s = some (.ok (.fz d), s) := rfl
theorem asC_bp (d : D) (s : Stt) : asC (.pl .bp d) s = some (.ok (if flat d then .fz d else .br d), s) := rfl
theorem asT_bl (b : Bool) (s : Stt) : asT (.nw (.fz (.bl b))) s = some (.ok b, s) := rfl
theorem asT_plbl (b : Bool) (s : Stt) : asT (.pl .fz (.bl b)) s = some (.ok b, s) := rfl
theorem setSlot_eq (i : Nat) (c : Cell) (s : Stt) : setSlot i c s = some (.ok (), { s with r := s.r.set i (some c) }) := rfl
theorem guardL_fz {a : Type} (x : M a) : guardL .fz x = x := rfl
theorem guardL_bp {a : Type} (x : M a) : guardL .bp x = x := rfl
theorem guardL_sl {a : Type} (i : Nat) (x : M a) : guardL (.sl i) x = x := rfl
theorem guardX_fz {a : Type} (b : Ex) (x : M a) : guardX b .fz x = x := by unfold guardX; split <;> rfl
theorem guardX_bp {a : Type} (b : Ex) (x : M a) : guardX b .bp x = x := by unfold guardX; split <;> rfl
theorem guardX_sl {a : Type} (b : Ex) (i : Nat) (x : M a) : guardX b (.sl i) x = x := by unfold guardX; split <;> rfl
theorem unbox_bl (S : Sto) (m : Md) (b : Bool) : unbox S (m, .bl b) = some (m, .bl b) := by cases m <;> rfl
theorem unbox_int (S : Sto) (m : Md) (b : Int) : unbox S (m, .int b) = some (m, .int b) := by cases m <;> rfl
theorem unbox_str (S : Sto) (m : Md) (b : Str) : unbox S (m, .str b) = some (m, .str b) := by cases m <;> rfl
theorem unbox_non (S : Sto) (m : Md) : unbox S (m, .non) = some (m, .non) := by cases m <;> rfl
theorem unbox_tup (S : Sto) (m : Md) (b : List D) : unbox S (m, .tup b) = some (m, .tup b) := by cases m <;> rfl
theorem unbox_lst (S : Sto) (m : Md) (b : List D) : unbox S (m, .lst b) = some (m, .lst b) := by cases m <;> rfl
theorem cellIn_f (d : D) : cellIn false d = .fz d := rfl
theorem cellIn_int (p : Bool) (i : Int) : cellIn p (.int i) = .fz (.int i) := by cases p <;> rfl
theorem cellIn_bl (p : Bool) (i : Bool) : cellIn p (.bl i) = .fz (.bl i) := by cases p <;> rfl
theorem cellIn_flat {p : Bool} {d : D} (h : flat d = true) : cellIn p d = .fz d := by
  unfold cellIn
  rw [h]
  simp
theorem cellNew_int (p : Bool) (i : Int) : cellNew p (.int i) = .fz (.int i) := by cases p <;> rfl
theorem cellNew_bl (p : Bool) (i : Bool) : cellNew p (.bl i) = .fz (.bl i) := by cases p <;> rfl
theorem cellNew_lst (xs : List D) : cellNew false (.lst xs) = .own (.lst xs) := rfl
theorem isBp_fz (d : D) : isBp (.fz, d) = false := rfl
theorem isBp_sl (i : Nat) (d : D) : isBp (.sl i, d) = false := rfl
theorem isBp_bp (d : D) : isBp (.bp, d) = !flat d := rfl
/-! the turns of a loop, by an invariant -/
theorem forL_inv {p : Pat} {pb : Bool} {body : M Fl} (I : Nat → Stt → Prop) : ∀ {ds : List D} {k : Nat} {s : Stt}, I k s →
    (∀ i d s, ds[i]? = some d → I (k + i) s → ∃ r', bindP p pb d s.r = some r' ∧ ∃ s' fl, body { s with r := r' } = some (.ok fl, s') ∧ (fl = .next ∨ fl = .cnt) ∧ I (k + i + 1) s') →
    ∃ s', forL p pb body ds s = some (.ok .next, s') ∧ I (k + ds.length) s'
  | [], k, s, h, _ => ⟨s, rfl, h⟩
  | d :: ds, k, s, h, st => by
    obtain ⟨r', e1, s', fl, e2, hf, h'⟩ := st 0 d s (by simp) h
    obtain ⟨s2, e3, h2⟩ := forL_inv I (ds := ds) (k := k + 1) h' fun i d s hi hI => by
      have := st (i + 1) d s (by simpa using hi) (by rw [show k + (i + 1) = k + 1 + i from by omega]; exact hI)
      rw [show k + (i + 1) + 1 = k + 1 + i + 1 from by omega] at this
      exact this
    refine ⟨s2, ?_, by rw [List.length_cons, show k + (ds.length + 1) = k + 1 + ds.length from by omega]; exact h2⟩
    unfold forL
    rw [e1]
    dsimp only
    rw [e2]
    rcases hf with rfl | rfl <;> exact e3
/-! a comprehension without tests: item by item -/
theorem compL_map {f : Bool → D → Stt → Option (Ou (Option Cell) × Stt)} {pb : Bool} {g : D → D} (I : Stt → Prop) : ∀ {ds : List D} {s : Stt}, I s →
    (∀ d ∈ ds, ∀ s, I s → ∃ c s', f pb d s = some (.ok (some c), s') ∧ (c = .fz (g d) ∨ c = .own (g d)) ∧ I s') → ∃ s', compL f pb ds s = some (false, ds.map g, s') ∧ I s'
  | [], s, h, _ => ⟨s, rfl, h⟩
  | d :: ds, s, h, st => by
    obtain ⟨c, s', e, hc, h'⟩ := st d List.mem_cons_self s h
    obtain ⟨s2, e2, h2⟩ := compL_map I (ds := ds) h' fun d hd => st d (List.mem_cons_of_mem _ hd)
    refine ⟨s2, ?_, h2⟩
    unfold compL
    rw [e]
    rcases hc with rfl | rfl <;> dsimp only <;> rw [e2] <;> rfl
/-! a def's run -/
def finD : Option (Ou Fl × Stt) → Option (Ou Cell × Sto)
  | some (.ok (.ret c), s') => some (.ok c, s'.S)
  | some (.ok .next, s') => some (.ok (.fz .non), s'.S)
  | some (.ex c p, s') => some (.ex c p, s'.S)
  | _ => none
theorem Fd_eq {con : Nat → D} {n : Nat} {tab : List Df} {i : Nat} {d : Df} {cs : List Cell} {S : Sto} (h : tab[i]? = some d) (hc : cs.length = d.ps.length) :
    Fd con n tab i cs S = finD (execs (PGn con n tab i) n d.body ⟨cs.map some ++ List.replicate (d.N.length - cs.length) none, S⟩) := by
  unfold Fd
  rw [PGn_new h]
  unfold denP
  rw [if_pos hc]
  rfl
/-! operations at known kinds -/
theorem okMul_l {i j : Int} (h1 : -18446744073709551616 < i) (h2 : i < 18446744073709551616) : okMul i j = true := by
  have a : -(2 ^ 64 : Int) < i := h1
  have b : i < (2 ^ 64 : Int) := h2
  unfold okMul
  rw [decide_eq_true a, decide_eq_true b]
  rfl
theorem okMul_r {i j : Int} (h1 : -18446744073709551616 < j) (h2 : j < 18446744073709551616) : okMul i j = true := by
  have a : -(2 ^ 64 : Int) < j := h1
  have b : j < (2 ^ 64 : Int) := h2
  unfold okMul
  rw [decide_eq_true a, decide_eq_true b]
  simp
theorem b_add (i j : Int) : binD .add (.int i) (.int j) = some (.int (i + j)) := rfl
theorem b_sub (i j : Int) : binD .sub (.int i) (.int j) = some (.int (i - j)) := rfl
theorem b_mul {i j : Int} (h : okMul i j = true) : binD .mul (.int i) (.int j) = some (.int (i * j)) := if_pos h
theorem log2_le {a b : Nat} (h0 : a ≠ 0) (h : a < 2 ^ b) : a.log2 < b := (Nat.log2_lt h0).mpr h
theorem b_fdivW {i j : Int} (h1 : 0 < j) (h2 : j < 1000000000000000000000000000000000000000000000000000000000000000000000000000000000) : binD .fdiv (.int i) (.int j) = some (.int (i / j)) := by
  show (if j ≠ 0 ∧ (j.natAbs < 1073741824 ∨ (0 < j ∧ j.natAbs.log2 < 9000)) then some (D.int (i.fdiv j)) else none) = _
  have h3 : j.natAbs < 2 ^ 300 := Nat.lt_of_lt_of_le (m := 1000000000000000000000000000000000000000000000000000000000000000000000000000000000) (by omega) (by decide +kernel)
  have h4 : j.natAbs.log2 < 300 := log2_le (by omega) h3
  rw [if_pos ⟨by omega, .inr ⟨h1, by omega⟩⟩, Int.fdiv_eq_ediv_of_nonneg _ (by omega)]
theorem b_fdiv {i j : Int} (h1 : 0 < j) (h2 : j < 1073741824) : binD .fdiv (.int i) (.int j) = some (.int (i / j)) := by
  show (if j ≠ 0 ∧ (j.natAbs < 1073741824 ∨ (0 < j ∧ j.natAbs.log2 < 9000)) then some (D.int (i.fdiv j)) else none) = _
  rw [if_pos ⟨by omega, .inl (by omega)⟩, Int.fdiv_eq_ediv_of_nonneg _ (by omega)]
theorem b_mod {i j : Int} (h1 : 0 < j) : binD .mod (.int i) (.int j) = some (.int (i % j)) := by
  show (if j ≠ 0 then some (D.int (i.fmod j)) else none) = _
  rw [if_pos (by omega), Int.fmod_eq_emod_of_nonneg _ (by omega)]
theorem b_pow {i j : Int} (h1 : 0 ≤ j) (h2 : j ≤ 1000000) (h3 : -18446744073709551616 < i) (h4 : i < 18446744073709551616) : binD .pow (.int i) (.int j) = some (.int (i ^ j.toNat)) :=
  if_pos ⟨h1, h2, by show i.natAbs < 18446744073709551616; omega⟩
theorem b_cat {xs ys : List D} (h : xs.length + ys.length ≤ line) : binD .add (.lst xs) (.lst ys) = some (.lst (xs ++ ys)) := if_pos h
theorem c_lt (i j : Int) : cmpD .lt (.int i) (.int j) = some (decide (i < j)) := rfl
theorem c_le (i j : Int) : cmpD .le (.int i) (.int j) = some (decide (i ≤ j)) := rfl
theorem c_gt (i j : Int) : cmpD .gt (.int i) (.int j) = some (decide (j < i)) := rfl
theorem c_ge (i j : Int) : cmpD .ge (.int i) (.int j) = some (decide (j ≤ i)) := rfl
theorem c_eq (x y : D) : cmpD .eq x y = deqT x y := rfl
theorem c_ne (x y : D) : cmpD .ne x y = (deqT x y).map (!·) := rfl
theorem o_lt (i j : Int) : ordD .lt (.int i) (.int j) = some (decide (i < j)) := rfl
theorem o_le (i j : Int) : ordD .le (.int i) (.int j) = some (decide (i ≤ j)) := rfl
theorem deqT_int (i j : Int) : deqT (.int i) (.int j) = some (i == j) := by
  unfold deqT
  rw [if_pos (by rfl)]
  unfold deq
  rfl
theorem deqT_sane {x y : D} (h1 : sane x = true) (h2 : sane y = true) : deqT x y = some (deq x y) := by
  unfold deqT
  rw [if_pos (by rw [h1, h2]; simp)]
theorem i_int (i : Int) : biD .int [.int i] = some (.int i) := rfl
theorem i_intb (b : Bool) : biD .int [.bl b] = some (.int (if b then 1 else 0)) := rfl
theorem i_sum (xs : List D) : biD .sum [.lst xs] = (intsOf xs).map fun ns => .int ns.sum := rfl
theorem deqT_str (i j : Str) : deqT (.str i) (.str j) = some (i == j) := by
  unfold deqT
  rw [if_pos (by rfl)]
  unfold deq
  rfl
theorem deqT_bl (i j : Bool) : deqT (.bl i) (.bl j) = some (i == j) := by
  unfold deqT
  rw [if_pos (by simp [sane, okD, dep])]
  unfold deq
  rfl
theorem nonb {x : Bool} : (!!x) = x := by cases x <;> rfl
theorem ints_of : ∀ ns : List Int, intsOf (ns.map D.int) = some ns
  | [] => rfl
  | n :: ns => by rw [List.map_cons, intsOf, ints_of ns]; rfl
theorem i_len (xs : List D) : biD .len [.lst xs] = some (.int xs.length) := rfl
theorem i_lent (xs : List D) : biD .len [.tup xs] = some (.int xs.length) := rfl
theorem i_list (xs : List D) : biD .list [.lst xs] = some (.lst xs) := rfl
theorem i_all (xs : List D) : biD .all [.lst xs] = (blsOf xs).map fun bs => .bl (bs.all id) := rfl
theorem i_any (xs : List D) : biD .any [.lst xs] = (blsOf xs).map fun bs => .bl (bs.any id) := rfl
theorem x_lst (xs : List D) (i : Int) : idxD (.lst xs) (.int i) = (ixD xs.length i).bind fun j => xs[j]? := rfl
theorem x_tup (xs : List D) (i : Int) : idxD (.tup xs) (.int i) = (ixD xs.length i).bind fun j => xs[j]? := rfl
theorem ix_pos {n : Nat} {i : Int} (h1 : 0 ≤ i) (h2 : i < n) : ixD n i = some i.toNat := by
  unfold ixD
  rw [if_pos h1, if_pos h2]
theorem t_bl (b : Bool) : truD (.bl b) = some b := rfl
theorem y_bl (b : Bool) : isiD .bl (.bl b) = some true := rfl
theorem y_bli (b : Int) : isiD .bl (.int b) = some false := rfl
theorem y_int (b : Int) : isiD .int (.int b) = some true := rfl
theorem y_lst (b : List D) : isiD .lst (.lst b) = some true := rfl
theorem it_seq (xs : List D) : itD .seq [.lst xs] = some xs := rfl
theorem it_seqt (xs : List D) : itD .seq [.tup xs] = some xs := rfl
theorem it_rng {n : Int} (h1 : -4611686018427387904 ≤ n) (h2 : n < 4611686018427387904) : itD .rng [.int n] = some (rngD 0 n.toNat) := by
  have a : -(2 ^ 62 : Int) ≤ n := h1
  have b : n < (2 ^ 62 : Int) := h2
  show (if ltB n = true then _ else _) = _
  unfold ltB
  rw [decide_eq_true a, decide_eq_true b]
  rfl
theorem it_rng2 {a b : Int} (h1 : -4611686018427387904 ≤ a) (h2 : a < 4611686018427387904) (h3 : -4611686018427387904 ≤ b) (h4 : b < 4611686018427387904) : itD .rng [.int a, .int b] = some (rngD a (b - a).toNat) := by
  have a1 : -(2 ^ 62 : Int) ≤ a := h1
  have a2 : a < (2 ^ 62 : Int) := h2
  have a3 : -(2 ^ 62 : Int) ≤ b := h3
  have a4 : b < (2 ^ 62 : Int) := h4
  show (if (ltB a && ltB b) = true then _ else _) = _
  unfold ltB
  rw [decide_eq_true a1, decide_eq_true a2, decide_eq_true a3, decide_eq_true a4]
  rfl
theorem s_lst (lo hi : Option Int) (xs : List D) : slcD lo hi (.lst xs) = some (.lst (cutL xs lo hi)) := rfl
theorem m_app {xs : List D} {x : D} (h : xs.length < line) : mutD .append (.lst xs) [x] = some (.lst (xs ++ [x]), .non) := if_pos h
theorem rng_len (a : Int) (n : Nat) : (rngD a n).length = n := by simp [rngD]
theorem rng_get {a : Int} {n i : Nat} {d : D} (h : (rngD a n)[i]? = some d) : i < n ∧ d = .int (a + i) := by
  unfold rngD at h
  rw [List.getElem?_map] at h
  by_cases e : i < n
  · rw [List.getElem?_range e] at h
    simp at h
    exact ⟨e, h.symm⟩
  · rw [List.getElem?_eq_none (by simpa using e)] at h
    cases h
theorem ints_at {ns : List Int} {i : Nat} {n : Int} (h : ns[i]? = some n) : (ns.map D.int)[i]? = some (.int n) := by
  rw [List.getElem?_map, h]
  rfl
end Lk

namespace Lk
open PySem

section
variable {P : Pg} {n : Nat} {s s1 s2 : Stt} {ss : List St} {st : St}
theorem var_fz {i : Nat} {d : D} {t : Bool} (h : s.r[i]? = some (some (.fz d))) : evV P t (.var i) s = some (.ok (.pl .fz d), s) := by rw [evV]; dsimp only; rw [h]
theorem var_own {i : Nat} {d : D} {t : Bool} (h : s.r[i]? = some (some (.own d))) : evV P t (.var i) s = some (.ok (.pl (.sl i) d), s) := by rw [evV]; dsimp only; rw [h]
theorem var_rd {i : Nat} {d : D} {t : Bool} (h : s.r[i]? = some (some (.rd d))) : evV P t (.var i) s = some (.ok (.pl (.sl i) d), s) := by rw [evV]; dsimp only; rw [h]
theorem run_next (h : exec P n st s = some (.ok .next, s1)) : execs P n (st :: ss) s = execs P n ss s1 := by
  rw [execs, bind_eq, h]
theorem run_ret {c : Cell} (h : exec P n st s = some (.ok (.ret c), s1)) : execs P n (st :: ss) s = some (.ok (.ret c), s1) := by
  rw [execs, bind_eq, h]
  rfl
theorem run_brk (h : exec P n st s = some (.ok .brk, s1)) : execs P n (st :: ss) s = some (.ok .brk, s1) := by
  rw [execs, bind_eq, h]
  rfl
theorem run_nil : execs P n [] s = some (.ok .next, s) := by rw [execs]; rfl
theorem if_eq {c : Ex} {a b : List St} {t : Bool} (h : evT P c s = some (.ok t, s1)) : exec P n (.ite c a b) s = (if t then execs P n a s1 else execs P n b s1) := by
  rw [exec, bind_eq, h]
  cases t <;> rfl
theorem asg_eq {i : Nat} {e : Ex} {c : Cell} (h : evR P e s = some (.ok c, s1)) : exec P n (.asg i e) s = some (.ok .next, ⟨s1.r.set i (some c), s1.S⟩) := by
  rw [exec, bind_eq, h]
  rfl
theorem ret_eq {e : Ex} {c : Cell} (h : evV P false e s = some (.ok (.nw c), s1)) (hc : ∀ d, c ≠ .br d) : exec P n (.ret e) s = some (.ok (.ret c), s1) := by
  rw [exec, bind_eq, h]
  cases c with
  | br d => exact absurd rfl (hc d)
  | _ => rfl
theorem ret_slot {i : Nat} {d : D} (h : s.r[i]? = some (some (.own d))) : exec P n (.ret (.var i)) s = some (.ok (.ret (.own d)), s) := by
  rw [exec, bind_eq, var_own h]
  dsimp only
  rw [h]
/-! a loop over what stands nowhere in the frame -/
theorem lock_none {α : Type} {x : M α} : ∀ {ms : List Md}, (∀ m ∈ ms, m = .fz ∨ m = .bp) → lockL ms x = x
  | [], _ => rfl
  | m :: ms, h => by
    have ih := lock_none (x := x) (ms := ms) fun m hm => h m (List.mem_cons_of_mem _ hm)
    rcases h m List.mem_cons_self with rfl | rfl <;> exact ih
theorem for_fz {p : Pat} {it : It} {src : List Ex} {body : List St} {vs : List (Md × D)} {items : List D} (h1 : evI P src s = some (.ok vs, s1)) (h2 : itD it (vs.map (·.2)) = some items) (h3 : ∀ m ∈ vs.map (·.1), m = .fz ∨ m = .bp) :
    exec P n (.for_ p it src body) s = forL p (vs.any isBp) (execs P n body) items s1 := by
  rw [exec, bind_eq, h1]
  dsimp only
  rw [h2]
  dsimp only
  rw [lock_none h3]
/-! a loop over a slot's own list -/
theorem for_slot {p : Pat} {i : Nat} {body : List St} {xs : List D} {o : Ou Fl} (h1 : s.r[i]? = some (some (.own (.lst xs)))) (h2 : forL p false (execs P n body) xs ⟨s.r.set i (some (.rd (.lst xs))), s.S⟩ = some (o, s1)) {xs' : List D} (h3 : s1.r[i]? = some (some (.rd (.lst xs')))) :
    exec P n (.for_ p .seq [.var i] body) s = some (o, ⟨s1.r.set i (some (.own (.lst xs'))), s1.S⟩) := by
  have e : evI P [.var i] s = some (.ok [(.sl i, .lst xs)], s) := by
    rw [evI, bind_eq, bind_eq, var_own h1]
    rfl
  rw [exec, bind_eq, e]
  show lockS i (forL p false (execs P n body) xs) s = _
  unfold lockS
  rw [h1]
  dsimp only
  rw [h2]
  dsimp only
  rw [h3]
theorem for_rd {p : Pat} {i : Nat} {body : List St} {xs : List D} (h1 : s.r[i]? = some (some (.rd (.lst xs)))) :
    exec P n (.for_ p .seq [.var i] body) s = forL p false (execs P n body) xs s := by
  have e : evI P [.var i] s = some (.ok [(.sl i, .lst xs)], s) := by
    rw [evI, bind_eq, bind_eq, var_rd h1]
    rfl
  rw [exec, bind_eq, e]
  show lockS i (forL p false (execs P n body) xs) s = _
  unfold lockS
  rw [h1]
/-! a comprehension -/
theorem guardLs_none {α : Type} {x : M α} : ∀ {ms : List Md}, (∀ m ∈ ms, isFl m = false) → guardLs ms x = x
  | [], _ => rfl
  | m :: ms, h => by
    have ih := guardLs_none (x := x) (ms := ms) fun m hm => h m (List.mem_cons_of_mem _ hm)
    have := h m List.mem_cons_self
    show guardL m (guardLs ms x) = x
    rw [ih]
    cases m with
    | fl l k => cases this
    | _ => rfl
theorem comp_map {e : Ex} {p : Pat} {it : It} {src : List Ex} {own : List Nat} {vs : List (Md × D)} {items : List D} {f : Bool} (g : D → D) (r0 : Env) (h1 : evI P src s = some (.ok vs, s1)) (h2 : itD it (vs.map (·.2)) = some items) (h3 : items.length ≤ line)
    (hf : ∀ m ∈ vs.map (·.1), isFl m = false) (hb : vs.any isBp = false) (hw : wipeE own s1.r = r0)
    (ht : ∀ d ∈ items, ∃ r1, bindP p false d r0 = some r1 ∧ ∃ c r2, evR P e ⟨r1, s1.S⟩ = some (.ok c, ⟨r2, s1.S⟩) ∧ (c = .fz (g d) ∨ c = .own (g d)) ∧ wipeE own r2 = r0) :
    evV P f (.comp e p it src [] own) s = some (.ok (.nw (.own (.lst (items.map g)))), ⟨r0, s1.S⟩) := by
  rw [evV, bind_eq, h1]
  dsimp only
  rw [h2]
  dsimp only
  rw [if_pos h3, guardLs_none hf, hb, hw]
  have main : ∃ s', compL (turnF P p own [] e) false items ⟨r0, s1.S⟩ = some (false, items.map g, s') ∧ s'.S = s1.S ∧ wipeE own s'.r = r0 := by
    refine compL_map (f := turnF P p own [] e) (pb := false) (g := g) (fun s => s.S = s1.S ∧ wipeE own s.r = r0) (ds := items) (s := ⟨r0, s1.S⟩) ⟨rfl, ?_⟩ ?_
    · rw [← hw]
      exact wipe_twice own s1.r
    · intro d hd s ⟨q1, q2⟩
      obtain ⟨r1, b1, c, r2, b2, b3, b4⟩ := ht d hd
      refine ⟨c, ⟨r2, s1.S⟩, ?_, b3, rfl, b4⟩
      unfold turnF
      rw [q2, b1]
      dsimp only
      rw [evTA0, bind_eq, ok_eq]
      dsimp only
      rw [if_pos rfl, bind_eq, q1]
      have b2 : ((evV P false e).bind asC) ⟨r1, s1.S⟩ = some (.ok c, ⟨r2, s1.S⟩) := b2
      rw [b2]
      rfl
  obtain ⟨s', e1, e2, e3⟩ := main
  unfold turnF at e1
  split
  · rename_i q p' ds' s2 hq
    have hq := e1.symm.trans hq
    cases hq
    rw [e3, e2]
    rfl
  · rename_i q hq
    have hq := e1.symm.trans hq
    cases hq
where
  wipe_twice (own : List Nat) (r : Env) : wipeE own (wipeE own r) = wipeE own r := by
    have key : ∀ (own : List Nat) (r : Env) (i : Nat), (wipeE own r)[i]? = if i ∈ own then (if i < r.length then some none else none) else r[i]? := by
      intro own
      induction own with
      | nil => intro r i; simp [wipeE]
      | cons a own ih =>
        intro r i
        show (wipeE own (r.set a none))[i]? = _
        rw [ih]
        by_cases h : i ∈ own
        · simp [h]
        · by_cases ha : i = a
          · subst ha
            simp [h, List.getElem?_set]
          · simp [h, ha, List.getElem?_set, Ne.symm ha]
    apply List.ext_getElem?
    intro i
    rw [key, key]
    by_cases h : i ∈ own
    · have hl : (wipeE own r).length = r.length := by
        have : ∀ (own : List Nat) (r : Env), (wipeE own r).length = r.length := by
          intro own
          induction own with
          | nil => intro r; rfl
          | cons a own ih => intro r; show (wipeE own (r.set a none)).length = _; rw [ih]; simp
        exact this own r
      simp [h, hl]
    · simp [h]
end
end Lk

namespace Lk
open PySem

/-! ### the numbers that a law draws from its script -/
def numB : List St := [.asg 3 (.comp (.bin .mod (.var 5) (.bin .pow (.int 10) (.int 60))) (.nm 5) .seq [.slc (.var 0) (.var 1) .non] [] [5]),
  .asg 4 (.lst false []),
  .ite (.and [.cmp .gt (.bi .len [.var 3]) (.int 0), .cmp .eq (.bin .mod (.idx (.var 3) (.int 0)) (.int 2)) (.int 0)]) [.for_ (.nm 5) .seq [.var 3] [.asg 6 (.bin .fdiv (.var 5) (.int 2)),
      .for_ (.nm 7) .rng [.int 10] [.ite (.and [.cmp .lt (.bi .len [.var 4]) (.var 2), .or [.cmp .eq (.var 7) (.int 0), .cmp .gt (.var 6) (.int 0)]]) [.mut none .append (.var 4) [.bin .mod (.var 6) (.bin .pow (.int 10) (.int 6))],
          .asg 6 (.bin .fdiv (.var 6) (.bin .pow (.int 10) (.int 6)))] []]]] [],
  .for_ (.nm 8) .rng [.bi .len [.var 4], .var 2] [.asg 9 (.bin .add (.bin .add (.bin .mul (.bin .mul (.int 1009) (.var 8)) (.var 8)) (.bin .mul (.int 7) (.var 8))) (.int 11)),
    .ite (.cmp .gt (.bi .len [.var 3]) (.int 0)) [.asg 9 (.bin .add (.bin .add (.var 9) (.bin .mod (.idx (.var 3) (.bin .mod (.var 8) (.bi .len [.var 3]))) (.int 2147483647))) (.bin .mod (.idx (.var 3) (.int 0)) (.int 1000003)))] [],
    .asg 9 (.bin .mod (.bin .mul (.var 9) (.var 9)) (.int 2147483629)),
    .asg 9 (.bin .mod (.bin .add (.bin .mul (.var 9) (.int 48271)) (.bin .mul (.int 31) (.var 8))) (.int 2147483647)),
    .mut none .append (.var 4) [.bin .mod (.bin .mod (.bin .mul (.var 9) (.var 9)) (.int 998244353)) (.bin .pow (.int 10) (.int 6))]],
  .ret (.var 4)]
abbrev IL (ns : List Int) : D := .lst (ns.map D.int)
def sixD (x : Int) : Prop := 0 ≤ x ∧ x < 1000000
theorem six_mod (x : Int) : sixD (x % 1000000) := ⟨Int.emod_nonneg _ (by decide), Int.emod_lt_of_pos _ (by decide)⟩
section
variable {P : Pg} {n : Nat} {S : Sto}
abbrev nS (ns : List Int) (at_ many : Int) (c3 : Cell) (fs : List Int) (r5 r6 r7 r8 r9 : Option Cell) (S : Sto) : Stt :=
  ⟨[some (.fz (IL ns)), some (.fz (.int at_)), some (.fz (.int many)), some c3, some (.own (IL fs)), r5, r6, r7, r8, r9], S⟩
theorem num_a (ns : List Int) (at_ many : Int) (hl : ns.length ≤ 1000) : ∃ cs : List Int, exec P n (.asg 3 (.comp (.bin .mod (.var 5) (.bin .pow (.int 10) (.int 60))) (.nm 5) .seq [.slc (.var 0) (.var 1) .non] [] [5]))
    ⟨[some (.fz (IL ns)), some (.fz (.int at_)), some (.fz (.int many)), none, none, none, none, none, none, none], S⟩ =
    some (.ok .next, ⟨[some (.fz (IL ns)), some (.fz (.int at_)), some (.fz (.int many)), some (.own (IL cs)), none, none, none, none, none, none], S⟩) ∧ cs.length ≤ 1000 := by
  let ms := (ns.drop (sliX (ns.map D.int).length 0 (some at_))).take (sliX (ns.map D.int).length (ns.map D.int).length none - sliX (ns.map D.int).length 0 (some at_))
  have hms : cutL (ns.map D.int) (some at_) none = ms.map D.int := by
    unfold cutL
    rw [← List.map_drop, ← List.map_take]
  have hml : ms.length ≤ 1000 := by
    show (List.take _ _).length ≤ 1000
    rw [List.length_take, List.length_drop]
    omega
  refine ⟨ms.map (· % 10 ^ 60), ?_, by simpa using hml⟩
  refine (asg_eq (c := .own (IL (ms.map (· % 10 ^ 60)))) (s1 := ⟨[some (.fz (IL ns)), some (.fz (.int at_)), some (.fz (.int many)), none, none, none, none, none, none, none], S⟩) ?_).trans rfl
  rw [evR, bind_eq, comp_map (vs := [(.fz, IL ms)]) (items := ms.map D.int) (fun d => match d with | .int i => .int (i % 10 ^ 60) | d => d) [some (.fz (IL ns)), some (.fz (.int at_)), some (.fz (.int many)), none, none, none, none, none, none, none]
    (s1 := ⟨[some (.fz (IL ns)), some (.fz (.int at_)), some (.fz (.int many)), none, none, none, none, none, none, none], S⟩) ?_ rfl (by simp [line]; omega) (by simp [isFl]) rfl rfl ?_]
  · dsimp only
    rw [asC_nw, List.map_map]
    show _ = some (Ou.ok (Cell.own (D.lst ((ms.map (· % 10 ^ 60)).map D.int))), _)
    rw [List.map_map]
    rfl
  · simp only [Lk.execs, Lk.exec, evV, evT, evR, ev, evTA, evTO, evTA0, evAnd, evOr, evA, evS, evI, bind_eq, ok_eq, of_som, nw_eq, bl_eq, cell_som, asV_pl, asV_fz, asV_own, asV_br, asC_nw, asC_fz, asC_bp, asT_bl, asT_plbl, setSlot_eq,
    guardL_fz, guardL_bp, guardL_sl, guardX_fz, guardX_bp, guardX_sl, unbox_bl, unbox_int, unbox_str, unbox_non, unbox_tup, unbox_lst, cellIn_f, cellIn_flat, cellIn_int, cellIn_bl, cellNew_int, cellNew_bl, cellNew_lst, isBp_fz, isBp_sl, isBp_bp, b_add, b_sub, b_mul, b_fdiv, b_fdivW, b_mod, b_pow, b_cat, c_lt, c_le, c_gt, c_ge, c_eq, c_ne, o_lt, o_le, deqT_int, i_len, i_lent, i_list, i_all, i_any, x_lst, x_tup, ix_pos, t_bl, y_bl, y_bli, y_int, y_lst, it_seq, it_seqt, it_rng, it_rng2, s_lst, m_app, okMul_l, okMul_r, toCell, runD, setD, partD, isNonE, bindP, wipeE,
    List.map_cons, List.map_nil, List.getElem?_cons_zero, List.getElem?_cons_succ, List.set_cons_zero, List.set_cons_succ, List.foldl_cons, List.foldl_nil, List.any_cons, List.any_nil, List.all_cons, List.all_nil, List.length_cons, List.length_nil, Option.map_some, Option.bind_some, Option.map_none, Option.bind_none,
    Bool.false_or, Bool.or_false, Bool.true_or, Bool.or_true, Bool.and_true, Bool.true_and, Bool.false_and, Bool.and_false, Bool.not_true, Bool.not_false, ite_true, ite_false, if_true, if_false, if_pos, PGn_con, flat, flats, reduceCtorEq, ne_eq, not_false_eq_true, not_true_eq_false, and_true, true_and, Bool.false_eq_true, isFl, simple,
    eq_self, beq_self_eq_true, Int.reduceBEq, bmOk, i_int, i_intb, i_sum, deqT_str, deqT_bl, nonb, guardLs, lockL, putT, guardM, changeAt, isLst, Nat.reduceLT, Int.reduceEq, Nat.reduceAdd, Int.reducePow, Int.reduceToNat, Nat.reducePow, Int.reduceLE, Int.reduceLT, Nat.reduceLeDiff, Int.reduceNeg, Int.reduceMul, Int.reduceAdd, Nat.reduceMul, decide_true, decide_false, Bool.and_eq_true, decide_eq_true_eq, Int.zero_le_ofNat, hms, IL]
  · intro d hd
    obtain ⟨i, _, rfl⟩ := List.mem_map.mp hd
    refine ⟨_, rfl, .fz (.int (i % 10 ^ 60)), [some (.fz (IL ns)), some (.fz (.int at_)), some (.fz (.int many)), none, none, some (.fz (.int i)), none, none, none, none], ?_, .inl rfl, rfl⟩
    simp only [Lk.execs, Lk.exec, evV, evT, evR, ev, evTA, evTO, evTA0, evAnd, evOr, evA, evS, evI, bind_eq, ok_eq, of_som, nw_eq, bl_eq, cell_som, asV_pl, asV_fz, asV_own, asV_br, asC_nw, asC_fz, asC_bp, asT_bl, asT_plbl, setSlot_eq,
    guardL_fz, guardL_bp, guardL_sl, guardX_fz, guardX_bp, guardX_sl, unbox_bl, unbox_int, unbox_str, unbox_non, unbox_tup, unbox_lst, cellIn_f, cellIn_flat, cellIn_int, cellIn_bl, cellNew_int, cellNew_bl, cellNew_lst, isBp_fz, isBp_sl, isBp_bp, b_add, b_sub, b_mul, b_fdiv, b_fdivW, b_mod, b_pow, b_cat, c_lt, c_le, c_gt, c_ge, c_eq, c_ne, o_lt, o_le, deqT_int, i_len, i_lent, i_list, i_all, i_any, x_lst, x_tup, ix_pos, t_bl, y_bl, y_bli, y_int, y_lst, it_seq, it_seqt, it_rng, it_rng2, s_lst, m_app, okMul_l, okMul_r, toCell, runD, setD, partD, isNonE, bindP, wipeE,
    List.map_cons, List.map_nil, List.getElem?_cons_zero, List.getElem?_cons_succ, List.set_cons_zero, List.set_cons_succ, List.foldl_cons, List.foldl_nil, List.any_cons, List.any_nil, List.all_cons, List.all_nil, List.length_cons, List.length_nil, Option.map_some, Option.bind_some, Option.map_none, Option.bind_none,
    Bool.false_or, Bool.or_false, Bool.true_or, Bool.or_true, Bool.and_true, Bool.true_and, Bool.false_and, Bool.and_false, Bool.not_true, Bool.not_false, ite_true, ite_false, if_true, if_false, if_pos, PGn_con, flat, flats, reduceCtorEq, ne_eq, not_false_eq_true, not_true_eq_false, and_true, true_and, Bool.false_eq_true, isFl, simple,
    eq_self, beq_self_eq_true, Int.reduceBEq, bmOk, i_int, i_intb, i_sum, deqT_str, deqT_bl, nonb, guardLs, lockL, putT, guardM, changeAt, isLst, Nat.reduceLT, Int.reduceEq, Nat.reduceAdd, Int.reducePow, Int.reduceToNat, Nat.reducePow, Int.reduceLE, Int.reduceLT, Nat.reduceLeDiff, Int.reduceNeg, Int.reduceMul, Int.reduceAdd, Nat.reduceMul, decide_true, decide_false, Bool.and_eq_true, decide_eq_true_eq, Int.zero_le_ofNat]
theorem num_in (ns : List Int) (at_ : Int) (many : Nat) (hm : many ≤ 1000000) (c3 : Cell) (fs : List Int) (r5 : Option Cell) (r : Int) (r7 r8 r9 : Option Cell) (hl : fs.length ≤ many) (hs : ∀ x ∈ fs, sixD x) :
    ∃ fs' r' r7', exec P n (.for_ (.nm 7) .rng [.int 10] [.ite (.and [.cmp .lt (.bi .len [.var 4]) (.var 2), .or [.cmp .eq (.var 7) (.int 0), .cmp .gt (.var 6) (.int 0)]]) [.mut none .append (.var 4) [.bin .mod (.var 6) (.bin .pow (.int 10) (.int 6))],
          .asg 6 (.bin .fdiv (.var 6) (.bin .pow (.int 10) (.int 6)))] []]) (nS ns at_ many c3 fs r5 (some (.fz (.int r))) r7 r8 r9 S) = some (.ok .next, nS ns at_ many c3 fs' r5 (some (.fz (.int r'))) r7' r8 r9 S) ∧ fs'.length ≤ many ∧ ∀ x ∈ fs', sixD x := by
  have e1 : evI P [.int 10] (nS ns at_ many c3 fs r5 (some (.fz (.int r))) r7 r8 r9 S) = some (.ok [(.fz, .int 10)], nS ns at_ many c3 fs r5 (some (.fz (.int r))) r7 r8 r9 S) := by simp only [Lk.execs, Lk.exec, evV, evT, evR, ev, evTA, evTO, evTA0, evAnd, evOr, evA, evS, evI, bind_eq, ok_eq, of_som, nw_eq, bl_eq, cell_som, asV_pl, asV_fz, asV_own, asV_br, asC_nw, asC_fz, asC_bp, asT_bl, asT_plbl, setSlot_eq,
    guardL_fz, guardL_bp, guardL_sl, guardX_fz, guardX_bp, guardX_sl, unbox_bl, unbox_int, unbox_str, unbox_non, unbox_tup, unbox_lst, cellIn_f, cellIn_flat, cellIn_int, cellIn_bl, cellNew_int, cellNew_bl, cellNew_lst, isBp_fz, isBp_sl, isBp_bp, b_add, b_sub, b_mul, b_fdiv, b_fdivW, b_mod, b_pow, b_cat, c_lt, c_le, c_gt, c_ge, c_eq, c_ne, o_lt, o_le, deqT_int, i_len, i_lent, i_list, i_all, i_any, x_lst, x_tup, ix_pos, t_bl, y_bl, y_bli, y_int, y_lst, it_seq, it_seqt, it_rng, it_rng2, s_lst, m_app, okMul_l, okMul_r, toCell, runD, setD, partD, isNonE, bindP, wipeE,
    List.map_cons, List.map_nil, List.getElem?_cons_zero, List.getElem?_cons_succ, List.set_cons_zero, List.set_cons_succ, List.foldl_cons, List.foldl_nil, List.any_cons, List.any_nil, List.all_cons, List.all_nil, List.length_cons, List.length_nil, Option.map_some, Option.bind_some, Option.map_none, Option.bind_none,
    Bool.false_or, Bool.or_false, Bool.true_or, Bool.or_true, Bool.and_true, Bool.true_and, Bool.false_and, Bool.and_false, Bool.not_true, Bool.not_false, ite_true, ite_false, if_true, if_false, if_pos, PGn_con, flat, flats, reduceCtorEq, ne_eq, not_false_eq_true, not_true_eq_false, and_true, true_and, Bool.false_eq_true, isFl, simple,
    eq_self, beq_self_eq_true, Int.reduceBEq, bmOk, i_int, i_intb, i_sum, deqT_str, deqT_bl, nonb, guardLs, lockL, putT, guardM, changeAt, isLst, Nat.reduceLT, Int.reduceEq, Nat.reduceAdd, Int.reducePow, Int.reduceToNat, Nat.reducePow, Int.reduceLE, Int.reduceLT, Nat.reduceLeDiff, Int.reduceNeg, Int.reduceMul, Int.reduceAdd, Nat.reduceMul, decide_true, decide_false, Bool.and_eq_true, decide_eq_true_eq, Int.zero_le_ofNat]
  rw [for_fz e1 (it_rng (by decide) (by decide)) (by simp)]
  have step : _ := forL_inv (p := .nm 7) (pb := false) (body := execs P n [.ite (.and [.cmp .lt (.bi .len [.var 4]) (.var 2), .or [.cmp .eq (.var 7) (.int 0), .cmp .gt (.var 6) (.int 0)]]) [.mut none .append (.var 4) [.bin .mod (.var 6) (.bin .pow (.int 10) (.int 6))],
          .asg 6 (.bin .fdiv (.var 6) (.bin .pow (.int 10) (.int 6)))] []]) (fun _ s => ∃ fs' r' r7', s = nS ns at_ many c3 fs' r5 (some (.fz (.int r'))) r7' r8 r9 S ∧ fs'.length ≤ many ∧ ∀ x ∈ fs', sixD x) (ds := rngD 0 (10 : Int).toNat) (k := 0) ⟨fs, r, r7, rfl, hl, hs⟩
  obtain ⟨s', e, fs', r', r7', rfl, h1, h2⟩ := step (by
    rintro i d s hd ⟨fs, r, r7, rfl, hl, hs⟩
    obtain ⟨hi, rfl⟩ := rng_get hd
    refine ⟨_, rfl, ?_⟩
    by_cases c1 : (fs.length : Int) < many
    · have hlen : fs.length < line := by unfold line; omega
      have yes : ∃ s', execs P n [.ite (.and [.cmp .lt (.bi .len [.var 4]) (.var 2), .or [.cmp .eq (.var 7) (.int 0), .cmp .gt (.var 6) (.int 0)]]) [.mut none .append (.var 4) [.bin .mod (.var 6) (.bin .pow (.int 10) (.int 6))],
          .asg 6 (.bin .fdiv (.var 6) (.bin .pow (.int 10) (.int 6)))] []] (nS ns at_ many c3 fs r5 (some (.fz (.int r))) (some (.fz (.int (0 + i)))) r8 r9 S) = some (.ok .next, s') ∧
          (s' = nS ns at_ many c3 fs r5 (some (.fz (.int r))) (some (.fz (.int (0 + i)))) r8 r9 S ∨ s' = nS ns at_ many c3 (fs ++ [r % 1000000]) r5 (some (.fz (.int (r / 1000000)))) (some (.fz (.int (0 + i)))) r8 r9 S) := by
        by_cases c2 : (0 + (i : Int) == 0) = true
        · exact ⟨_, by simp only [Lk.execs, Lk.exec, evV, evT, evR, ev, evTA, evTO, evTA0, evAnd, evOr, evA, evS, evI, bind_eq, ok_eq, of_som, nw_eq, bl_eq, cell_som, asV_pl, asV_fz, asV_own, asV_br, asC_nw, asC_fz, asC_bp, asT_bl, asT_plbl, setSlot_eq,
    guardL_fz, guardL_bp, guardL_sl, guardX_fz, guardX_bp, guardX_sl, unbox_bl, unbox_int, unbox_str, unbox_non, unbox_tup, unbox_lst, cellIn_f, cellIn_flat, cellIn_int, cellIn_bl, cellNew_int, cellNew_bl, cellNew_lst, isBp_fz, isBp_sl, isBp_bp, b_add, b_sub, b_mul, b_fdiv, b_fdivW, b_mod, b_pow, b_cat, c_lt, c_le, c_gt, c_ge, c_eq, c_ne, o_lt, o_le, deqT_int, i_len, i_lent, i_list, i_all, i_any, x_lst, x_tup, ix_pos, t_bl, y_bl, y_bli, y_int, y_lst, it_seq, it_seqt, it_rng, it_rng2, s_lst, m_app, okMul_l, okMul_r, toCell, runD, setD, partD, isNonE, bindP, wipeE,
    List.map_cons, List.map_nil, List.getElem?_cons_zero, List.getElem?_cons_succ, List.set_cons_zero, List.set_cons_succ, List.foldl_cons, List.foldl_nil, List.any_cons, List.any_nil, List.all_cons, List.all_nil, List.length_cons, List.length_nil, Option.map_some, Option.bind_some, Option.map_none, Option.bind_none,
    Bool.false_or, Bool.or_false, Bool.true_or, Bool.or_true, Bool.and_true, Bool.true_and, Bool.false_and, Bool.and_false, Bool.not_true, Bool.not_false, ite_true, ite_false, if_true, if_false, if_pos, PGn_con, flat, flats, reduceCtorEq, ne_eq, not_false_eq_true, not_true_eq_false, and_true, true_and, Bool.false_eq_true, isFl, simple,
    eq_self, beq_self_eq_true, Int.reduceBEq, bmOk, i_int, i_intb, i_sum, deqT_str, deqT_bl, nonb, guardLs, lockL, putT, guardM, changeAt, isLst, Nat.reduceLT, Int.reduceEq, Nat.reduceAdd, Int.reducePow, Int.reduceToNat, Nat.reducePow, Int.reduceLE, Int.reduceLT, Nat.reduceLeDiff, Int.reduceNeg, Int.reduceMul, Int.reduceAdd, Nat.reduceMul, decide_true, decide_false, Bool.and_eq_true, decide_eq_true_eq, Int.zero_le_ofNat, c1, c2, hlen, List.length_map, IL, nS]; rfl, .inr (by simp [nS, IL])⟩
        · rw [Bool.not_eq_true] at c2
          by_cases c3 : 0 < r
          · exact ⟨_, by simp only [Lk.execs, Lk.exec, evV, evT, evR, ev, evTA, evTO, evTA0, evAnd, evOr, evA, evS, evI, bind_eq, ok_eq, of_som, nw_eq, bl_eq, cell_som, asV_pl, asV_fz, asV_own, asV_br, asC_nw, asC_fz, asC_bp, asT_bl, asT_plbl, setSlot_eq,
    guardL_fz, guardL_bp, guardL_sl, guardX_fz, guardX_bp, guardX_sl, unbox_bl, unbox_int, unbox_str, unbox_non, unbox_tup, unbox_lst, cellIn_f, cellIn_flat, cellIn_int, cellIn_bl, cellNew_int, cellNew_bl, cellNew_lst, isBp_fz, isBp_sl, isBp_bp, b_add, b_sub, b_mul, b_fdiv, b_fdivW, b_mod, b_pow, b_cat, c_lt, c_le, c_gt, c_ge, c_eq, c_ne, o_lt, o_le, deqT_int, i_len, i_lent, i_list, i_all, i_any, x_lst, x_tup, ix_pos, t_bl, y_bl, y_bli, y_int, y_lst, it_seq, it_seqt, it_rng, it_rng2, s_lst, m_app, okMul_l, okMul_r, toCell, runD, setD, partD, isNonE, bindP, wipeE,
    List.map_cons, List.map_nil, List.getElem?_cons_zero, List.getElem?_cons_succ, List.set_cons_zero, List.set_cons_succ, List.foldl_cons, List.foldl_nil, List.any_cons, List.any_nil, List.all_cons, List.all_nil, List.length_cons, List.length_nil, Option.map_some, Option.bind_some, Option.map_none, Option.bind_none,
    Bool.false_or, Bool.or_false, Bool.true_or, Bool.or_true, Bool.and_true, Bool.true_and, Bool.false_and, Bool.and_false, Bool.not_true, Bool.not_false, ite_true, ite_false, if_true, if_false, if_pos, PGn_con, flat, flats, reduceCtorEq, ne_eq, not_false_eq_true, not_true_eq_false, and_true, true_and, Bool.false_eq_true, isFl, simple,
    eq_self, beq_self_eq_true, Int.reduceBEq, bmOk, i_int, i_intb, i_sum, deqT_str, deqT_bl, nonb, guardLs, lockL, putT, guardM, changeAt, isLst, Nat.reduceLT, Int.reduceEq, Nat.reduceAdd, Int.reducePow, Int.reduceToNat, Nat.reducePow, Int.reduceLE, Int.reduceLT, Nat.reduceLeDiff, Int.reduceNeg, Int.reduceMul, Int.reduceAdd, Nat.reduceMul, decide_true, decide_false, Bool.and_eq_true, decide_eq_true_eq, Int.zero_le_ofNat, c1, c2, c3, hlen, List.length_map, IL, nS]; rfl, .inr (by simp [nS, IL])⟩
          · exact ⟨_, by simp only [Lk.execs, Lk.exec, evV, evT, evR, ev, evTA, evTO, evTA0, evAnd, evOr, evA, evS, evI, bind_eq, ok_eq, of_som, nw_eq, bl_eq, cell_som, asV_pl, asV_fz, asV_own, asV_br, asC_nw, asC_fz, asC_bp, asT_bl, asT_plbl, setSlot_eq,
    guardL_fz, guardL_bp, guardL_sl, guardX_fz, guardX_bp, guardX_sl, unbox_bl, unbox_int, unbox_str, unbox_non, unbox_tup, unbox_lst, cellIn_f, cellIn_flat, cellIn_int, cellIn_bl, cellNew_int, cellNew_bl, cellNew_lst, isBp_fz, isBp_sl, isBp_bp, b_add, b_sub, b_mul, b_fdiv, b_fdivW, b_mod, b_pow, b_cat, c_lt, c_le, c_gt, c_ge, c_eq, c_ne, o_lt, o_le, deqT_int, i_len, i_lent, i_list, i_all, i_any, x_lst, x_tup, ix_pos, t_bl, y_bl, y_bli, y_int, y_lst, it_seq, it_seqt, it_rng, it_rng2, s_lst, m_app, okMul_l, okMul_r, toCell, runD, setD, partD, isNonE, bindP, wipeE,
    List.map_cons, List.map_nil, List.getElem?_cons_zero, List.getElem?_cons_succ, List.set_cons_zero, List.set_cons_succ, List.foldl_cons, List.foldl_nil, List.any_cons, List.any_nil, List.all_cons, List.all_nil, List.length_cons, List.length_nil, Option.map_some, Option.bind_some, Option.map_none, Option.bind_none,
    Bool.false_or, Bool.or_false, Bool.true_or, Bool.or_true, Bool.and_true, Bool.true_and, Bool.false_and, Bool.and_false, Bool.not_true, Bool.not_false, ite_true, ite_false, if_true, if_false, if_pos, PGn_con, flat, flats, reduceCtorEq, ne_eq, not_false_eq_true, not_true_eq_false, and_true, true_and, Bool.false_eq_true, isFl, simple,
    eq_self, beq_self_eq_true, Int.reduceBEq, bmOk, i_int, i_intb, i_sum, deqT_str, deqT_bl, nonb, guardLs, lockL, putT, guardM, changeAt, isLst, Nat.reduceLT, Int.reduceEq, Nat.reduceAdd, Int.reducePow, Int.reduceToNat, Nat.reducePow, Int.reduceLE, Int.reduceLT, Nat.reduceLeDiff, Int.reduceNeg, Int.reduceMul, Int.reduceAdd, Nat.reduceMul, decide_true, decide_false, Bool.and_eq_true, decide_eq_true_eq, Int.zero_le_ofNat, c1, c2, c3, hlen, List.length_map, IL, nS]; rfl, .inl (by simp [nS, IL])⟩
      obtain ⟨s', e, h⟩ := yes
      refine ⟨s', .next, e, .inl rfl, ?_⟩
      rcases h with rfl | rfl
      · exact ⟨fs, r, _, rfl, hl, hs⟩
      · refine ⟨_, _, _, rfl, by rw [List.length_append]; show fs.length + 1 ≤ many; omega, fun x hx => ?_⟩
        rcases List.mem_append.mp hx with q | q
        · exact hs x q
        · rw [List.mem_singleton.mp q]
          exact six_mod r
    · refine ⟨_, .next, ?_, .inl rfl, fs, r, some (.fz (.int (0 + i))), rfl, hl, hs⟩
      simp only [Lk.execs, Lk.exec, evV, evT, evR, ev, evTA, evTO, evTA0, evAnd, evOr, evA, evS, evI, bind_eq, ok_eq, of_som, nw_eq, bl_eq, cell_som, asV_pl, asV_fz, asV_own, asV_br, asC_nw, asC_fz, asC_bp, asT_bl, asT_plbl, setSlot_eq,
    guardL_fz, guardL_bp, guardL_sl, guardX_fz, guardX_bp, guardX_sl, unbox_bl, unbox_int, unbox_str, unbox_non, unbox_tup, unbox_lst, cellIn_f, cellIn_flat, cellIn_int, cellIn_bl, cellNew_int, cellNew_bl, cellNew_lst, isBp_fz, isBp_sl, isBp_bp, b_add, b_sub, b_mul, b_fdiv, b_fdivW, b_mod, b_pow, b_cat, c_lt, c_le, c_gt, c_ge, c_eq, c_ne, o_lt, o_le, deqT_int, i_len, i_lent, i_list, i_all, i_any, x_lst, x_tup, ix_pos, t_bl, y_bl, y_bli, y_int, y_lst, it_seq, it_seqt, it_rng, it_rng2, s_lst, m_app, okMul_l, okMul_r, toCell, runD, setD, partD, isNonE, bindP, wipeE,
    List.map_cons, List.map_nil, List.getElem?_cons_zero, List.getElem?_cons_succ, List.set_cons_zero, List.set_cons_succ, List.foldl_cons, List.foldl_nil, List.any_cons, List.any_nil, List.all_cons, List.all_nil, List.length_cons, List.length_nil, Option.map_some, Option.bind_some, Option.map_none, Option.bind_none,
    Bool.false_or, Bool.or_false, Bool.true_or, Bool.or_true, Bool.and_true, Bool.true_and, Bool.false_and, Bool.and_false, Bool.not_true, Bool.not_false, ite_true, ite_false, if_true, if_false, if_pos, PGn_con, flat, flats, reduceCtorEq, ne_eq, not_false_eq_true, not_true_eq_false, and_true, true_and, Bool.false_eq_true, isFl, simple,
    eq_self, beq_self_eq_true, Int.reduceBEq, bmOk, i_int, i_intb, i_sum, deqT_str, deqT_bl, nonb, guardLs, lockL, putT, guardM, changeAt, isLst, Nat.reduceLT, Int.reduceEq, Nat.reduceAdd, Int.reducePow, Int.reduceToNat, Nat.reducePow, Int.reduceLE, Int.reduceLT, Nat.reduceLeDiff, Int.reduceNeg, Int.reduceMul, Int.reduceAdd, Nat.reduceMul, decide_true, decide_false, Bool.and_eq_true, decide_eq_true_eq, Int.zero_le_ofNat, c1, List.length_map, IL, nS])
  exact ⟨fs', r', r7', e, h1, h2⟩
theorem num_out (ns : List Int) (at_ : Int) (many : Nat) (hm : many ≤ 1000000) (cs fs : List Int) (r5 r6 r7 r8 r9 : Option Cell) (hl : fs.length ≤ many) (hs : ∀ x ∈ fs, sixD x) :
    ∃ fs' r5' r6' r7', exec P n (.for_ (.nm 5) .seq [.var 3] [.asg 6 (.bin .fdiv (.var 5) (.int 2)),
      .for_ (.nm 7) .rng [.int 10] [.ite (.and [.cmp .lt (.bi .len [.var 4]) (.var 2), .or [.cmp .eq (.var 7) (.int 0), .cmp .gt (.var 6) (.int 0)]]) [.mut none .append (.var 4) [.bin .mod (.var 6) (.bin .pow (.int 10) (.int 6))],
          .asg 6 (.bin .fdiv (.var 6) (.bin .pow (.int 10) (.int 6)))] []]]) (nS ns at_ many (.own (IL cs)) fs r5 r6 r7 r8 r9 S) = some (.ok .next, nS ns at_ many (.own (IL cs)) fs' r5' r6' r7' r8 r9 S) ∧ fs'.length ≤ many ∧ ∀ x ∈ fs', sixD x := by
  have step : _ := forL_inv (p := .nm 5) (pb := false) (body := execs P n [.asg 6 (.bin .fdiv (.var 5) (.int 2)),
      .for_ (.nm 7) .rng [.int 10] [.ite (.and [.cmp .lt (.bi .len [.var 4]) (.var 2), .or [.cmp .eq (.var 7) (.int 0), .cmp .gt (.var 6) (.int 0)]]) [.mut none .append (.var 4) [.bin .mod (.var 6) (.bin .pow (.int 10) (.int 6))],
          .asg 6 (.bin .fdiv (.var 6) (.bin .pow (.int 10) (.int 6)))] []]])
    (fun _ s => ∃ fs' r5' r6' r7', s = nS ns at_ many (.rd (IL cs)) fs' r5' r6' r7' r8 r9 S ∧ fs'.length ≤ many ∧ ∀ x ∈ fs', sixD x) (ds := cs.map D.int) (k := 0) ⟨fs, r5, r6, r7, rfl, hl, hs⟩
  obtain ⟨s', e, fs', r5', r6', r7', rfl, h1, h2⟩ := step (by
    rintro i d s hd ⟨fs, r5, r6, r7, rfl, hl, hs⟩
    rw [List.getElem?_map] at hd
    cases hc : cs[i]? with
    | none => rw [hc] at hd; cases hd
    | some c =>
      rw [hc] at hd
      cases hd
      obtain ⟨fs', r', r7', e, q1, q2⟩ := num_in (P := P) (n := n) (S := S) ns at_ many hm (.rd (IL cs)) fs (some (.fz (.int c))) (c / 2) r7 r8 r9 hl hs
      refine ⟨_, rfl, _, .next, ?_, .inl rfl, fs', some (.fz (.int c)), some (.fz (.int r')), r7', rfl, q1, q2⟩
      refine (run_next (s1 := nS ns at_ many (.rd (IL cs)) fs (some (.fz (.int c))) (some (.fz (.int (c / 2)))) r7 r8 r9 S) (by simp only [Lk.execs, Lk.exec, evV, evT, evR, ev, evTA, evTO, evTA0, evAnd, evOr, evA, evS, evI, bind_eq, ok_eq, of_som, nw_eq, bl_eq, cell_som, asV_pl, asV_fz, asV_own, asV_br, asC_nw, asC_fz, asC_bp, asT_bl, asT_plbl, setSlot_eq,
    guardL_fz, guardL_bp, guardL_sl, guardX_fz, guardX_bp, guardX_sl, unbox_bl, unbox_int, unbox_str, unbox_non, unbox_tup, unbox_lst, cellIn_f, cellIn_flat, cellIn_int, cellIn_bl, cellNew_int, cellNew_bl, cellNew_lst, isBp_fz, isBp_sl, isBp_bp, b_add, b_sub, b_mul, b_fdiv, b_fdivW, b_mod, b_pow, b_cat, c_lt, c_le, c_gt, c_ge, c_eq, c_ne, o_lt, o_le, deqT_int, i_len, i_lent, i_list, i_all, i_any, x_lst, x_tup, ix_pos, t_bl, y_bl, y_bli, y_int, y_lst, it_seq, it_seqt, it_rng, it_rng2, s_lst, m_app, okMul_l, okMul_r, toCell, runD, setD, partD, isNonE, bindP, wipeE,
    List.map_cons, List.map_nil, List.getElem?_cons_zero, List.getElem?_cons_succ, List.set_cons_zero, List.set_cons_succ, List.foldl_cons, List.foldl_nil, List.any_cons, List.any_nil, List.all_cons, List.all_nil, List.length_cons, List.length_nil, Option.map_some, Option.bind_some, Option.map_none, Option.bind_none,
    Bool.false_or, Bool.or_false, Bool.true_or, Bool.or_true, Bool.and_true, Bool.true_and, Bool.false_and, Bool.and_false, Bool.not_true, Bool.not_false, ite_true, ite_false, if_true, if_false, if_pos, PGn_con, flat, flats, reduceCtorEq, ne_eq, not_false_eq_true, not_true_eq_false, and_true, true_and, Bool.false_eq_true, isFl, simple,
    eq_self, beq_self_eq_true, Int.reduceBEq, bmOk, i_int, i_intb, i_sum, deqT_str, deqT_bl, nonb, guardLs, lockL, putT, guardM, changeAt, isLst, Nat.reduceLT, Int.reduceEq, Nat.reduceAdd, Int.reducePow, Int.reduceToNat, Nat.reducePow, Int.reduceLE, Int.reduceLT, Nat.reduceLeDiff, Int.reduceNeg, Int.reduceMul, Int.reduceAdd, Nat.reduceMul, decide_true, decide_false, Bool.and_eq_true, decide_eq_true_eq, Int.zero_le_ofNat])).trans ?_
      exact (run_next e).trans run_nil)
  exact ⟨fs', r5', r6', r7', for_slot (i := 3) (s := nS ns at_ many (.own (IL cs)) fs r5 r6 r7 r8 r9 S) (s1 := nS ns at_ many (.rd (IL cs)) fs' r5' r6' r7' r8 r9 S) (xs := cs.map D.int) (xs' := cs.map D.int) rfl e rfl, h1, h2⟩
theorem num_if (ns : List Int) (at_ : Int) (many : Nat) (hm : many ≤ 1000000) (cs : List Int) :
    ∃ fs' r5' r6' r7', exec P n (.ite (.and [.cmp .gt (.bi .len [.var 3]) (.int 0), .cmp .eq (.bin .mod (.idx (.var 3) (.int 0)) (.int 2)) (.int 0)]) [.for_ (.nm 5) .seq [.var 3] [.asg 6 (.bin .fdiv (.var 5) (.int 2)),
      .for_ (.nm 7) .rng [.int 10] [.ite (.and [.cmp .lt (.bi .len [.var 4]) (.var 2), .or [.cmp .eq (.var 7) (.int 0), .cmp .gt (.var 6) (.int 0)]]) [.mut none .append (.var 4) [.bin .mod (.var 6) (.bin .pow (.int 10) (.int 6))],
          .asg 6 (.bin .fdiv (.var 6) (.bin .pow (.int 10) (.int 6)))] []]]] []) (nS ns at_ many (.own (IL cs)) [] none none none none none S) = some (.ok .next, nS ns at_ many (.own (IL cs)) fs' r5' r6' r7' none none S) ∧ fs'.length ≤ many ∧ ∀ x ∈ fs', sixD x := by
  have test : ∃ b, evT P (.and [.cmp .gt (.bi .len [.var 3]) (.int 0), .cmp .eq (.bin .mod (.idx (.var 3) (.int 0)) (.int 2)) (.int 0)]) (nS ns at_ many (.own (IL cs)) [] none none none none none S) = some (.ok b, nS ns at_ many (.own (IL cs)) [] none none none none none S) := by
    cases cs with
    | nil => exact ⟨false, by simp only [Lk.execs, Lk.exec, evV, evT, evR, ev, evTA, evTO, evTA0, evAnd, evOr, evA, evS, evI, bind_eq, ok_eq, of_som, nw_eq, bl_eq, cell_som, asV_pl, asV_fz, asV_own, asV_br, asC_nw, asC_fz, asC_bp, asT_bl, asT_plbl, setSlot_eq,
    guardL_fz, guardL_bp, guardL_sl, guardX_fz, guardX_bp, guardX_sl, unbox_bl, unbox_int, unbox_str, unbox_non, unbox_tup, unbox_lst, cellIn_f, cellIn_flat, cellIn_int, cellIn_bl, cellNew_int, cellNew_bl, cellNew_lst, isBp_fz, isBp_sl, isBp_bp, b_add, b_sub, b_mul, b_fdiv, b_fdivW, b_mod, b_pow, b_cat, c_lt, c_le, c_gt, c_ge, c_eq, c_ne, o_lt, o_le, deqT_int, i_len, i_lent, i_list, i_all, i_any, x_lst, x_tup, ix_pos, t_bl, y_bl, y_bli, y_int, y_lst, it_seq, it_seqt, it_rng, it_rng2, s_lst, m_app, okMul_l, okMul_r, toCell, runD, setD, partD, isNonE, bindP, wipeE,
    List.map_cons, List.map_nil, List.getElem?_cons_zero, List.getElem?_cons_succ, List.set_cons_zero, List.set_cons_succ, List.foldl_cons, List.foldl_nil, List.any_cons, List.any_nil, List.all_cons, List.all_nil, List.length_cons, List.length_nil, Option.map_some, Option.bind_some, Option.map_none, Option.bind_none,
    Bool.false_or, Bool.or_false, Bool.true_or, Bool.or_true, Bool.and_true, Bool.true_and, Bool.false_and, Bool.and_false, Bool.not_true, Bool.not_false, ite_true, ite_false, if_true, if_false, if_pos, PGn_con, flat, flats, reduceCtorEq, ne_eq, not_false_eq_true, not_true_eq_false, and_true, true_and, Bool.false_eq_true, isFl, simple,
    eq_self, beq_self_eq_true, Int.reduceBEq, bmOk, i_int, i_intb, i_sum, deqT_str, deqT_bl, nonb, guardLs, lockL, putT, guardM, changeAt, isLst, Nat.reduceLT, Int.reduceEq, Nat.reduceAdd, Int.reducePow, Int.reduceToNat, Nat.reducePow, Int.reduceLE, Int.reduceLT, Nat.reduceLeDiff, Int.reduceNeg, Int.reduceMul, Int.reduceAdd, Nat.reduceMul, decide_true, decide_false, Bool.and_eq_true, decide_eq_true_eq, Int.zero_le_ofNat, nS, IL, Int.lt_irrefl, Int.ofNat_zero]⟩
    | cons c cs =>
      have h0 : (0 : Int) < ((cs.length + 1 : Nat) : Int) := by omega
      exact ⟨c % 2 == 0, by simp only [Lk.execs, Lk.exec, evV, evT, evR, ev, evTA, evTO, evTA0, evAnd, evOr, evA, evS, evI, bind_eq, ok_eq, of_som, nw_eq, bl_eq, cell_som, asV_pl, asV_fz, asV_own, asV_br, asC_nw, asC_fz, asC_bp, asT_bl, asT_plbl, setSlot_eq,
    guardL_fz, guardL_bp, guardL_sl, guardX_fz, guardX_bp, guardX_sl, unbox_bl, unbox_int, unbox_str, unbox_non, unbox_tup, unbox_lst, cellIn_f, cellIn_flat, cellIn_int, cellIn_bl, cellNew_int, cellNew_bl, cellNew_lst, isBp_fz, isBp_sl, isBp_bp, b_add, b_sub, b_mul, b_fdiv, b_fdivW, b_mod, b_pow, b_cat, c_lt, c_le, c_gt, c_ge, c_eq, c_ne, o_lt, o_le, deqT_int, i_len, i_lent, i_list, i_all, i_any, x_lst, x_tup, ix_pos, t_bl, y_bl, y_bli, y_int, y_lst, it_seq, it_seqt, it_rng, it_rng2, s_lst, m_app, okMul_l, okMul_r, toCell, runD, setD, partD, isNonE, bindP, wipeE,
    List.map_cons, List.map_nil, List.getElem?_cons_zero, List.getElem?_cons_succ, List.set_cons_zero, List.set_cons_succ, List.foldl_cons, List.foldl_nil, List.any_cons, List.any_nil, List.all_cons, List.all_nil, List.length_cons, List.length_nil, Option.map_some, Option.bind_some, Option.map_none, Option.bind_none,
    Bool.false_or, Bool.or_false, Bool.true_or, Bool.or_true, Bool.and_true, Bool.true_and, Bool.false_and, Bool.and_false, Bool.not_true, Bool.not_false, ite_true, ite_false, if_true, if_false, if_pos, PGn_con, flat, flats, reduceCtorEq, ne_eq, not_false_eq_true, not_true_eq_false, and_true, true_and, Bool.false_eq_true, isFl, simple,
    eq_self, beq_self_eq_true, Int.reduceBEq, bmOk, i_int, i_intb, i_sum, deqT_str, deqT_bl, nonb, guardLs, lockL, putT, guardM, changeAt, isLst, Nat.reduceLT, Int.reduceEq, Nat.reduceAdd, Int.reducePow, Int.reduceToNat, Nat.reducePow, Int.reduceLE, Int.reduceLT, Nat.reduceLeDiff, Int.reduceNeg, Int.reduceMul, Int.reduceAdd, Nat.reduceMul, decide_true, decide_false, Bool.and_eq_true, decide_eq_true_eq, Int.zero_le_ofNat, nS, IL, List.length_map, h0, Int.le_refl]⟩
  obtain ⟨b, e⟩ := test
  rw [if_eq e]
  cases b with
  | false => exact ⟨[], none, none, none, (if_neg (by decide)).trans run_nil, Nat.zero_le _, fun x h => (nomatch h)⟩
  | true =>
    obtain ⟨fs', r5', r6', r7', e2, h1, h2⟩ := num_out (P := P) (n := n) (S := S) ns at_ many hm cs [] none none none none none (Nat.zero_le _) fun x h => (nomatch h)
    exact ⟨fs', r5', r6', r7', (run_next e2).trans run_nil, h1, h2⟩
theorem near_mul {k : Int} (h1 : 0 ≤ k) (h2 : k ≤ 1000000) : 0 ≤ 1009 * k * k ∧ 1009 * k * k ≤ 1009000000 * 1000000 :=
  ⟨Int.mul_nonneg (by omega) h1, Int.mul_le_mul (by omega) h2 h1 (by decide)⟩
theorem num_turn (ns : List Int) (at_ : Int) (many : Nat) (cs fs : List Int) (r5 r6 r7 r9 : Option Cell) (k : Int) (h1 : 0 ≤ k) (h2 : k ≤ 1000000) (hl : fs.length ≤ 1000000) :
    ∃ x r9', execs P n [.asg 9 (.bin .add (.bin .add (.bin .mul (.bin .mul (.int 1009) (.var 8)) (.var 8)) (.bin .mul (.int 7) (.var 8))) (.int 11)),
    .ite (.cmp .gt (.bi .len [.var 3]) (.int 0)) [.asg 9 (.bin .add (.bin .add (.var 9) (.bin .mod (.idx (.var 3) (.bin .mod (.var 8) (.bi .len [.var 3]))) (.int 2147483647))) (.bin .mod (.idx (.var 3) (.int 0)) (.int 1000003)))] [],
    .asg 9 (.bin .mod (.bin .mul (.var 9) (.var 9)) (.int 2147483629)),
    .asg 9 (.bin .mod (.bin .add (.bin .mul (.var 9) (.int 48271)) (.bin .mul (.int 31) (.var 8))) (.int 2147483647)),
    .mut none .append (.var 4) [.bin .mod (.bin .mod (.bin .mul (.var 9) (.var 9)) (.int 998244353)) (.bin .pow (.int 10) (.int 6))]]
      (nS ns at_ many (.own (IL cs)) fs r5 r6 r7 (some (.fz (.int k))) r9 S) = some (.ok .next, nS ns at_ many (.own (IL cs)) (fs ++ [x]) r5 r6 r7 (some (.fz (.int k))) r9' S) ∧ sixD x := by
  have ka : -18446744073709551616 < k := by omega
  have kb : k < 18446744073709551616 := by omega
  obtain ⟨m1, m2⟩ := near_mul h1 h2
  have s1 : exec P n (.asg 9 (.bin .add (.bin .add (.bin .mul (.bin .mul (.int 1009) (.var 8)) (.var 8)) (.bin .mul (.int 7) (.var 8))) (.int 11))) (nS ns at_ many (.own (IL cs)) fs r5 r6 r7 (some (.fz (.int k))) r9 S) =
      some (.ok .next, nS ns at_ many (.own (IL cs)) fs r5 r6 r7 (some (.fz (.int k))) (some (.fz (.int (1009 * k * k + 7 * k + 11)))) S) := by
    simp only [Lk.execs, Lk.exec, evV, evT, evR, ev, evTA, evTO, evTA0, evAnd, evOr, evA, evS, evI, bind_eq, ok_eq, of_som, nw_eq, bl_eq, cell_som, asV_pl, asV_fz, asV_own, asV_br, asC_nw, asC_fz, asC_bp, asT_bl, asT_plbl, setSlot_eq,
    guardL_fz, guardL_bp, guardL_sl, guardX_fz, guardX_bp, guardX_sl, unbox_bl, unbox_int, unbox_str, unbox_non, unbox_tup, unbox_lst, cellIn_f, cellIn_flat, cellIn_int, cellIn_bl, cellNew_int, cellNew_bl, cellNew_lst, isBp_fz, isBp_sl, isBp_bp, b_add, b_sub, b_mul, b_fdiv, b_fdivW, b_mod, b_pow, b_cat, c_lt, c_le, c_gt, c_ge, c_eq, c_ne, o_lt, o_le, deqT_int, i_len, i_lent, i_list, i_all, i_any, x_lst, x_tup, ix_pos, t_bl, y_bl, y_bli, y_int, y_lst, it_seq, it_seqt, it_rng, it_rng2, s_lst, m_app, okMul_l, okMul_r, toCell, runD, setD, partD, isNonE, bindP, wipeE,
    List.map_cons, List.map_nil, List.getElem?_cons_zero, List.getElem?_cons_succ, List.set_cons_zero, List.set_cons_succ, List.foldl_cons, List.foldl_nil, List.any_cons, List.any_nil, List.all_cons, List.all_nil, List.length_cons, List.length_nil, Option.map_some, Option.bind_some, Option.map_none, Option.bind_none,
    Bool.false_or, Bool.or_false, Bool.true_or, Bool.or_true, Bool.and_true, Bool.true_and, Bool.false_and, Bool.and_false, Bool.not_true, Bool.not_false, ite_true, ite_false, if_true, if_false, if_pos, PGn_con, flat, flats, reduceCtorEq, ne_eq, not_false_eq_true, not_true_eq_false, and_true, true_and, Bool.false_eq_true, isFl, simple,
    eq_self, beq_self_eq_true, Int.reduceBEq, bmOk, i_int, i_intb, i_sum, deqT_str, deqT_bl, nonb, guardLs, lockL, putT, guardM, changeAt, isLst, Nat.reduceLT, Int.reduceEq, Nat.reduceAdd, Int.reducePow, Int.reduceToNat, Nat.reducePow, Int.reduceLE, Int.reduceLT, Nat.reduceLeDiff, Int.reduceNeg, Int.reduceMul, Int.reduceAdd, Nat.reduceMul, decide_true, decide_false, Bool.and_eq_true, decide_eq_true_eq, Int.zero_le_ofNat, nS, ka, kb]
  have s2 : ∃ y, (0 ≤ y ∧ y ≤ 1009 * k * k + 7 * k + 11 + 2147483647 + 1000003) ∧ exec P n (.ite (.cmp .gt (.bi .len [.var 3]) (.int 0)) [.asg 9 (.bin .add (.bin .add (.var 9) (.bin .mod (.idx (.var 3) (.bin .mod (.var 8) (.bi .len [.var 3]))) (.int 2147483647))) (.bin .mod (.idx (.var 3) (.int 0)) (.int 1000003)))] [])
      (nS ns at_ many (.own (IL cs)) fs r5 r6 r7 (some (.fz (.int k))) (some (.fz (.int (1009 * k * k + 7 * k + 11)))) S) = some (.ok .next, nS ns at_ many (.own (IL cs)) fs r5 r6 r7 (some (.fz (.int k))) (some (.fz (.int y))) S) := by
    by_cases hc : cs = []
    · subst hc
      exact ⟨1009 * k * k + 7 * k + 11, ⟨by omega, by omega⟩, by simp only [Lk.execs, Lk.exec, evV, evT, evR, ev, evTA, evTO, evTA0, evAnd, evOr, evA, evS, evI, bind_eq, ok_eq, of_som, nw_eq, bl_eq, cell_som, asV_pl, asV_fz, asV_own, asV_br, asC_nw, asC_fz, asC_bp, asT_bl, asT_plbl, setSlot_eq,
    guardL_fz, guardL_bp, guardL_sl, guardX_fz, guardX_bp, guardX_sl, unbox_bl, unbox_int, unbox_str, unbox_non, unbox_tup, unbox_lst, cellIn_f, cellIn_flat, cellIn_int, cellIn_bl, cellNew_int, cellNew_bl, cellNew_lst, isBp_fz, isBp_sl, isBp_bp, b_add, b_sub, b_mul, b_fdiv, b_fdivW, b_mod, b_pow, b_cat, c_lt, c_le, c_gt, c_ge, c_eq, c_ne, o_lt, o_le, deqT_int, i_len, i_lent, i_list, i_all, i_any, x_lst, x_tup, ix_pos, t_bl, y_bl, y_bli, y_int, y_lst, it_seq, it_seqt, it_rng, it_rng2, s_lst, m_app, okMul_l, okMul_r, toCell, runD, setD, partD, isNonE, bindP, wipeE,
    List.map_cons, List.map_nil, List.getElem?_cons_zero, List.getElem?_cons_succ, List.set_cons_zero, List.set_cons_succ, List.foldl_cons, List.foldl_nil, List.any_cons, List.any_nil, List.all_cons, List.all_nil, List.length_cons, List.length_nil, Option.map_some, Option.bind_some, Option.map_none, Option.bind_none,
    Bool.false_or, Bool.or_false, Bool.true_or, Bool.or_true, Bool.and_true, Bool.true_and, Bool.false_and, Bool.and_false, Bool.not_true, Bool.not_false, ite_true, ite_false, if_true, if_false, if_pos, PGn_con, flat, flats, reduceCtorEq, ne_eq, not_false_eq_true, not_true_eq_false, and_true, true_and, Bool.false_eq_true, isFl, simple,
    eq_self, beq_self_eq_true, Int.reduceBEq, bmOk, i_int, i_intb, i_sum, deqT_str, deqT_bl, nonb, guardLs, lockL, putT, guardM, changeAt, isLst, Nat.reduceLT, Int.reduceEq, Nat.reduceAdd, Int.reducePow, Int.reduceToNat, Nat.reducePow, Int.reduceLE, Int.reduceLT, Nat.reduceLeDiff, Int.reduceNeg, Int.reduceMul, Int.reduceAdd, Nat.reduceMul, decide_true, decide_false, Bool.and_eq_true, decide_eq_true_eq, Int.zero_le_ofNat, nS, IL, Int.lt_irrefl, Int.ofNat_zero]⟩
    · have hlen : 0 < cs.length := by cases cs with
        | nil => exact absurd rfl hc
        | cons => simp
      have hpos : (0 : Int) < (cs.length : Int) := by omega
      have hk0 : 0 ≤ k % (cs.length : Int) := Int.emod_nonneg _ (by omega)
      have hk1 : k % (cs.length : Int) < (cs.length : Int) := Int.emod_lt_of_pos _ hpos
      have hk2 : (k % (cs.length : Int)).toNat < cs.length := by omega
      have g0 : (cs.map D.int)[0]? = some (.int cs[0]) := ints_at (List.getElem?_eq_getElem hlen)
      have gk : (cs.map D.int)[(k % (cs.length : Int)).toNat]? = some (.int cs[(k % (cs.length : Int)).toNat]) := ints_at (List.getElem?_eq_getElem hk2)
      generalize cs[0] = c0 at g0
      generalize cs[(k % (cs.length : Int)).toNat] = ck at gk
      have b1 := Int.emod_nonneg ck (b := 2147483647) (by decide)
      have b2 := Int.emod_lt_of_pos ck (b := 2147483647) (by decide)
      have b3 := Int.emod_nonneg c0 (b := 1000003) (by decide)
      have b4 := Int.emod_lt_of_pos c0 (b := 1000003) (by decide)
      have hx : (cs.map D.int).length = cs.length := List.length_map _
      refine ⟨1009 * k * k + 7 * k + 11 + ck % 2147483647 + c0 % 1000003, ⟨by omega, by omega⟩, ?_⟩
      simp only [nS, IL]
      generalize cs.map D.int = xs at g0 gk hx ⊢
      rw [← hx] at hpos hk0 hk1 gk
      simp only [Lk.execs, Lk.exec, evV, evT, evR, ev, evTA, evTO, evTA0, evAnd, evOr, evA, evS, evI, bind_eq, ok_eq, of_som, nw_eq, bl_eq, cell_som, asV_pl, asV_fz, asV_own, asV_br, asC_nw, asC_fz, asC_bp, asT_bl, asT_plbl, setSlot_eq,
    guardL_fz, guardL_bp, guardL_sl, guardX_fz, guardX_bp, guardX_sl, unbox_bl, unbox_int, unbox_str, unbox_non, unbox_tup, unbox_lst, cellIn_f, cellIn_flat, cellIn_int, cellIn_bl, cellNew_int, cellNew_bl, cellNew_lst, isBp_fz, isBp_sl, isBp_bp, b_add, b_sub, b_mul, b_fdiv, b_fdivW, b_mod, b_pow, b_cat, c_lt, c_le, c_gt, c_ge, c_eq, c_ne, o_lt, o_le, deqT_int, i_len, i_lent, i_list, i_all, i_any, x_lst, x_tup, ix_pos, t_bl, y_bl, y_bli, y_int, y_lst, it_seq, it_seqt, it_rng, it_rng2, s_lst, m_app, okMul_l, okMul_r, toCell, runD, setD, partD, isNonE, bindP, wipeE,
    List.map_cons, List.map_nil, List.getElem?_cons_zero, List.getElem?_cons_succ, List.set_cons_zero, List.set_cons_succ, List.foldl_cons, List.foldl_nil, List.any_cons, List.any_nil, List.all_cons, List.all_nil, List.length_cons, List.length_nil, Option.map_some, Option.bind_some, Option.map_none, Option.bind_none,
    Bool.false_or, Bool.or_false, Bool.true_or, Bool.or_true, Bool.and_true, Bool.true_and, Bool.false_and, Bool.and_false, Bool.not_true, Bool.not_false, ite_true, ite_false, if_true, if_false, if_pos, PGn_con, flat, flats, reduceCtorEq, ne_eq, not_false_eq_true, not_true_eq_false, and_true, true_and, Bool.false_eq_true, isFl, simple,
    eq_self, beq_self_eq_true, Int.reduceBEq, bmOk, i_int, i_intb, i_sum, deqT_str, deqT_bl, nonb, guardLs, lockL, putT, guardM, changeAt, isLst, Nat.reduceLT, Int.reduceEq, Nat.reduceAdd, Int.reducePow, Int.reduceToNat, Nat.reducePow, Int.reduceLE, Int.reduceLT, Nat.reduceLeDiff, Int.reduceNeg, Int.reduceMul, Int.reduceAdd, Nat.reduceMul, decide_true, decide_false, Bool.and_eq_true, decide_eq_true_eq, Int.zero_le_ofNat, nS, hpos, hk0, hk1, gk, g0, Int.le_refl]
  obtain ⟨y, ⟨y1, y2⟩, s2⟩ := s2
  have ya : -18446744073709551616 < y := by omega
  have yb : y < 18446744073709551616 := by omega
  have s3 : exec P n (.asg 9 (.bin .mod (.bin .mul (.var 9) (.var 9)) (.int 2147483629))) (nS ns at_ many (.own (IL cs)) fs r5 r6 r7 (some (.fz (.int k))) (some (.fz (.int y))) S) =
      some (.ok .next, nS ns at_ many (.own (IL cs)) fs r5 r6 r7 (some (.fz (.int k))) (some (.fz (.int (y * y % 2147483629)))) S) := by
    simp only [Lk.execs, Lk.exec, evV, evT, evR, ev, evTA, evTO, evTA0, evAnd, evOr, evA, evS, evI, bind_eq, ok_eq, of_som, nw_eq, bl_eq, cell_som, asV_pl, asV_fz, asV_own, asV_br, asC_nw, asC_fz, asC_bp, asT_bl, asT_plbl, setSlot_eq,
    guardL_fz, guardL_bp, guardL_sl, guardX_fz, guardX_bp, guardX_sl, unbox_bl, unbox_int, unbox_str, unbox_non, unbox_tup, unbox_lst, cellIn_f, cellIn_flat, cellIn_int, cellIn_bl, cellNew_int, cellNew_bl, cellNew_lst, isBp_fz, isBp_sl, isBp_bp, b_add, b_sub, b_mul, b_fdiv, b_fdivW, b_mod, b_pow, b_cat, c_lt, c_le, c_gt, c_ge, c_eq, c_ne, o_lt, o_le, deqT_int, i_len, i_lent, i_list, i_all, i_any, x_lst, x_tup, ix_pos, t_bl, y_bl, y_bli, y_int, y_lst, it_seq, it_seqt, it_rng, it_rng2, s_lst, m_app, okMul_l, okMul_r, toCell, runD, setD, partD, isNonE, bindP, wipeE,
    List.map_cons, List.map_nil, List.getElem?_cons_zero, List.getElem?_cons_succ, List.set_cons_zero, List.set_cons_succ, List.foldl_cons, List.foldl_nil, List.any_cons, List.any_nil, List.all_cons, List.all_nil, List.length_cons, List.length_nil, Option.map_some, Option.bind_some, Option.map_none, Option.bind_none,
    Bool.false_or, Bool.or_false, Bool.true_or, Bool.or_true, Bool.and_true, Bool.true_and, Bool.false_and, Bool.and_false, Bool.not_true, Bool.not_false, ite_true, ite_false, if_true, if_false, if_pos, PGn_con, flat, flats, reduceCtorEq, ne_eq, not_false_eq_true, not_true_eq_false, and_true, true_and, Bool.false_eq_true, isFl, simple,
    eq_self, beq_self_eq_true, Int.reduceBEq, bmOk, i_int, i_intb, i_sum, deqT_str, deqT_bl, nonb, guardLs, lockL, putT, guardM, changeAt, isLst, Nat.reduceLT, Int.reduceEq, Nat.reduceAdd, Int.reducePow, Int.reduceToNat, Nat.reducePow, Int.reduceLE, Int.reduceLT, Nat.reduceLeDiff, Int.reduceNeg, Int.reduceMul, Int.reduceAdd, Nat.reduceMul, decide_true, decide_false, Bool.and_eq_true, decide_eq_true_eq, Int.zero_le_ofNat, nS, ya, yb]
  generalize y * y % 2147483629 = z at s3
  have s4 : exec P n (.asg 9 (.bin .mod (.bin .add (.bin .mul (.var 9) (.int 48271)) (.bin .mul (.int 31) (.var 8))) (.int 2147483647))) (nS ns at_ many (.own (IL cs)) fs r5 r6 r7 (some (.fz (.int k))) (some (.fz (.int z))) S) =
      some (.ok .next, nS ns at_ many (.own (IL cs)) fs r5 r6 r7 (some (.fz (.int k))) (some (.fz (.int ((z * 48271 + 31 * k) % 2147483647)))) S) := by
    simp only [Lk.execs, Lk.exec, evV, evT, evR, ev, evTA, evTO, evTA0, evAnd, evOr, evA, evS, evI, bind_eq, ok_eq, of_som, nw_eq, bl_eq, cell_som, asV_pl, asV_fz, asV_own, asV_br, asC_nw, asC_fz, asC_bp, asT_bl, asT_plbl, setSlot_eq,
    guardL_fz, guardL_bp, guardL_sl, guardX_fz, guardX_bp, guardX_sl, unbox_bl, unbox_int, unbox_str, unbox_non, unbox_tup, unbox_lst, cellIn_f, cellIn_flat, cellIn_int, cellIn_bl, cellNew_int, cellNew_bl, cellNew_lst, isBp_fz, isBp_sl, isBp_bp, b_add, b_sub, b_mul, b_fdiv, b_fdivW, b_mod, b_pow, b_cat, c_lt, c_le, c_gt, c_ge, c_eq, c_ne, o_lt, o_le, deqT_int, i_len, i_lent, i_list, i_all, i_any, x_lst, x_tup, ix_pos, t_bl, y_bl, y_bli, y_int, y_lst, it_seq, it_seqt, it_rng, it_rng2, s_lst, m_app, okMul_l, okMul_r, toCell, runD, setD, partD, isNonE, bindP, wipeE,
    List.map_cons, List.map_nil, List.getElem?_cons_zero, List.getElem?_cons_succ, List.set_cons_zero, List.set_cons_succ, List.foldl_cons, List.foldl_nil, List.any_cons, List.any_nil, List.all_cons, List.all_nil, List.length_cons, List.length_nil, Option.map_some, Option.bind_some, Option.map_none, Option.bind_none,
    Bool.false_or, Bool.or_false, Bool.true_or, Bool.or_true, Bool.and_true, Bool.true_and, Bool.false_and, Bool.and_false, Bool.not_true, Bool.not_false, ite_true, ite_false, if_true, if_false, if_pos, PGn_con, flat, flats, reduceCtorEq, ne_eq, not_false_eq_true, not_true_eq_false, and_true, true_and, Bool.false_eq_true, isFl, simple,
    eq_self, beq_self_eq_true, Int.reduceBEq, bmOk, i_int, i_intb, i_sum, deqT_str, deqT_bl, nonb, guardLs, lockL, putT, guardM, changeAt, isLst, Nat.reduceLT, Int.reduceEq, Nat.reduceAdd, Int.reducePow, Int.reduceToNat, Nat.reducePow, Int.reduceLE, Int.reduceLT, Nat.reduceLeDiff, Int.reduceNeg, Int.reduceMul, Int.reduceAdd, Nat.reduceMul, decide_true, decide_false, Bool.and_eq_true, decide_eq_true_eq, Int.zero_le_ofNat, nS]
  have v1 := Int.emod_nonneg (z * 48271 + 31 * k) (b := 2147483647) (by decide)
  have v2 := Int.emod_lt_of_pos (z * 48271 + 31 * k) (b := 2147483647) (by decide)
  generalize (z * 48271 + 31 * k) % 2147483647 = v at s4 v1 v2
  have va : -18446744073709551616 < v := by omega
  have vb : v < 18446744073709551616 := by omega
  have hlen : fs.length < line := by unfold line; omega
  have s5 : exec P n (.mut none .append (.var 4) [.bin .mod (.bin .mod (.bin .mul (.var 9) (.var 9)) (.int 998244353)) (.bin .pow (.int 10) (.int 6))]) (nS ns at_ many (.own (IL cs)) fs r5 r6 r7 (some (.fz (.int k))) (some (.fz (.int v))) S) =
      some (.ok .next, nS ns at_ many (.own (IL cs)) (fs ++ [v * v % 998244353 % 1000000]) r5 r6 r7 (some (.fz (.int k))) (some (.fz (.int v))) S) := by
    simp only [Lk.execs, Lk.exec, evV, evT, evR, ev, evTA, evTO, evTA0, evAnd, evOr, evA, evS, evI, bind_eq, ok_eq, of_som, nw_eq, bl_eq, cell_som, asV_pl, asV_fz, asV_own, asV_br, asC_nw, asC_fz, asC_bp, asT_bl, asT_plbl, setSlot_eq,
    guardL_fz, guardL_bp, guardL_sl, guardX_fz, guardX_bp, guardX_sl, unbox_bl, unbox_int, unbox_str, unbox_non, unbox_tup, unbox_lst, cellIn_f, cellIn_flat, cellIn_int, cellIn_bl, cellNew_int, cellNew_bl, cellNew_lst, isBp_fz, isBp_sl, isBp_bp, b_add, b_sub, b_mul, b_fdiv, b_fdivW, b_mod, b_pow, b_cat, c_lt, c_le, c_gt, c_ge, c_eq, c_ne, o_lt, o_le, deqT_int, i_len, i_lent, i_list, i_all, i_any, x_lst, x_tup, ix_pos, t_bl, y_bl, y_bli, y_int, y_lst, it_seq, it_seqt, it_rng, it_rng2, s_lst, m_app, okMul_l, okMul_r, toCell, runD, setD, partD, isNonE, bindP, wipeE,
    List.map_cons, List.map_nil, List.getElem?_cons_zero, List.getElem?_cons_succ, List.set_cons_zero, List.set_cons_succ, List.foldl_cons, List.foldl_nil, List.any_cons, List.any_nil, List.all_cons, List.all_nil, List.length_cons, List.length_nil, Option.map_some, Option.bind_some, Option.map_none, Option.bind_none,
    Bool.false_or, Bool.or_false, Bool.true_or, Bool.or_true, Bool.and_true, Bool.true_and, Bool.false_and, Bool.and_false, Bool.not_true, Bool.not_false, ite_true, ite_false, if_true, if_false, if_pos, PGn_con, flat, flats, reduceCtorEq, ne_eq, not_false_eq_true, not_true_eq_false, and_true, true_and, Bool.false_eq_true, isFl, simple,
    eq_self, beq_self_eq_true, Int.reduceBEq, bmOk, i_int, i_intb, i_sum, deqT_str, deqT_bl, nonb, guardLs, lockL, putT, guardM, changeAt, isLst, Nat.reduceLT, Int.reduceEq, Nat.reduceAdd, Int.reducePow, Int.reduceToNat, Nat.reducePow, Int.reduceLE, Int.reduceLT, Nat.reduceLeDiff, Int.reduceNeg, Int.reduceMul, Int.reduceAdd, Nat.reduceMul, decide_true, decide_false, Bool.and_eq_true, decide_eq_true_eq, Int.zero_le_ofNat, nS, IL, va, vb, hlen, List.length_map, List.map_append]
  exact ⟨_, _, (run_next s1).trans ((run_next s2).trans ((run_next s3).trans ((run_next s4).trans ((run_next s5).trans run_nil)))), six_mod _⟩
/-! the whole: so many numbers, each of six digits -/
theorem numbers_ok (ns : List Int) (at_ : Int) (many : Nat) (hm : many ≤ 1000000) (hl : ns.length ≤ 1000) :
    ∃ (fs : List Int) (s' : Stt), execs P n numB ⟨[some (.fz (IL ns)), some (.fz (.int at_)), some (.fz (.int many)), none, none, none, none, none, none, none], S⟩ = some (.ok (.ret (.own (IL fs))), s') ∧ s'.S = S ∧ fs.length = many ∧ ∀ x ∈ fs, sixD x := by
  obtain ⟨cs, e1, hc⟩ := num_a (P := P) (n := n) (S := S) ns at_ many hl
  obtain ⟨fs, r5, r6, r7, e3, h1, h2⟩ := num_if (P := P) (n := n) (S := S) ns at_ many hm cs
  have e2 : exec P n (.asg 4 (.lst false [])) ⟨[some (.fz (IL ns)), some (.fz (.int at_)), some (.fz (.int many)), some (.own (IL cs)), none, none, none, none, none, none], S⟩ = some (.ok .next, nS ns at_ many (.own (IL cs)) [] none none none none none S) := by
    simp only [Lk.execs, Lk.exec, evV, evT, evR, ev, evTA, evTO, evTA0, evAnd, evOr, evA, evS, evI, bind_eq, ok_eq, of_som, nw_eq, bl_eq, cell_som, asV_pl, asV_fz, asV_own, asV_br, asC_nw, asC_fz, asC_bp, asT_bl, asT_plbl, setSlot_eq,
    guardL_fz, guardL_bp, guardL_sl, guardX_fz, guardX_bp, guardX_sl, unbox_bl, unbox_int, unbox_str, unbox_non, unbox_tup, unbox_lst, cellIn_f, cellIn_flat, cellIn_int, cellIn_bl, cellNew_int, cellNew_bl, cellNew_lst, isBp_fz, isBp_sl, isBp_bp, b_add, b_sub, b_mul, b_fdiv, b_fdivW, b_mod, b_pow, b_cat, c_lt, c_le, c_gt, c_ge, c_eq, c_ne, o_lt, o_le, deqT_int, i_len, i_lent, i_list, i_all, i_any, x_lst, x_tup, ix_pos, t_bl, y_bl, y_bli, y_int, y_lst, it_seq, it_seqt, it_rng, it_rng2, s_lst, m_app, okMul_l, okMul_r, toCell, runD, setD, partD, isNonE, bindP, wipeE,
    List.map_cons, List.map_nil, List.getElem?_cons_zero, List.getElem?_cons_succ, List.set_cons_zero, List.set_cons_succ, List.foldl_cons, List.foldl_nil, List.any_cons, List.any_nil, List.all_cons, List.all_nil, List.length_cons, List.length_nil, Option.map_some, Option.bind_some, Option.map_none, Option.bind_none,
    Bool.false_or, Bool.or_false, Bool.true_or, Bool.or_true, Bool.and_true, Bool.true_and, Bool.false_and, Bool.and_false, Bool.not_true, Bool.not_false, ite_true, ite_false, if_true, if_false, if_pos, PGn_con, flat, flats, reduceCtorEq, ne_eq, not_false_eq_true, not_true_eq_false, and_true, true_and, Bool.false_eq_true, isFl, simple,
    eq_self, beq_self_eq_true, Int.reduceBEq, bmOk, i_int, i_intb, i_sum, deqT_str, deqT_bl, nonb, guardLs, lockL, putT, guardM, changeAt, isLst, Nat.reduceLT, Int.reduceEq, Nat.reduceAdd, Int.reducePow, Int.reduceToNat, Nat.reducePow, Int.reduceLE, Int.reduceLT, Nat.reduceLeDiff, Int.reduceNeg, Int.reduceMul, Int.reduceAdd, Nat.reduceMul, decide_true, decide_false, Bool.and_eq_true, decide_eq_true_eq, Int.zero_le_ofNat, nS, IL]
  have ei : evI P [.bi .len [.var 4], .var 2] (nS ns at_ many (.own (IL cs)) fs r5 r6 r7 none none S) = some (.ok [(.fz, .int fs.length), (.fz, .int many)], nS ns at_ many (.own (IL cs)) fs r5 r6 r7 none none S) := by
    simp only [Lk.execs, Lk.exec, evV, evT, evR, ev, evTA, evTO, evTA0, evAnd, evOr, evA, evS, evI, bind_eq, ok_eq, of_som, nw_eq, bl_eq, cell_som, asV_pl, asV_fz, asV_own, asV_br, asC_nw, asC_fz, asC_bp, asT_bl, asT_plbl, setSlot_eq,
    guardL_fz, guardL_bp, guardL_sl, guardX_fz, guardX_bp, guardX_sl, unbox_bl, unbox_int, unbox_str, unbox_non, unbox_tup, unbox_lst, cellIn_f, cellIn_flat, cellIn_int, cellIn_bl, cellNew_int, cellNew_bl, cellNew_lst, isBp_fz, isBp_sl, isBp_bp, b_add, b_sub, b_mul, b_fdiv, b_fdivW, b_mod, b_pow, b_cat, c_lt, c_le, c_gt, c_ge, c_eq, c_ne, o_lt, o_le, deqT_int, i_len, i_lent, i_list, i_all, i_any, x_lst, x_tup, ix_pos, t_bl, y_bl, y_bli, y_int, y_lst, it_seq, it_seqt, it_rng, it_rng2, s_lst, m_app, okMul_l, okMul_r, toCell, runD, setD, partD, isNonE, bindP, wipeE,
    List.map_cons, List.map_nil, List.getElem?_cons_zero, List.getElem?_cons_succ, List.set_cons_zero, List.set_cons_succ, List.foldl_cons, List.foldl_nil, List.any_cons, List.any_nil, List.all_cons, List.all_nil, List.length_cons, List.length_nil, Option.map_some, Option.bind_some, Option.map_none, Option.bind_none,
    Bool.false_or, Bool.or_false, Bool.true_or, Bool.or_true, Bool.and_true, Bool.true_and, Bool.false_and, Bool.and_false, Bool.not_true, Bool.not_false, ite_true, ite_false, if_true, if_false, if_pos, PGn_con, flat, flats, reduceCtorEq, ne_eq, not_false_eq_true, not_true_eq_false, and_true, true_and, Bool.false_eq_true, isFl, simple,
    eq_self, beq_self_eq_true, Int.reduceBEq, bmOk, i_int, i_intb, i_sum, deqT_str, deqT_bl, nonb, guardLs, lockL, putT, guardM, changeAt, isLst, Nat.reduceLT, Int.reduceEq, Nat.reduceAdd, Int.reducePow, Int.reduceToNat, Nat.reducePow, Int.reduceLE, Int.reduceLT, Nat.reduceLeDiff, Int.reduceNeg, Int.reduceMul, Int.reduceAdd, Nat.reduceMul, decide_true, decide_false, Bool.and_eq_true, decide_eq_true_eq, Int.zero_le_ofNat, nS, IL, List.length_map]
  have step : _ := forL_inv (p := .nm 8) (pb := false) (body := execs P n [.asg 9 (.bin .add (.bin .add (.bin .mul (.bin .mul (.int 1009) (.var 8)) (.var 8)) (.bin .mul (.int 7) (.var 8))) (.int 11)),
    .ite (.cmp .gt (.bi .len [.var 3]) (.int 0)) [.asg 9 (.bin .add (.bin .add (.var 9) (.bin .mod (.idx (.var 3) (.bin .mod (.var 8) (.bi .len [.var 3]))) (.int 2147483647))) (.bin .mod (.idx (.var 3) (.int 0)) (.int 1000003)))] [],
    .asg 9 (.bin .mod (.bin .mul (.var 9) (.var 9)) (.int 2147483629)),
    .asg 9 (.bin .mod (.bin .add (.bin .mul (.var 9) (.int 48271)) (.bin .mul (.int 31) (.var 8))) (.int 2147483647)),
    .mut none .append (.var 4) [.bin .mod (.bin .mod (.bin .mul (.var 9) (.var 9)) (.int 998244353)) (.bin .pow (.int 10) (.int 6))]])
    (fun k s => ∃ fs' r8 r9, s = nS ns at_ many (.own (IL cs)) fs' r5 r6 r7 r8 r9 S ∧ fs'.length = fs.length + k ∧ ∀ x ∈ fs', sixD x) (ds := rngD fs.length ((many : Int) - fs.length).toNat) (k := 0) ⟨fs, none, none, rfl, rfl, h2⟩
  obtain ⟨s', e, fs', r8, r9, rfl, q1, q2⟩ := step (by
    rintro i d s hd ⟨fs', r8, r9, rfl, q1, q2⟩
    obtain ⟨hi, rfl⟩ := rng_get hd
    obtain ⟨x, r9', e, hx⟩ := num_turn (P := P) (n := n) (S := S) ns at_ many cs fs' r5 r6 r7 r9 ((fs.length : Int) + i) (by omega) (by omega) (by omega)
    refine ⟨_, rfl, _, .next, e, .inl rfl, fs' ++ [x], some (.fz (.int ((fs.length : Int) + i))), r9', rfl, by rw [List.length_append]; show fs'.length + 1 = _; omega, fun z hz => ?_⟩
    rcases List.mem_append.mp hz with h | h
    · exact q2 z h
    · rw [List.mem_singleton.mp h]
      exact hx)
  rw [rng_len] at q1
  have e4 := (for_fz (body := [.asg 9 (.bin .add (.bin .add (.bin .mul (.bin .mul (.int 1009) (.var 8)) (.var 8)) (.bin .mul (.int 7) (.var 8))) (.int 11)),
    .ite (.cmp .gt (.bi .len [.var 3]) (.int 0)) [.asg 9 (.bin .add (.bin .add (.var 9) (.bin .mod (.idx (.var 3) (.bin .mod (.var 8) (.bi .len [.var 3]))) (.int 2147483647))) (.bin .mod (.idx (.var 3) (.int 0)) (.int 1000003)))] [],
    .asg 9 (.bin .mod (.bin .mul (.var 9) (.var 9)) (.int 2147483629)),
    .asg 9 (.bin .mod (.bin .add (.bin .mul (.var 9) (.int 48271)) (.bin .mul (.int 31) (.var 8))) (.int 2147483647)),
    .mut none .append (.var 4) [.bin .mod (.bin .mod (.bin .mul (.var 9) (.var 9)) (.int 998244353)) (.bin .pow (.int 10) (.int 6))]]) (n := n) (p := .nm 8) ei (it_rng2 (by omega) (by omega) (by omega) (by omega)) (by simp)).trans e
  refine ⟨fs', _, (run_next e1).trans ((run_next e2).trans ((run_next e3).trans ((run_next e4).trans (run_ret (ret_slot rfl))))), rfl, by omega, q2⟩
end
end Lk

namespace Lk
open PySem

section
variable {P : Pg} {n : Nat} {s s1 s2 : Stt} {t : Bool} {a b e : Ex} {va vb v : Md × D} {d : D}
theorem ev_nw {c : Cell} (h : evV P false e s = some (.ok (.nw c), s1)) (hv : ofCell c = some v) : ev P e s = some (.ok v, s1) := by
  rw [ev, bind_eq, h]
  dsimp only
  show M.of (ofCell c) s1 = _
  rw [hv]
  rfl
theorem ev_own (h : evV P false e s = some (.ok (.nw (.own d)), s1)) : ev P e s = some (.ok (.fz, d), s1) := ev_nw h rfl
theorem ev_fz (h : evV P false e s = some (.ok (.nw (.fz d)), s1)) : ev P e s = some (.ok (.fz, d), s1) := ev_nw h rfl
theorem ev_pl {m : Md} (h : evV P false e s = some (.ok (.pl m d), s1)) : ev P e s = some (.ok (m, d), s1) := by
  rw [ev, bind_eq, h]
  rfl
theorem evR_nw {c : Cell} (h : evV P false e s = some (.ok (.nw c), s1)) : evR P e s = some (.ok c, s1) := by
  rw [evR, bind_eq, h]
  rfl
theorem evT_bl {b : Bool} (h : evV P true e s = some (.ok (.nw (.fz (.bl b))), s1)) : evT P e s = some (.ok b, s1) := by
  rw [evT, bind_eq, h]
  rfl
theorem guardX_no {α : Type} {m : Md} {x : M α} (h : isFl m = false) : guardX b m x = x := by
  cases m with
  | fl l k => cases h
  | fz => exact guardX_fz b x
  | bp => exact guardX_bp b x
  | sl i => exact guardX_sl b i x
theorem guardL_no {α : Type} {m : Md} {x : M α} (h : isFl m = false) : guardL m x = x := by
  cases m with
  | fl l k => cases h
  | _ => rfl
theorem bin_eq {op : BOp} (ha : ev P a s = some (.ok va, s1)) (hf : isFl va.1 = false) (hb : ev P b s1 = some (.ok vb, s2)) (h : binD op va.2 vb.2 = some d) : evV P t (.bin op a b) s = some (.ok (.nw (cellNew (isBp va || isBp vb) d)), s2) := by
  have ha : ((evV P false a).bind asV) s = _ := ha
  have hb : ((evV P false b).bind asV) s1 = _ := hb
  rw [evV, bind_eq, ha]
  dsimp only
  rw [guardX_no hf, bind_eq, hb]
  dsimp only
  rw [h]
  rfl
theorem cmp_eq {op : COp} {q : Bool} (ha : ev P a s = some (.ok va, s1)) (hf : isFl va.1 = false) (hb : ev P b s1 = some (.ok vb, s2)) (h : cmpD op va.2 vb.2 = some q) : evV P t (.cmp op a b) s = some (.ok (.nw (.fz (.bl q))), s2) := by
  have ha : ((evV P false a).bind asV) s = _ := ha
  have hb : ((evV P false b).bind asV) s1 = _ := hb
  rw [evV, bind_eq, ha]
  dsimp only
  rw [guardX_no hf, bind_eq, hb]
  dsimp only
  rw [h]
  rfl
theorem not_eq {q : Bool} (h : evV P t a s = some (.ok (.nw (.fz (.bl q))), s1)) : evV P t (.not a) s = some (.ok (.nw (.fz (.bl (!q)))), s1) := by
  rw [evV, bl_eq, bind_eq, bind_eq, h]
  rfl
theorem bi_eq1 {g : BI} (h : ev P a s = some (.ok v, s1)) (hf : isFl v.1 = false) (hd : biD g [v.2] = some d) : evV P t (.bi g [a]) s = some (.ok (.nw (cellNew (isBp v) d)), s1) := by
  have h : ((evV P false a).bind asV) s = _ := h
  rw [evV, nw_eq, evA, bind_eq, h]
  dsimp only
  rw [guardL_no hf, evA]
  dsimp only [List.map]
  rw [hd]
  show some (Ou.ok (Vl.nw (cellNew (List.any [v] isBp) d)), s1) = _
  rw [List.any_cons, List.any_nil, Bool.or_false]
theorem it_one (h : ev P a s = some (.ok v, s1)) (hf : isFl v.1 = false) : evI P [a] s = some (.ok [v], s1) := by
  have h : ((evV P false a).bind asV) s = _ := h
  rw [evI, bind_eq, h]
  dsimp only
  rw [hf]
  rfl
theorem rngL_eq {i : Int} {m : Md} (h : ev P a s = some (.ok (m, .int i), s1)) (hf : isFl m = false) (h1 : -4611686018427387904 ≤ i) (h2 : i < 4611686018427387904) (h3 : i.toNat ≤ line) : evV P t (.rngL [a]) s = some (.ok (.nw (.own (.lst (rngD 0 i.toNat)))), s1) := by
  rw [evV, bind_eq, it_one h hf]
  show M.cell (match itD .rng [.int i] with | some items => _ | none => none) s1 = _
  rw [it_rng h1 h2]
  dsimp only
  rw [rng_len, if_pos h3]
  rfl
end
/-! == of data that is alike -/
mutual
def refl_ok : D → Bool
  | .non => true | .bl _ => true | .int _ => true | .str _ => true
  | .tup xs => refl_oks xs
  | .lst xs => refl_oks xs
  | _ => false
def refl_oks : List D → Bool
  | [] => true
  | x :: xs => refl_ok x && refl_oks xs
end
mutual
theorem deq_refl : ∀ {x : D}, refl_ok x = true → deq x x = true
  | .non, _ => by unfold deq; rfl
  | .bl b, _ => by unfold deq; simp
  | .int b, _ => by unfold deq; simp
  | .str b, _ => by unfold deq; simp
  | .tup xs, h => by
    unfold refl_ok at h
    unfold deq
    exact deqs_refl h
  | .lst xs, h => by
    unfold refl_ok at h
    unfold deq
    exact deqs_refl h
  | .dic _ _, h => by unfold refl_ok at h; cases h
  | .ref _, h => by unfold refl_ok at h; cases h
  | .cls _, h => by unfold refl_ok at h; cases h
theorem deqs_refl : ∀ {xs : List D}, refl_oks xs = true → deqs xs xs = true
  | [], _ => by unfold deqs; rfl
  | x :: xs, h => by
    unfold refl_oks at h
    rw [Bool.and_eq_true] at h
    unfold deqs
    dsimp only
    rw [deq_refl h.1, deqs_refl h.2]
    rfl
end
mutual
theorem ok_refl : ∀ {x : D}, okD x = true → refl_ok x = true
  | .non, _ => by unfold refl_ok; rfl
  | .bl b, _ => by unfold refl_ok; rfl
  | .int b, _ => by unfold refl_ok; rfl
  | .str b, _ => by unfold refl_ok; rfl
  | .tup xs, h => by
    unfold okD at h
    unfold refl_ok
    exact oks_refl h
  | .lst xs, h => by
    unfold okD at h
    unfold refl_ok
    exact oks_refl h
  | .dic _ _, h => by unfold okD at h; cases h
  | .ref _, h => by unfold okD at h; cases h
  | .cls _, h => by unfold okD at h; cases h
theorem oks_refl : ∀ {xs : List D}, okDs xs = true → refl_oks xs = true
  | [], _ => by unfold refl_oks; rfl
  | x :: xs, h => by
    unfold okDs at h
    rw [Bool.and_eq_true] at h
    unfold refl_oks
    rw [ok_refl h.1, oks_refl h.2]
    rfl
end
theorem deqT_refl {x : D} (h : sane x = true) : deqT x x = some true := by
  have h' := h
  unfold sane at h'
  rw [Bool.and_eq_true] at h'
  rw [deqT_sane h h, deq_refl (ok_refl h'.1)]
/-! sane lists, by their items -/
theorem oks_all {xs : List D} (h : ∀ x ∈ xs, okD x = true) : okDs xs = true := by
  induction xs with
  | nil => unfold okDs; rfl
  | cons x xs ih =>
    unfold okDs
    rw [h x List.mem_cons_self, ih fun y hy => h y (List.mem_cons_of_mem _ hy)]
    rfl
theorem deps_le {xs : List D} {k : Nat} (h : ∀ x ∈ xs, dep x ≤ k) : deps xs ≤ k := by
  induction xs with
  | nil => unfold deps; exact Nat.zero_le _
  | cons x xs ih =>
    unfold deps
    exact Nat.max_le.mpr ⟨h x List.mem_cons_self, ih fun y hy => h y (List.mem_cons_of_mem _ hy)⟩
theorem sane_lst {xs : List D} {k : Nat} (hk : k ≤ 59) (h : ∀ x ∈ xs, okD x = true ∧ dep x ≤ k) : sane (.lst xs) = true := by
  unfold sane
  rw [Bool.and_eq_true]
  refine ⟨?_, decide_eq_true ?_⟩
  · unfold okD
    exact oks_all fun x hx => (h x hx).1
  · unfold dep
    have := deps_le (k := k) fun x hx => (h x hx).2
    omega
section
variable {P : Pg} {s s1 s2 : Stt} {t : Bool} {a b o : Ex} {va va' vb v : Md × D} {d : D}
theorem bm_eq {m : BM} {es : List Ex} {ds : List D} (ho : ev P o s = some (.ok v, s1)) (hk : bmOk m v = true) (he : evS P es s1 = some (.ok (false, ds), s2)) (hd : bmD m v.2 ds = some d) : evV P t (.bm m o es) s = some (.ok (.nw (.fz d)), s2) := by
  have ho : ((evV P false o).bind asV) s = _ := ho
  rw [evV, bind_eq, ho]
  dsimp only
  rw [if_pos hk, bind_eq, he]
  dsimp only
  rw [if_neg (by decide), hd]
  rfl
theorem idx_eq (ha : ev P a s = some (.ok va, s1)) (hf : isFl va.1 = false) (hb : ev P b s1 = some (.ok vb, s2)) (hu : unbox s2.S va = some va') (h : idxD va'.2 vb.2 = some d) : evV P t (.idx a b) s = some (.ok (.nw (cellIn (isBp va') d)), s2) := by
  have ha : ((evV P false a).bind asV) s = _ := ha
  have hb : ((evV P false b).bind asV) s1 = _ := hb
  rw [evV, bind_eq, ha]
  dsimp only
  rw [guardX_no hf, bind_eq, hb]
  dsimp only
  rw [hu]
  dsimp only
  rw [h]
theorem index_eq {ys : List D} {k : D} {j : Nat} (h1 : sane (.lst ys) = true) (h2 : sane k = true) (h3 : idxOf k ys = some j) : bmD .index (.lst ys) [k] = some (.int (j : Int)) := by
  show (if (sane (.lst ys) && sane k) = true then (idxOf k ys).map fun (j : Nat) => D.int (j : Int) else none) = _
  rw [h1, h2, h3]
  rfl
/-! a dict display -/
theorem dic_eq {es : List Ex} {ds ks vs : List D} (he : evS P es s = some (.ok (false, ds), s1)) (hp : pairsD ds = some (ks, vs)) (hk : keysOk ks = true) : evV P t (.dic false es) s = some (.ok (.nw (.own (.dic ks vs))), s1) := by
  rw [evV, bind_eq, he]
  dsimp only
  rw [if_neg (by decide), hp]
  dsimp only
  rw [if_pos hk, if_neg (by decide)]
  rfl
end
theorem i_tuple (xs : List D) : biD .tuple [.lst xs] = some (.tup xs) := rfl
theorem cellNew_tup (xs : List D) : cellNew false (.tup xs) = .fz (.tup xs) := rfl
theorem i_max2 (i j : Int) : biD .max [.int i, .int j] = some (.int (if j > i then j else i)) := rfl
theorem i_min2 (i j : Int) : biD .min [.int i, .int j] = some (.int (if j < i then j else i)) := rfl
theorem ints_sane (ns : List Int) : sane (.lst (ns.map D.int)) = true := sane_lst (k := 0) (by decide) fun x hx => by
  obtain ⟨i, _, rfl⟩ := List.mem_map.mp hx
  exact ⟨by unfold okD; rfl, by unfold dep; exact Nat.le_refl _⟩
abbrev at_ (sp : List Int) (i : Int) : Int := sp.getD i.toNat 0
theorem at_get {sp : List Int} {i : Int} (h0 : 0 ≤ i) (h1 : i < (sp.length : Int)) : (sp.map D.int)[i.toNat]? = some (.int (at_ sp i)) := by
  have h2 : i.toNat < sp.length := by omega
  refine ints_at ?_
  rw [List.getElem?_eq_getElem h2]
  unfold at_
  rw [List.getD_eq_getElem?_getD, List.getElem?_eq_getElem h2]
  rfl
end Lk

namespace Law
open PySem L2 PyProof.Rows Lk
def top (i : Nat) : Stmt := PySem.Challenge.pw_likewise_k10_texts_stand.main.body.getD i (.Pass ⟨0, 0, 0, 0⟩)
/-! 0 _law_numbers -/
abbrev st0 : Stmt := top 3
def cx0_0 : Ex := .comp (.bin .mod (.var 5) (.bin .pow (.int 10) (.int 60))) (.nm 5) .seq [.slc (.var 0) (.var 1) .non] [] [5]
def lb0_0 : List Lk.St := [.ite (.and [.cmp .lt (.bi .len [.var 4]) (.var 2), .or [.cmp .eq (.var 7) (.int 0), .cmp .gt (.var 6) (.int 0)]]) [.mut none .append (.var 4) [.bin .mod (.var 6) (.bin .pow (.int 10) (.int 6))],
          .asg 6 (.bin .fdiv (.var 6) (.bin .pow (.int 10) (.int 6)))] []]
def fs0_0 : Lk.St := .for_ (.nm 7) .rng [.int 10] lb0_0
def lb0_1 : List Lk.St := [.asg 6 (.bin .fdiv (.var 5) (.int 2)),
      fs0_0]
def fs0_1 : Lk.St := .for_ (.nm 5) .seq [.var 3] lb0_1
def lb0_2 : List Lk.St := [.asg 9 (.bin .add (.bin .add (.bin .mul (.bin .mul (.int 1009) (.var 8)) (.var 8)) (.bin .mul (.int 7) (.var 8))) (.int 11)),
    .ite (.cmp .gt (.bi .len [.var 3]) (.int 0)) [.asg 9 (.bin .add (.bin .add (.var 9) (.bin .mod (.idx (.var 3) (.bin .mod (.var 8) (.bi .len [.var 3]))) (.int 2147483647))) (.bin .mod (.idx (.var 3) (.int 0)) (.int 1000003)))] [],
    .asg 9 (.bin .mod (.bin .mul (.var 9) (.var 9)) (.int 2147483629)),
    .asg 9 (.bin .mod (.bin .add (.bin .mul (.var 9) (.int 48271)) (.bin .mul (.int 31) (.var 8))) (.int 2147483647)),
    .mut none .append (.var 4) [.bin .mod (.bin .mod (.bin .mul (.var 9) (.var 9)) (.int 998244353)) (.bin .pow (.int 10) (.int 6))]]
def fs0_2 : Lk.St := .for_ (.nm 8) .rng [.bi .len [.var 4], .var 2] lb0_2
def body0 : List Lk.St := [.asg 3 (cx0_0),
  .asg 4 (.lst false []),
  .ite (.and [.cmp .gt (.bi .len [.var 3]) (.int 0), .cmp .eq (.bin .mod (.idx (.var 3) (.int 0)) (.int 2)) (.int 0)]) [fs0_1] [],
  fs0_2,
  .ret (.var 4)]
def df0 : Df := ⟨"_law_numbers", "_law_numbers", st0, ["script", "at", "many", "cells", "found", "cell", "rest", "turn", "k", "near"], ["script", "at", "many"], body0⟩
/-! 1 _law_turned -/
abbrev st1 : Stmt := top 5
def body1 : List Lk.St := [.asg 3 (.bin .mod (.idx (.var 2) (.int 0)) (.int 4)),
  .ite (.and [.cmp .eq (.var 3) (.int 1), .cmp .gt (.bi .len [.var 0]) (.int 0)]) [.asg 4 (.bin .mod (.idx (.var 2) (.int 1)) (.bi .len [.var 0])),
    .asg 5 (.idx (.lst false [.bin .bxor (.idx (.idx (.var 0) (.var 4)) (.int 1)) (.int 1), .bin .mod (.bin .add (.bin .add (.idx (.idx (.var 0) (.var 4)) (.int 1)) (.int 1)) (.bin .mod (.idx (.var 2) (.int 2)) (.int 4095))) (.int 4096)]) (.bin .mod (.idx (.var 2) (.int 3)) (.int 2))),
    .ret (.bin .add (.bin .add (.slc (.var 0) .non (.var 4)) (.lst false [.tup [.idx (.idx (.var 0) (.var 4)) (.int 0), .var 5]])) (.slc (.var 0) (.bin .add (.var 4) (.int 1)) .non))] [],
  .ite (.cmp .eq (.var 3) (.int 2)) [.ret (.bin .add (.var 0) (.lst false [.tup [.bin .add (.var 1) (.bin .mod (.idx (.var 2) (.int 1)) (.int 3)), .bin .mod (.idx (.var 2) (.int 2)) (.int 4096)]]))] [],
  .ite (.cmp .eq (.var 3) (.int 3)) [.ret (.bin .add (.var 0) (.lst false [.tup [.bin .add (.var 1) (.bin .mul (.idx (.var 2) (.int 1)) (.bin .pow (.int 10) (.int 44))), .int 0]]))] [],
  .ret (.var 0)]
def df1 : Df := ⟨"_law_turned", "_law_turned", st1, ["text", "size", "numbers", "how", "at", "word"], ["text", "size", "numbers"], body1⟩
/-! 2 _law_text -/
abbrev st2 : Stmt := top 4
def lb2_0 : List Lk.St := [.asg 4 (.bin .mod (.bin .fdiv (.idx (.var 1) (.bin .add (.int 1) (.bin .mod (.var 3) (.int 20)))) (.bin .add (.int 1) (.var 3))) (.bi .len [.var 0])),
    .sset (.var 2) (.var 4) (.idx (.var 0) (.var 4))]
def fs2_0 : Lk.St := .for_ (.nm 3) .rng [.bin .mod (.idx (.var 1) (.int 0)) (.int 31)] lb2_0
def body2 : List Lk.St := [.asg 2 (.dic false []),
  fs2_0,
  .ret (.sit (.var 2))]
def df2 : Df := ⟨"_law_text", "_law_text", st2, ["cells", "numbers", "made", "k", "cell"], ["cells", "numbers"], body2⟩
/-! 3 text_stands -/
abbrev st3 : Stmt := top 1
def cx3_0 : Ex := .comp (.and [.cmp .lt (.var 2) (.bi .len [.var 0]), .cmp .eq (.idx (.var 0) (.var 2)) (.var 3)]) (.tu [2, 3]) .seq [.var 1] [] [2, 3]
def body3 : List Lk.St := [.ret (.bi .all [cx3_0])]
def df3 : Df := ⟨"text_stands", "text_stands", st3, ["cells", "text", "cell", "word"], ["cells", "text"], body3⟩
/-! 4 law -/
abbrev st4 : Stmt := top 6
def cx4_0 : Ex := .comp (.bin .mod (.bin .fdiv (.idx (.var 1) (.bin .mod (.var 8) (.int 60))) (.bin .add (.int 1) (.bin .fdiv (.var 8) (.int 60)))) (.int 4096)) (.nm 8) .rng [.bin .mul (.int 16) (.bin .add (.int 1) (.bin .mod (.idx (.var 1) (.int 0)) (.int 8)))] [] [8]
def cx4_1 : Ex := .comp (.var 9) (.nm 9) .seq [.var 4] [.or [.cmp .ge (.idx (.var 9) (.int 0)) (.bi .len [.var 2]), .cmp .ne (.idx (.var 2) (.idx (.var 9) (.int 0))) (.idx (.var 9) (.int 1))]] [9]
def lb4_0 : List Lk.St := [.asg 4 (.bi .tuple [.call 1 [.call 2 [.var 2, .slc (.var 1) (.var 3) (.bin .add (.var 3) (.int 21))], .bi .len [.var 2], .slc (.var 1) (.bin .add (.int 30) (.var 3)) (.bin .add (.int 34) (.var 3))]]),
    .asg 5 (.bi .list [.var 2]),
    .asg 6 (.call 3 [.var 5, .var 4]),
    .asg 7 (.cmp .eq (.bi .len [cx4_1]) (.int 0)),
    .ite (.or [.not (.isi (.var 6) .bl), .cmp .ne (.var 6) (.var 7), .cmp .ne (.var 5) (.var 2)]) [.ret (.bl false)] []]
def fs4_0 : Lk.St := .for_ (.nm 3) .rng [.int 8] lb4_0
def body4 : List Lk.St := [.asg 1 (.call 0 [.var 0, .int 0, .int 60]),
  .asg 2 (cx4_0),
  fs4_0,
  .ret (.bl true)]
def df4 : Df := ⟨"law", "law", st4, ["script", "numbers", "cells", "turn", "text", "handed", "found", "due", "k", "pair"], ["script"], body4⟩
def tab : List Df := [df0, df1, df2, df3, df4]
def tbl : Tb := ⟨[(("_law_numbers" : Str), 0, 1), (("_law_turned" : Str), 1, 2), (("_law_text" : Str), 2, 3), (("text_stands" : Str), 3, 4), (("law" : Str), 4, 5)], [], [], [], [], [], [], [], 0, true⟩
def con : Nat → D

  | _ => .non
theorem tab_sc : ∀ d ∈ tab, FnScope d.N d.ps (defScope d.st) :=
  fa_cons ⟨rfl, rfl, rfl, by decide +kernel, rfl, by decide +kernel, by decide +kernel⟩ <|
  fa_cons ⟨rfl, rfl, rfl, by decide +kernel, rfl, by decide +kernel, by decide +kernel⟩ <|
  fa_cons ⟨rfl, rfl, rfl, by decide +kernel, rfl, by decide +kernel, by decide +kernel⟩ <|
  fa_cons ⟨rfl, rfl, rfl, by decide +kernel, rfl, by decide +kernel, by decide +kernel⟩ <|
  fa_cons ⟨rfl, rfl, rfl, by decide +kernel, rfl, by decide +kernel, by decide +kernel⟩ <| fa_nil
def ks : List Kd := [.fn "_law_numbers", .fn "_law_turned", .fn "_law_text", .fn "text_stands", .fn "law"]
theorem ks_ok : okKd ks tbl = true := by decide +kernel
theorem tab_ok : okTab tbl 0 tab = true := by decide +kernel
def fuel : Nat := 1000000
theorem in0 (c0 c1 c2 : Cell) (S : Sto) : Fd con fuel tab 0 [c0, c1, c2] S = finD (execs (PGn con fuel tab 0) fuel body0 ⟨[some c0, some c1, some c2, none, none, none, none, none, none, none], S⟩) := Fd_eq (d := df0) rfl rfl
theorem in1 (c0 c1 c2 : Cell) (S : Sto) : Fd con fuel tab 1 [c0, c1, c2] S = finD (execs (PGn con fuel tab 1) fuel body1 ⟨[some c0, some c1, some c2, none, none, none], S⟩) := Fd_eq (d := df1) rfl rfl
theorem in2 (c0 c1 : Cell) (S : Sto) : Fd con fuel tab 2 [c0, c1] S = finD (execs (PGn con fuel tab 2) fuel body2 ⟨[some c0, some c1, none, none, none], S⟩) := Fd_eq (d := df2) rfl rfl
theorem in3 (c0 c1 : Cell) (S : Sto) : Fd con fuel tab 3 [c0, c1] S = finD (execs (PGn con fuel tab 3) fuel body3 ⟨[some c0, some c1, none, none], S⟩) := Fd_eq (d := df3) rfl rfl
theorem in4 (c0 : Cell) (S : Sto) : Fd con fuel tab 4 [c0] S = finD (execs (PGn con fuel tab 4) fuel body4 ⟨[some c0, none, none, none, none, none, none, none, none, none], S⟩) := Fd_eq (d := df4) rfl rfl
/-! displays and methods, without if -/
theorem evV_bm (P : Pg) (t : Bool) (m : BM) (o : Ex) (es : List Ex) : evV P t (.bm m o es) = ((evV P false o).bind asV).bind fun v => match bmOk m v with
    | true => (evS P es).bind fun q => (match q.1 with
      | true => M.of none
      | false => (match bmD m v.2 q.2 with
        | some d => M.ok (.nw (.fz d))
        | none => M.of none))
    | false => M.of none := by
  rw [evV]
  congr 1
  funext v
  cases bmOk m v with
  | false => rfl
  | true =>
    show (evS P es).bind _ = _
    congr 1
    funext q
    cases q.1 <;> rfl
theorem evV_dic (P : Pg) (t box : Bool) (es : List Ex) : evV P t (.dic box es) = (evS P es).bind fun p => match p.1 with
    | true => M.of none
    | false => (match pairsD p.2 with
      | some q => (match keysOk q.1 with
        | true => (match box with
          | true => (boxD (.bdi q.1 q.2)).nw
          | false => M.ok (.nw (.own (.dic q.1 q.2))))
        | false => M.of none)
      | none => M.of none) := by
  rw [evV]
  congr 1
  funext p
  cases p.1 with
  | true => rfl
  | false =>
    show (match pairsD p.2 with | some q => _ | none => _) = _
    cases pairsD p.2 with
    | none => rfl
    | some q =>
      dsimp only
      cases keysOk q.1 <;> cases box <;> rfl
/-! an argument: a frozen one, or the caller's -/
def ar (m : Bool) (d : D) : Cell := if m then .br d else .fz d
theorem ar_t (d : D) : ar true d = .br d := rfl
theorem ar_f (d : D) : ar false d = .fz d := rfl
theorem sq (a b : String) : ((Str.ofString a) == (Str.ofString b)) = (a == b) := by
  have inj : ∀ {x y : List Char}, x.map Char.toNat = y.map Char.toNat → x = y := by
    intro x
    induction x with
    | nil => intro y h; cases y with
      | nil => rfl
      | cons _ _ => cases h
    | cons c x ih =>
      intro y h
      cases y with
      | nil => cases h
      | cons d y =>
        simp only [List.map_cons, List.cons.injEq] at h
        obtain ⟨h1, h2⟩ := h
        rw [ih h2, Char.toNat_inj.mp h1]
  by_cases h : a = b
  · subst h
    rw [beq_self_eq_true, beq_self_eq_true]
  · have h1 : ¬ Str.ofString a = Str.ofString b := fun e => by
      rw [Str.ofString_eq_toList, Str.ofString_eq_toList] at e
      injection e with e
      have e := congrArg Array.toList e
      simp only at e
      exact h (String.toList_inj.mp (inj e))
    rw [beq_eq_false_iff_ne.mpr h1, beq_eq_false_iff_ne.mpr h]
theorem fin_ret (c : Cell) (s : Stt) : finD (some (.ok (.ret c), s)) = some (.ok c, s.S) := rfl
theorem fin_nx (s : Stt) : finD (some (.ok .next, s)) = some (.ok (.fz .non), s.S) := rfl
theorem rep_0 {α : Type} (x : α) : List.replicate 0 x = [] := rfl
theorem rep_s {α : Type} (n : Nat) (x : α) : List.replicate (n + 1) x = x :: List.replicate n x := rfl
theorem unbox_dic (S : Sto) (m : Md) (a b : List D) : unbox S (m, .dic a b) = some (m, .dic a b) := by cases m <;> rfl
theorem b_catt {xs ys : List D} (h : xs.length + ys.length ≤ line) : binD .add (.tup xs) (.tup ys) = some (.tup (xs ++ ys)) := if_pos h
theorem deq_ss (a b : Str) : deq (.str a) (.str b) = (a == b) := by unfold deq; rfl
theorem in_tup (x : Str) (ys : List D) (h : ys.all scalD = true) : cmpD .isin (.str x) (.tup ys) = some (ys.any fun y => deq y (.str x)) := by
  show anyEq _ _ = _
  unfold anyEq
  rw [h]
  rfl
theorem in_lst (x : Str) (ys : List D) (h : ys.all scalD = true) : cmpD .isin (.str x) (.lst ys) = some (ys.any fun y => deq y (.str x)) := by
  show anyEq _ _ = _
  unfold anyEq
  rw [h]
  rfl
theorem scal_s (x : Str) : scalD (.str x) = true := rfl
theorem set_il (xs : List Int) (j : Nat) (v : Int) : (xs.map D.int).set j (.int v) = (xs.set j v).map D.int := (List.map_set ..).symm
theorem app_il (xs : List Int) (v : Int) : xs.map D.int ++ [.int v] = (xs ++ [v]).map D.int := by simp
theorem set_back {S : Sto} {l : Nat} {o : Lk.Obj} (h : S[l]? = some o) : S.set l o = S := by
  apply List.ext_getElem?
  intro j
  rw [List.getElem?_set]
  split
  · rename_i e
    subst e
    have := (List.getElem?_eq_some_iff.mp h).1
    rw [if_pos this, h]
  · rfl
theorem lt_of_get {S : Sto} {l : Nat} {o : Lk.Obj} (h : S[l]? = some o) : l < S.length := (List.getElem?_eq_some_iff.mp h).1
theorem lt_16 {i : Nat} (h : i < 16) : (i : Int) < ((16 : Nat) : Int) := by omega
theorem cst (n : Nat) : ((OfNat.ofNat n : Nat) : Int) = OfNat.ofNat n := rfl
theorem nin_tup (x : Str) (ys : List D) (h : ys.all scalD = true) : cmpD .nin (.str x) (.tup ys) = some (!(ys.any fun y => deq y (.str x))) := by
  show (anyEq _ _).map _ = _
  unfold anyEq
  rw [h]
  rfl
theorem nin_lst (x : Str) (ys : List D) (h : ys.all scalD = true) : cmpD .nin (.str x) (.lst ys) = some (!(ys.any fun y => deq y (.str x))) := by
  show (anyEq _ _).map _ = _
  unfold anyEq
  rw [h]
  rfl
theorem cut_1 (x : D) (xs : List D) : cutL (x :: xs) (some 1) none = xs := by
  unfold cutL
  simp only [sliX]
  rw [List.length_cons, if_neg (by decide), show (min (1 : Int) ((xs.length + 1 : Nat) : Int)).toNat = 1 from by omega, List.drop_one, List.tail_cons, Nat.add_sub_cancel, List.take_length]
theorem s_tup (lo hi : Option Int) (xs : List D) : slcD lo hi (.tup xs) = some (.tup (cutL xs lo hi)) := rfl
theorem x_dic (ks vs : List D) (k : D) : idxD (.dic ks vs) k = dget k ks vs := rfl
theorem len_str {x : Str} (h : x.length ≤ 100) : biD .len [.str x] = some (.int x.length) := if_pos (by unfold line; omega)
theorem m_app4 {xs : List D} {x : D} (h : xs.length < 4000000) : mutD .append (.lst xs) [x] = some (.lst (xs ++ [x]), .non) := m_app h
theorem b_cat4 {xs ys : List D} (h : xs.length + ys.length ≤ 4000000) : binD .add (.lst xs) (.lst ys) = some (.lst (xs ++ ys)) := b_cat h
theorem b_catt4 {xs ys : List D} (h : xs.length + ys.length ≤ 4000000) : binD .add (.tup xs) (.tup ys) = some (.tup (xs ++ ys)) := b_catt h
local macro_rules | `(tactic| push_cast [$as,*]) => `(tactic| simp only [↓evV_bm, ↓evV_dic, Lk.execs, Lk.exec, evV, evT, evR, ev, evTA, evTO, evTA0, evAnd, evOr, evA, evS, evI, bind_eq, ok_eq, of_som, nw_eq, bl_eq, cell_som, asV_pl, asV_fz, asV_own, asV_br, asC_nw, asC_fz, asC_bp, asT_bl, asT_plbl, setSlot_eq, guardL_fz, guardL_bp, guardL_sl, guardX_fz, guardX_bp, guardX_sl, unbox_bl, unbox_int, unbox_str, unbox_non, unbox_tup, unbox_lst, cellIn_f, cellIn_flat, cellIn_int, cellIn_bl, cellNew_int, cellNew_bl, cellNew_lst, isBp_fz, isBp_sl, isBp_bp, b_add, b_sub, b_mul, b_fdiv, b_fdivW, b_mod, b_pow, b_cat, c_lt, c_le, c_gt, c_ge, c_eq, c_ne, o_lt, o_le, deqT_int, i_len, i_lent, i_list, i_all, i_any, x_lst, x_tup, ix_pos, t_bl, y_bl, y_bli, y_int, y_lst, it_seq, it_seqt, it_rng, it_rng2, s_lst, m_app, okMul_l, okMul_r, toCell, runD, setD, partD, isNonE, bindP, wipeE, List.map_cons, List.map_nil, List.getElem?_cons_zero, List.getElem?_cons_succ, List.set_cons_zero, List.set_cons_succ, List.foldl_cons, List.foldl_nil, List.any_cons, List.any_nil, List.all_cons, List.all_nil, List.length_cons, List.length_nil, Option.map_some, Option.bind_some, Option.map_none, Option.bind_none, Bool.false_or, Bool.or_false, Bool.true_or, Bool.or_true, Bool.and_true, Bool.true_and, Bool.false_and, Bool.and_false, Bool.not_true, Bool.not_false, ite_true, ite_false, if_true, if_false, if_pos, PGn_con, flat, flats, reduceCtorEq, ne_eq, not_false_eq_true, not_true_eq_false, and_true, true_and, Bool.false_eq_true, isFl, simple, eq_self, beq_self_eq_true, Int.reduceBEq, bmOk, i_int, i_intb, i_sum, deqT_str, deqT_bl, nonb, guardLs, lockL, putT, guardM, changeAt, isLst, Nat.reduceLT, Int.reduceEq, Nat.reduceAdd, Int.reducePow, Int.reduceToNat, Nat.reducePow, Int.reduceLE, Int.reduceLT, Nat.reduceLeDiff, Int.reduceNeg, Int.reduceMul, Int.reduceAdd, Nat.reduceMul, decide_true, decide_false, Bool.and_eq_true, decide_eq_true_eq, Int.zero_le_ofNat, cellNew_tup, sq, String.reduceBEq, deq_ss, scal_s, in_tup, nin_tup, in_lst, nin_lst, s_tup, fin_ret, fin_nx, rep_0, rep_s, List.cons_append, List.nil_append, Nat.reduceSub, PGn_F, con, bindP.binds, unbox_dic, ar_t, ar_f, m_app4, b_cat4, b_catt4, $as,*])
local macro_rules | `(tactic| push_cast) => `(tactic| simp only [↓evV_bm, ↓evV_dic, Lk.execs, Lk.exec, evV, evT, evR, ev, evTA, evTO, evTA0, evAnd, evOr, evA, evS, evI, bind_eq, ok_eq, of_som, nw_eq, bl_eq, cell_som, asV_pl, asV_fz, asV_own, asV_br, asC_nw, asC_fz, asC_bp, asT_bl, asT_plbl, setSlot_eq, guardL_fz, guardL_bp, guardL_sl, guardX_fz, guardX_bp, guardX_sl, unbox_bl, unbox_int, unbox_str, unbox_non, unbox_tup, unbox_lst, cellIn_f, cellIn_flat, cellIn_int, cellIn_bl, cellNew_int, cellNew_bl, cellNew_lst, isBp_fz, isBp_sl, isBp_bp, b_add, b_sub, b_mul, b_fdiv, b_fdivW, b_mod, b_pow, b_cat, c_lt, c_le, c_gt, c_ge, c_eq, c_ne, o_lt, o_le, deqT_int, i_len, i_lent, i_list, i_all, i_any, x_lst, x_tup, ix_pos, t_bl, y_bl, y_bli, y_int, y_lst, it_seq, it_seqt, it_rng, it_rng2, s_lst, m_app, okMul_l, okMul_r, toCell, runD, setD, partD, isNonE, bindP, wipeE, List.map_cons, List.map_nil, List.getElem?_cons_zero, List.getElem?_cons_succ, List.set_cons_zero, List.set_cons_succ, List.foldl_cons, List.foldl_nil, List.any_cons, List.any_nil, List.all_cons, List.all_nil, List.length_cons, List.length_nil, Option.map_some, Option.bind_some, Option.map_none, Option.bind_none, Bool.false_or, Bool.or_false, Bool.true_or, Bool.or_true, Bool.and_true, Bool.true_and, Bool.false_and, Bool.and_false, Bool.not_true, Bool.not_false, ite_true, ite_false, if_true, if_false, if_pos, PGn_con, flat, flats, reduceCtorEq, ne_eq, not_false_eq_true, not_true_eq_false, and_true, true_and, Bool.false_eq_true, isFl, simple, eq_self, beq_self_eq_true, Int.reduceBEq, bmOk, i_int, i_intb, i_sum, deqT_str, deqT_bl, nonb, guardLs, lockL, putT, guardM, changeAt, isLst, Nat.reduceLT, Int.reduceEq, Nat.reduceAdd, Int.reducePow, Int.reduceToNat, Nat.reducePow, Int.reduceLE, Int.reduceLT, Nat.reduceLeDiff, Int.reduceNeg, Int.reduceMul, Int.reduceAdd, Nat.reduceMul, decide_true, decide_false, Bool.and_eq_true, decide_eq_true_eq, Int.zero_le_ofNat, cellNew_tup, sq, String.reduceBEq, deq_ss, scal_s, in_tup, nin_tup, in_lst, nin_lst, s_tup, fin_ret, fin_nx, rep_0, rep_s, List.cons_append, List.nil_append, Nat.reduceSub, PGn_F, con, bindP.binds, unbox_dic, ar_t, ar_f, m_app4, b_cat4, b_catt4])
/-! ### data -/
abbrev Pgs := List (Bool × Bool × Bool)
def dP (p : Bool × Bool × Bool) : D := .tup [.bl p.1, .bl p.2.1, .bl p.2.2]
def sel (p : Bool × Bool × Bool) : Nat → Bool
  | 0 => p.1
  | 1 => p.2.1
  | _ => p.2.2
def due (pg : Pgs) (c : Int) (r : Nat) : Bool := match pg[(c / 16).toNat]? with
  | some p => decide (c < 16 * pg.length) && sel p r
  | none => false
theorem page_at {pg : Pgs} {c : Int} (h0 : 0 ≤ c) (h : c < 16 * (pg.length : Int)) : ∃ p, pg[(c / 16).toNat]? = some p ∧ (pg.map dP)[(c / 16).toNat]? = some (dP p) ∧ 0 ≤ c / 16 ∧ c / 16 < (pg.length : Int) := by
  have h1 : 0 ≤ c / 16 := by omega
  have h2 : c / 16 < (pg.length : Int) := by omega
  have h3 : (c / 16).toNat < pg.length := by omega
  refine ⟨pg[(c / 16).toNat], List.getElem?_eq_getElem h3, ?_, h1, h2⟩
  rw [List.getElem?_map, List.getElem?_eq_getElem h3]
  rfl
theorem sel_at (p : Bool × Bool × Bool) {r : Nat} (h : r < 3) : ∃ d, ([D.bl p.1, D.bl p.2.1, D.bl p.2.2] : List D)[r]? = some d ∧ d = .bl (sel p r) := by
  match r, h with
  | 0, _ => exact ⟨_, rfl, rfl⟩
  | 1, _ => exact ⟨_, rfl, rfl⟩
  | 2, _ => exact ⟨_, rfl, rfl⟩
theorem due_no {pg : Pgs} {c : Int} (h : ¬ c < 16 * (pg.length : Int)) (r : Nat) : due pg c r = false := by
  unfold due
  split
  · rw [decide_eq_false h]
    rfl
  · rfl
theorem due_yes {pg : Pgs} {c : Int} {p : Bool × Bool × Bool} (h : c < 16 * (pg.length : Int)) (e : pg[(c / 16).toNat]? = some p) (r : Nat) : due pg c r = sel p r := by
  unfold due
  rw [e]
  dsimp only
  rw [decide_eq_true h, Bool.true_and]
theorem due_lt {pg : Pgs} {c : Int} {r : Nat} (h : due pg c r = true) : c < 16 * (pg.length : Int) := by
  by_cases q : c < 16 * (pg.length : Int)
  · exact q
  · rw [due_no q] at h; cases h
section
variable {P : Pg} {n : Nat} {st : Lk.St} {ss : List Lk.St} {s s1 : Stt} {r : Option (Ou Cell × Sto)} {c : Cell}
theorem seqF (s1 : Stt) (h : exec P n st s = some (.ok .next, s1)) (k : finD (execs P n ss s1) = r) : finD (execs P n (st :: ss) s) = r := by
  rw [run_next h]; exact k
theorem retF (s1 : Stt) (h : exec P n st s = some (.ok (.ret c), s1)) : finD (execs P n (st :: ss) s) = some (.ok c, s1.S) := by
  rw [run_ret h]; rfl
theorem nilF : finD (execs P n [] s) = some (.ok (.fz .non), s.S) := by rw [run_nil]; rfl
theorem nx {r : Option (Ou Fl × Stt)} (s1 : Stt) (h : exec P n st s = some (.ok .next, s1)) (k : execs P n ss s1 = r) : execs P n (st :: ss) s = r := by
  rw [run_next h]; exact k
end
theorem isBp_fl (l k : Nat) (d : D) : isBp (.fl l k, d) = false := rfl
theorem flats_all {xs : List D} (h : ∀ x ∈ xs, flat x = true) : flats xs = true := by
  induction xs with
  | nil => rfl
  | cons x xs ih => unfold flats; rw [h x List.mem_cons_self, ih fun y hy => h y (List.mem_cons_of_mem _ hy)]; rfl
theorem flats_il (xs : List Int) : flats (xs.map D.int) = true := flats_all fun x hx => by
  obtain ⟨i, _, rfl⟩ := List.mem_map.mp hx
  rfl
theorem flats_dP (xs : Pgs) : flats (xs.map dP) = true := flats_all fun x hx => by
  obtain ⟨i, _, rfl⟩ := List.mem_map.mp hx
  rfl
theorem cellNew_own' (p : Bool) {xs : List D} (h : flats xs = true) : cellNew p (.lst xs) = .own (.lst xs) := by
  show (if (p && !flats xs) = true then Cell.br (.lst xs) else .own (.lst xs)) = _
  exact if_neg (by rw [h]; simp)
theorem cellNew_il (p : Bool) (xs : List Int) : cellNew p (.lst (xs.map D.int)) = .own (.lst (xs.map D.int)) := cellNew_own' p (flats_il xs)
theorem cellNew_dP (p : Bool) (xs : Pgs) : cellNew p (.lst (xs.map dP)) = .own (.lst (xs.map dP)) := cellNew_own' p (flats_dP xs)
/-! a comprehension that maps or filters, of whatever source, and changes nothing -/
theorem compL_gen {f : Bool → D → Stt → Option (Ou (Option Cell) × Stt)} {pb : Bool} {g : D → Option D} (I : Stt → Prop) : ∀ {ds : List D} {s : Stt}, I s →
    (∀ d ∈ ds, ∀ s, I s → ∃ oc s', f pb d s = some (.ok oc, s') ∧ ((∃ x, g d = some x ∧ (oc = some (.fz x) ∨ oc = some (.own x))) ∨ (g d = none ∧ oc = none)) ∧ I s') →
    ∃ s', compL f pb ds s = some (false, ds.filterMap g, s') ∧ I s'
  | [], s, h, _ => ⟨s, rfl, h⟩
  | d :: ds, s, h, ht => by
    obtain ⟨oc, s1, e1, e2, e3⟩ := ht d List.mem_cons_self s h
    obtain ⟨s2, e4, e5⟩ := compL_gen (g := g) I (ds := ds) e3 fun d hd => ht d (List.mem_cons_of_mem _ hd)
    refine ⟨s2, ?_, e5⟩
    unfold compL
    rw [e1]
    rcases e2 with ⟨x, q1, rfl | rfl⟩ | ⟨q1, rfl⟩
    · dsimp only
      rw [e4, List.filterMap_cons_some q1]
      rfl
    · dsimp only
      rw [e4, List.filterMap_cons_some q1]
      rfl
    · dsimp only
      rw [e4, List.filterMap_cons_none q1]
section
variable {P : Pg} {s s1 : Stt}
theorem comp_gen {e : Ex} {p : Pat} {it : Lk.It} {src cond : List Ex} {own : List Nat} {vs : List (Md × D)} {items : List D} {f : Bool} (pb : Bool) (g : D → Option D) (r0 : Lk.Env) (h1 : evI P src s = some (.ok vs, s1)) (h2 : itD it (vs.map (·.2)) = some items) (h3 : items.length ≤ line)
    (hf : ∀ m ∈ vs.map (·.1), isFl m = false) (hb : vs.any isBp = pb) (hw : wipeE own s1.r = r0)
    (ht : ∀ d ∈ items, ∃ r1 b r1', bindP p pb d r0 = some r1 ∧ evTA0 P cond ⟨r1, s1.S⟩ = some (.ok b, ⟨r1', s1.S⟩) ∧
      ((b = true ∧ ∃ c x r2, evR P e ⟨r1', s1.S⟩ = some (.ok c, ⟨r2, s1.S⟩) ∧ g d = some x ∧ (c = .fz x ∨ c = .own x) ∧ wipeE own r2 = r0) ∨ (b = false ∧ g d = none ∧ wipeE own r1' = r0))) :
    evV P f (.comp e p it src cond own) s = some (.ok (.nw (.own (.lst (items.filterMap g)))), ⟨r0, s1.S⟩) := by
  rw [evV, bind_eq, h1]
  dsimp only
  rw [h2]
  dsimp only
  rw [if_pos h3, guardLs_none hf, hb, hw]
  have main : ∃ s', compL (turnF P p own cond e) pb items ⟨r0, s1.S⟩ = some (false, items.filterMap g, s') ∧ s'.S = s1.S ∧ wipeE own s'.r = r0 := by
    refine compL_gen (f := turnF P p own cond e) (pb := pb) (g := g) (fun s => s.S = s1.S ∧ wipeE own s.r = r0) (ds := items) (s := ⟨r0, s1.S⟩) ⟨rfl, ?_⟩ ?_
    · rw [← hw]
      exact comp_map.wipe_twice own s1.r
    · intro d hd s ⟨q1, q2⟩
      obtain ⟨r1, b, r1', b1, b2, b3⟩ := ht d hd
      rcases b3 with ⟨rfl, c, x, r2, c1, c2, c3, c4⟩ | ⟨rfl, c1, c2⟩
      · refine ⟨some c, ⟨r2, s1.S⟩, ?_, .inl ⟨x, c2, c3.imp (fun z => by rw [z]) (fun z => by rw [z])⟩, rfl, c4⟩
        unfold turnF
        rw [q2, b1]
        dsimp only
        rw [bind_eq, q1, b2]
        dsimp only
        rw [if_pos rfl, bind_eq]
        have c1 : ((evV P false e).bind asC) ⟨r1', s1.S⟩ = some (.ok c, ⟨r2, s1.S⟩) := c1
        rw [c1]
        rfl
      · refine ⟨none, ⟨r1', s1.S⟩, ?_, .inr ⟨c1, rfl⟩, rfl, c2⟩
        unfold turnF
        rw [q2, b1]
        dsimp only
        rw [bind_eq, q1, b2]
        rfl
  obtain ⟨s', e1, e2, e3⟩ := main
  unfold turnF at e1
  split
  · rename_i q p' ds' s2 hq
    have hq := e1.symm.trans hq
    cases hq
    rw [e3, e2]
    rfl
  · rename_i q hq
    have hq := e1.symm.trans hq
    cases hq
/-! .. of ints, mapped -/
theorem fm_ints (g : Int → D) : ∀ xs : List Int, (xs.map D.int).filterMap (fun d => match d with | .int x => some (g x) | _ => none) = xs.map g
  | [] => rfl
  | x :: xs => by
    have ih := fm_ints g xs
    exact congrArg (g x :: ·) ih
theorem comp_ints {e : Ex} {i : Nat} {src : List Ex} {vs : List (Md × D)} {xs : List Int} {f : Bool} (pb : Bool) (g : Int → D) (r0 : Lk.Env) (it : Lk.It) (h1 : evI P src s = some (.ok vs, s1)) (h2 : itD it (vs.map (·.2)) = some (xs.map D.int)) (h3 : xs.length ≤ line)
    (hf : ∀ m ∈ vs.map (·.1), isFl m = false) (hb : vs.any isBp = pb) (hw : s1.r.set i none = r0)
    (ht : ∀ x ∈ xs, ∃ c, evR P e ⟨r0.set i (some (.fz (.int x))), s1.S⟩ = some (.ok c, ⟨r0.set i (some (.fz (.int x))), s1.S⟩) ∧ (c = .fz (g x) ∨ c = .own (g x))) :
    evV P f (.comp e (.nm i) it src [] [i]) s = some (.ok (.nw (.own (.lst (xs.map g)))), ⟨r0, s1.S⟩) := by
  have key := comp_gen (f := f) (cond := []) (e := e) (p := .nm i) (own := [i]) pb (fun d => match d with | .int x => some (g x) | _ => none) r0 h1 h2 (by rw [List.length_map]; exact h3) hf hb hw fun d hd => by
    obtain ⟨x, hx, rfl⟩ := List.mem_map.mp hd
    obtain ⟨c, e1, e2⟩ := ht x hx
    refine ⟨r0.set i (some (.fz (.int x))), true, r0.set i (some (.fz (.int x))), ?_, by rw [evTA0]; rfl, .inl ⟨rfl, c, g x, r0.set i (some (.fz (.int x))), e1, rfl, e2, ?_⟩⟩
    · show some (r0.set i (some (cellIn pb (.int x)))) = _
      rw [cellIn_int]
    · show (r0.set i (some (.fz (.int x)))).set i none = r0
      rw [List.set_set, ← hw, List.set_set]
  rw [fm_ints] at key
  exact key
end
theorem comp_is {P : Pg} {e : Ex} {i : Nat} {src : List Ex} {m : Md} {xs : List Int} {env : Lk.Env} {S : Sto} {f : Bool} (g : Int → D) (h1 : evI P src ⟨env, S⟩ = some (.ok [(m, .lst (xs.map D.int))], ⟨env, S⟩)) (hm : isFl m = false) (h3 : xs.length ≤ 4000000) (hw : env.set i none = env)
    (ht : ∀ x ∈ xs, ∃ c, evR P e ⟨env.set i (some (.fz (.int x))), S⟩ = some (.ok c, ⟨env.set i (some (.fz (.int x))), S⟩) ∧ (c = .fz (g x) ∨ c = .own (g x))) :
    evV P f (.comp e (.nm i) .seq src [] [i]) ⟨env, S⟩ = some (.ok (.nw (.own (.lst (xs.map g)))), ⟨env, S⟩) := by
  have key := comp_ints (P := P) (e := e) (i := i) (src := src) (f := f) (s1 := ⟨env, S⟩) (vs := [(m, .lst (xs.map D.int))]) (isBp (m, .lst (xs.map D.int))) g env .seq h1 rfl h3 (by
    intro z hz
    rw [List.map_cons, List.map_nil, List.mem_singleton] at hz
    subst hz
    exact hm) (by simp) hw ht
  exact key
theorem bls_of (bs : List Bool) : blsOf (bs.map D.bl) = some bs := by
  induction bs with
  | nil => rfl
  | cons b bs ih => show (blsOf (bs.map D.bl)).map (b :: ·) = _; rw [ih]; rfl
theorem bls_of' {α : Type} (g : α → Bool) (xs : List α) : blsOf (xs.map fun x => D.bl (g x)) = some (xs.map g) := by
  have := bls_of (xs.map g)
  rw [List.map_map] at this
  exact this
theorem app_get {S T : Sto} {l : Nat} (h : l < S.length) : (S ++ T)[l]? = S[l]? := List.getElem?_append_left h
theorem app_set {S T : Sto} {l : Nat} {o : Lk.Obj} (h : l < S.length) : (S ++ T).set l o = S.set l o ++ T := List.set_append_left _ _ h
theorem app_last {S : Sto} {o : Lk.Obj} {n : Nat} (h : S.length = n) : (S ++ [o])[n]? = some o := by subst h; simp
theorem app_set_last {S : Sto} {o o' : Lk.Obj} {n : Nat} (h : S.length = n) : (S ++ [o]).set n o' = S ++ [o'] := by subst h; simp
section
variable {P : Pg} {n : Nat} {s s1 : Stt}
theorem for_fld {p : Pat} {src : List Ex} {body : List Lk.St} {xs : List D} {l k : Nat} {d' : D} {o : Ou Fl} (h1 : evI P src s = some (.ok [(.fl l k, .lst xs)], s)) (hS : getFld l k s.S = some (.own (.lst xs)))
    (h2 : forL p false (execs P n body) xs ⟨s.r, setFld l k (.rd (.lst xs)) s.S⟩ = some (o, s1)) (h3 : getFld l k s1.S = some (.rd d')) :
    Lk.exec P n (.for_ p .seq src body) s = some (o, ⟨s1.r, setFld l k (.own d') s1.S⟩) := by
  rw [Lk.exec, bind_eq, h1]
  show (match itD .seq [.lst xs] with | some items => lockL [.fl l k] (forL p (List.any [(Md.fl l k, D.lst xs)] isBp) (execs P n body) items) | none => M.of none) s = _
  rw [it_seq]
  show guardF l k (forL p false (execs P n body) xs) s = _
  unfold guardF
  rw [hS]
  dsimp only
  rw [h2]
  dsimp only
  rw [h3]
end
section
variable {P : Pg} {n : Nat}
/-! a loop over a list, by an invariant -/
theorem for_lst {p : Pat} {src : List Ex} {body : List Lk.St} {xs : List D} {s s1 : Stt} (I : Nat → Stt → Prop) (h1 : evI P src s = some (.ok [(.fz, .lst xs)], s1)) (h0 : I 0 s1)
    (step : ∀ i d s, xs[i]? = some d → I i s → ∃ r', bindP p false d s.r = some r' ∧ ∃ s', execs P n body ⟨r', s.S⟩ = some (.ok .next, s') ∧ I (i + 1) s') : ∃ s', exec P n (.for_ p .seq src body) s = some (.ok .next, s') ∧ I xs.length s' := by
  obtain ⟨s', e, h⟩ := forL_inv (p := p) (pb := false) (body := execs P n body) I (ds := xs) (k := 0) (s := s1) h0 fun i d s hd hI => by
    rw [Nat.zero_add] at hI
    obtain ⟨r', e1, s', e2, h⟩ := step i d s hd hI
    exact ⟨r', e1, s', .next, e2, .inl rfl, by rw [Nat.zero_add]; exact h⟩
  refine ⟨s', ?_, by rw [Nat.zero_add] at h; exact h⟩
  rw [for_fz h1 (it_seq xs) (by simp)]
  exact e
theorem for_ints {i : Nat} {src : List Ex} {body : List Lk.St} {xs : List Int} {s s1 : Stt} (I : Nat → Stt → Prop) (h1 : evI P src s = some (.ok [(.fz, .lst (xs.map D.int))], s1)) (h0 : I 0 s1)
    (step : ∀ (k : Nat) (x : Int) s, xs[k]? = some x → I k s → ∃ s', execs P n body ⟨s.r.set i (some (.fz (.int x))), s.S⟩ = some (.ok .next, s') ∧ I (k + 1) s') : ∃ s', exec P n (.for_ (.nm i) .seq src body) s = some (.ok .next, s') ∧ I xs.length s' := by
  obtain ⟨s', e, h⟩ := for_lst (p := .nm i) (body := body) (n := n) (xs := xs.map D.int) I h1 h0 fun k d s hd hI => by
    rw [List.getElem?_map] at hd
    obtain ⟨x, hx, rfl⟩ := Option.map_eq_some_iff.mp hd
    exact ⟨_, rfl, step k x s hx hI⟩
  rw [List.length_map] at h
  exact ⟨s', e, h⟩
theorem for_slt {p : Pat} {i : Nat} {body : List Lk.St} {xs : List D} {s : Stt} (I : Nat → Stt → Prop) (hi : s.r[i]? = some (some (.own (.lst xs)))) (h0 : I 0 ⟨s.r.set i (some (.rd (.lst xs))), s.S⟩)
    (step : ∀ j d s, xs[j]? = some d → I j s → ∃ r', bindP p false d s.r = some r' ∧ ∃ s', execs P n body ⟨r', s.S⟩ = some (.ok .next, s') ∧ I (j + 1) s') (keep : ∀ s', I xs.length s' → s'.r[i]? = some (some (.rd (.lst xs)))) :
    ∃ s', exec P n (.for_ p .seq [.var i] body) s = some (.ok .next, ⟨s'.r.set i (some (.own (.lst xs))), s'.S⟩) ∧ I xs.length s' := by
  obtain ⟨s', e, h⟩ := forL_inv (p := p) (pb := false) (body := execs P n body) I (ds := xs) (k := 0) h0 fun j d s hd hI => by
    rw [Nat.zero_add] at hI
    obtain ⟨r', e1, s', e2, h⟩ := step j d s hd hI
    exact ⟨r', e1, s', .next, e2, .inl rfl, by rw [Nat.zero_add]; exact h⟩
  rw [Nat.zero_add] at h
  refine ⟨s', ?_, h⟩
  exact for_slot hi e (keep s' h)
theorem for_rng {i : Nat} {a b : Int} {src : List Ex} {body : List Lk.St} {s s1 : Stt} (I : Nat → Stt → Prop) (h1 : evI P src s = some (.ok [(.fz, .int a), (.fz, .int b)], s1)) (ha : 0 ≤ a) (ha' : a < 4000000000) (hb : 0 ≤ b) (hb' : b < 4000000000) (h0 : I 0 s1)
    (step : ∀ (k : Nat) s, (k : Int) < b - a → I k s → ∃ s', execs P n body ⟨s.r.set i (some (.fz (.int (a + k)))), s.S⟩ = some (.ok .next, s') ∧ I (k + 1) s') : ∃ s', exec P n (.for_ (.nm i) .rng src body) s = some (.ok .next, s') ∧ I (b - a).toNat s' := by
  obtain ⟨s', e, h⟩ := forL_inv (p := .nm i) (pb := false) (body := execs P n body) I (ds := rngD a (b - a).toNat) (k := 0) (s := s1) h0 fun k d s hd hI => by
    rw [Nat.zero_add] at hI
    obtain ⟨hk, rfl⟩ := rng_get hd
    obtain ⟨s', e2, h⟩ := step k s (by omega) hI
    exact ⟨_, rfl, s', .next, e2, .inl rfl, by rw [Nat.zero_add]; exact h⟩
  refine ⟨s', ?_, by rw [Nat.zero_add, rng_len] at h; exact h⟩
  rw [for_fz h1 (it_rng2 (by omega) (by omega) (by omega) (by omega)) (by simp)]
  exact e
theorem for_rng0 {i : Nat} {b : Int} {src : List Ex} {body : List Lk.St} {s s1 : Stt} (I : Nat → Stt → Prop) (h1 : evI P src s = some (.ok [(.fz, .int b)], s1)) (hb : 0 ≤ b) (hb' : b < 4000000000) (h0 : I 0 s1)
    (step : ∀ (k : Nat) s, (k : Int) < b → I k s → ∃ s', execs P n body ⟨s.r.set i (some (.fz (.int k))), s.S⟩ = some (.ok .next, s') ∧ I (k + 1) s') : ∃ s', exec P n (.for_ (.nm i) .rng src body) s = some (.ok .next, s') ∧ I b.toNat s' := by
  obtain ⟨s', e, h⟩ := forL_inv (p := .nm i) (pb := false) (body := execs P n body) I (ds := rngD 0 b.toNat) (k := 0) (s := s1) h0 fun k d s hd hI => by
    rw [Nat.zero_add] at hI
    obtain ⟨hk, rfl⟩ := rng_get hd
    obtain ⟨s', e2, h⟩ := step k s (by omega) hI
    rw [← Int.zero_add (k : Int)] at e2
    exact ⟨_, rfl, s', .next, e2, .inl rfl, by rw [Nat.zero_add]; exact h⟩
  refine ⟨s', ?_, by rw [Nat.zero_add, rng_len] at h; exact h⟩
  rw [for_fz h1 (it_rng (by omega) (by omega)) (by simp)]
  exact e
end
theorem s_lstD (xs : List D) (i : Int) (v : D) : setD (.lst xs) (.int i) v = (ixD xs.length i).map fun j => .lst (xs.set j v) := rfl
theorem asC_sl (i : Nat) (d : D) (s : Stt) : asC (.pl (.sl i) d) s = (match s.r[i]? with
    | some (some (.own d)) => some (.ok (.fz d), { s with r := s.r.set i (some (.fz d)) })
    | _ => none) := rfl
theorem asC_fl (l k : Nat) (d : D) (s : Stt) : asC (.pl (.fl l k) d) s = (match getFld l k s.S with
    | some (.own d) => some (.ok (.fz d), { s with S := setFld l k (.fz d) s.S })
    | _ => none) := rfl
theorem con_tupS {K : PySem.W.Frag} {mg : Str → Option Value} {G : Gm} {x : Str} {a : Addr} {its : Array Value} {n : Nat} {sl : Array (Option Value)} {ss : List Str} {h0 : Heap} (_ : K.In h0) (hm : mg x = some (.ref a)) (l : K.lookup a = some ⟨.type "tuple", none, .seq its n, sl⟩) (hz : its.size ≤ sizeLine)
    (hv : Vals (ss.map V.str) its.toList) (hK : K = G.K) : ∃ u v, mg x = some u ∧ RelV v u ∧ ∀ U, RZ G U (.tup (ss.map D.str)) v := by
  subst hK
  exact ⟨_, .ref a, hm, rfl, fun U =>   .tup (.inr ⟨_, its, n, l, rfl, rfl, rfl, hz, hv⟩) (rz_strs ss)⟩
where
  rz_strs {G : Gm} {U : Vw} : ∀ ss : List Str, RZs G U (ss.map D.str) (ss.map V.str)
    | [] => .nil
    | s :: ss => .cons (.str s) (rz_strs ss)

/-! a comprehension over range(n), its name stored before or not -/
theorem comp_rngW {P : Pg} {e : Ex} {i : Nat} {src : List Ex} {n : Int} {env : Lk.Env} {S : Sto} {f : Bool} (g : Nat → D) (h1 : evI P src ⟨env, S⟩ = some (.ok [(.fz, .int n)], ⟨env, S⟩)) (hn : 0 ≤ n) (hn2 : n ≤ 4000000) (env' : Lk.Env) (hw : env.set i none = env')
    (ht : ∀ k : Nat, (k : Int) < n → ∃ c, evR P e ⟨env'.set i (some (.fz (.int k))), S⟩ = some (.ok c, ⟨env'.set i (some (.fz (.int k))), S⟩) ∧ (c = .fz (g k) ∨ c = .own (g k))) :
    evV P f (.comp e (.nm i) .rng src [] [i]) ⟨env, S⟩ = some (.ok (.nw (.own (.lst ((List.range n.toNat).map g)))), ⟨env', S⟩) := by
  have key := comp_ints (P := P) (e := e) (i := i) (src := src) (f := f) (s1 := ⟨env, S⟩) (vs := [(.fz, .int n)]) (xs := (List.range n.toNat).map fun (k : Nat) => (k : Int)) false (fun x => g x.toNat) env' .rng h1 (by
    show itD .rng [.int n] = _
    rw [it_rng (by omega) (by omega)]
    unfold rngD
    rw [List.map_map]
    congr 1
    apply List.map_congr_left
    intro k _
    show D.int (0 + (k : Int)) = D.int (k : Int)
    rw [Int.zero_add]) (by rw [List.length_map, List.length_range]; unfold line; omega) (by
    intro z hz
    rw [List.map_cons, List.map_nil, List.mem_singleton] at hz
    subst hz
    rfl) rfl hw (by
    intro x hx
    obtain ⟨k, hk, rfl⟩ := List.mem_map.mp hx
    have hk := List.mem_range.mp hk
    rw [Int.toNat_natCast]
    exact ht k (by omega))
  rw [List.map_map] at key
  exact key
theorem comp_rng2W {P : Pg} {e : Ex} {i : Nat} {src : List Ex} {a b : Int} {env : Lk.Env} {S : Sto} {f : Bool} (g : Nat → D) (h1 : evI P src ⟨env, S⟩ = some (.ok [(.fz, .int a), (.fz, .int b)], ⟨env, S⟩)) (ha : 0 ≤ a) (hab : a ≤ b) (hn2 : b ≤ 4000000) (env' : Lk.Env) (hw : env.set i none = env')
    (ht : ∀ k : Nat, (k : Int) < b - a → ∃ c, evR P e ⟨env'.set i (some (.fz (.int (a + k)))), S⟩ = some (.ok c, ⟨env'.set i (some (.fz (.int (a + k)))), S⟩) ∧ (c = .fz (g k) ∨ c = .own (g k))) :
    evV P f (.comp e (.nm i) .rng src [] [i]) ⟨env, S⟩ = some (.ok (.nw (.own (.lst ((List.range (b - a).toNat).map g)))), ⟨env', S⟩) := by
  have key := comp_ints (P := P) (e := e) (i := i) (src := src) (f := f) (s1 := ⟨env, S⟩) (vs := [(.fz, .int a), (.fz, .int b)]) (xs := (List.range (b - a).toNat).map fun (k : Nat) => a + (k : Int)) false (fun x => g (x - a).toNat) env' .rng h1 (by
    show itD .rng [.int a, .int b] = _
    rw [it_rng2 (by omega) (by omega) (by omega) (by omega)]
    unfold rngD
    rw [List.map_map]
    rfl) (by rw [List.length_map, List.length_range]; unfold line; omega) (by
    intro z hz
    rw [List.map_cons, List.map_cons, List.map_nil, List.mem_cons, List.mem_singleton] at hz
    rcases hz with rfl | rfl <;> rfl) rfl hw (by
    intro x hx
    obtain ⟨k, hk, rfl⟩ := List.mem_map.mp hx
    have hk := List.mem_range.mp hk
    rw [show (a + (k : Int) - a).toNat = k from by omega]
    exact ht k (by omega))
  rw [List.map_map] at key
  have e : ((fun x : Int => g (x - a).toNat) ∘ fun (k : Nat) => a + (k : Int)) = g := by
    funext k
    show g (a + (k : Int) - a).toNat = g k
    rw [show (a + (k : Int) - a).toNat = k from by omega]
  rw [e] at key
  exact key
/-! for .. in what is told item by item: any source -/
theorem for_any {P : Pg} {n : Nat} {p : Pat} {it : Lk.It} {src : List Ex} {body : List Lk.St} {vs : List (Md × D)} {items : List D} {s s1 : Stt} (I : Nat → Stt → Prop) (h1 : evI P src s = some (.ok vs, s1)) (h2 : itD it (vs.map (·.2)) = some items) (h3 : ∀ m ∈ vs.map (·.1), m = .fz ∨ m = .bp) (h0 : I 0 s1)
    (step : ∀ i d s, items[i]? = some d → I i s → ∃ r', bindP p (vs.any isBp) d s.r = some r' ∧ ∃ s', execs P n body ⟨r', s.S⟩ = some (.ok .next, s') ∧ I (i + 1) s') : ∃ s', exec P n (.for_ p it src body) s = some (.ok .next, s') ∧ I items.length s' := by
  obtain ⟨s', e, h⟩ := forL_inv (p := p) (pb := vs.any isBp) (body := execs P n body) I (ds := items) (k := 0) (s := s1) h0 fun i d s hd hI => by
    rw [Nat.zero_add] at hI
    obtain ⟨r', e1, s', e2, h⟩ := step i d s hd hI
    exact ⟨r', e1, s', .next, e2, .inl rfl, by rw [Nat.zero_add]; exact h⟩
  refine ⟨s', ?_, by rw [Nat.zero_add] at h; exact h⟩
  rw [for_fz h1 h2 h3]
  exact e
theorem pick {P : Int → Int → Prop} {lo hi : Int} (h : ∀ k, lo ≤ k → k ≤ hi → ∃ c, P k c) : ∃ f : Int → Int, ∀ k, lo ≤ k → k ≤ hi → P k (f k) := by
  classical
  refine ⟨fun k => if h2 : ∃ c, P k c then h2.choose else 0, fun k h0 h1 => ?_⟩
  have e := h k h0 h1
  dsimp only
  rw [dif_pos e]
  exact e.choose_spec

theorem numbers (ns : List Int) (h : ns.length ≤ 63) (m : Bool) (at_ : Int) (many : Nat) (hm : many ≤ 1000000) (S : Sto) : m = false → ∃ fs : List Int, Fd con fuel tab 0 [ar m (.lst (ns.map D.int)), .fz (.int at_), .fz (.int many)] S = some (.ok (.own (.lst (fs.map D.int))), S) ∧ fs.length = many ∧ ∀ x ∈ fs, sixD x := fun e => by
  subst e
  obtain ⟨fs, s', e, hS, h1, h2⟩ := numbers_ok (P := PGn con fuel tab 0) (n := fuel) (S := S) ns at_ many hm (by omega)
  refine ⟨fs, ?_, h1, h2⟩
  rw [ar_f, in0]
  refine (congrArg finD e).trans ?_
  show some (Ou.ok (Cell.own (IL fs)), s'.S) = _
  rw [hS]

def cutI (xs : List Int) (lo hi : Option Int) : List Int := (xs.drop (sliX xs.length 0 lo)).take (sliX xs.length xs.length hi - sliX xs.length 0 lo)
theorem cut_il (xs : List Int) (lo hi : Option Int) : cutL (xs.map D.int) lo hi = (cutI xs lo hi).map D.int := by
  unfold cutL cutI
  rw [List.length_map, ← List.map_drop, ← List.map_take]
theorem cutI_mem {xs : List Int} {lo hi : Option Int} {x : Int} (h : x ∈ cutI xs lo hi) : x ∈ xs := List.mem_of_mem_drop (List.mem_of_mem_take h)
theorem cutI_len {xs : List Int} {a b : Int} (a0 : 0 ≤ a) (ab : a ≤ b) (h : b ≤ (xs.length : Int)) : (cutI xs (some a) (some b)).length = (b - a).toNat := by
  unfold cutI sliX
  dsimp only
  rw [List.length_take, List.length_drop, if_neg (by omega), if_neg (by omega)]
  omega

/-! ### texts that stand -/
abbrev ix (sp : List Int) (i : Int) : Int := sp.getD i.toNat 0
theorem ix_get {sp : List Int} {i : Int} (h0 : 0 ≤ i) (h1 : i < (sp.length : Int)) : (sp.map D.int)[i.toNat]? = some (.int (ix sp i)) := at_get h0 h1
def dC (p : Int × Int) : D := .tup [.int p.1, .int p.2]
theorem fm_map {α : Type} (f : α → D) (g : D → Option D) (h : α → D) (e : ∀ p, g (f p) = some (h p)) : ∀ ps : List α, (ps.map f).filterMap g = ps.map h
  | [] => rfl
  | p :: ps => by rw [List.map_cons, List.filterMap_cons_some (e p), fm_map f g h e ps]; rfl
theorem text_stands_ok (m1 : Bool) (cs : List Int) (ps : List (Int × Int)) (hl : ps.length ≤ 4000000) (hp : ∀ p ∈ ps, 0 ≤ p.1) (S : Sto) :
    Fd con fuel tab 3 [ar m1 (.lst (cs.map D.int)), .fz (.tup (ps.map dC))] S = some (.ok (.fz (.bl (ps.all fun p => decide (p.1 < (cs.length : Int)) && decide (ix cs p.1 = p.2)))), S) := by
  have cx : evV (PGn con fuel tab 3) false cx3_0 ⟨[some (ar m1 (.lst (cs.map D.int))), some (.fz (.tup (ps.map dC))), none, none], S⟩ = some (.ok (.nw (.own (.lst (ps.map fun p => D.bl (decide (p.1 < (cs.length : Int)) && decide (ix cs p.1 = p.2)))))), ⟨[some (ar m1 (.lst (cs.map D.int))), some (.fz (.tup (ps.map dC))), none, none], S⟩) := by
    unfold cx3_0
    have key := comp_gen (P := PGn con fuel tab 3) (f := false) (cond := []) (e := .and [.cmp .lt (.var 2) (.bi .len [.var 0]), .cmp .eq (.idx (.var 0) (.var 2)) (.var 3)]) (p := .tu [2, 3]) (own := [2, 3]) (it := .seq) (src := [.var 1]) (s1 := ⟨[some (ar m1 (.lst (cs.map D.int))), some (.fz (.tup (ps.map dC))), none, none], S⟩) (vs := [(.fz, .tup (ps.map dC))]) (items := ps.map dC) false
      (fun d => match d with | .tup [.int x, .int y] => some (.bl (decide (x < (cs.length : Int)) && decide (ix cs x = y))) | _ => none) [some (ar m1 (.lst (cs.map D.int))), some (.fz (.tup (ps.map dC))), none, none] (s := ⟨[some (ar m1 (.lst (cs.map D.int))), some (.fz (.tup (ps.map dC))), none, none], S⟩)
      (by cases m1 <;> push_cast [ar_t, ar_f]) rfl (by rw [List.length_map]; unfold line; omega) (by simp [isFl]) rfl rfl fun d hd => by
        obtain ⟨⟨x, y⟩, hx, rfl⟩ := List.mem_map.mp hd
        have x0 : 0 ≤ x := hp _ hx
        refine ⟨[some (ar m1 (.lst (cs.map D.int))), some (.fz (.tup (ps.map dC))), some (.fz (.int x)), some (.fz (.int y))], true, [some (ar m1 (.lst (cs.map D.int))), some (.fz (.tup (ps.map dC))), some (.fz (.int x)), some (.fz (.int y))], rfl, rfl, .inl ⟨rfl, ?_⟩⟩
        refine ⟨.fz (.bl (decide (x < (cs.length : Int)) && decide (ix cs x = y))), .bl (decide (x < (cs.length : Int)) && decide (ix cs x = y)), [some (ar m1 (.lst (cs.map D.int))), some (.fz (.tup (ps.map dC))), some (.fz (.int x)), some (.fz (.int y))], ?_, rfl, .inl rfl, rfl⟩
        by_cases c1 : x < (cs.length : Int)
        · have g := ix_get (sp := cs) x0 c1
          by_cases c2 : ix cs x = y
          · cases m1 <;> (push_cast [ar_t, ar_f, List.length_map, x0, c1, g, c2]; try rfl)
          · have c2' : (ix cs x == y) = false := beq_eq_false_iff_ne.mpr c2
            cases m1 <;> (push_cast [ar_t, ar_f, List.length_map, x0, c1, g, c2, c2']; try rfl)
        · cases m1 <;> (push_cast [ar_t, ar_f, List.length_map, x0, c1]; try rfl)
    rw [fm_map dC _ (fun p => D.bl (decide (p.1 < (cs.length : Int)) && decide (ix cs p.1 = p.2))) (fun p => rfl)] at key
    exact key
  rw [in3]
  unfold body3
  cases m1 <;> (simp only [ar_t, ar_f] at cx ⊢; push_cast [fin_ret, fin_nx, rep_0, rep_s, List.cons_append, List.nil_append, Nat.reduceSub, List.length_cons, List.length_nil, cx, bls_of', List.all_map, Function.comp_def]; try rfl)
/-! a dict of ints to ints -/
def kI (zs : List (Int × Int)) : List D := zs.map fun z => .int z.1
def vI (zs : List (Int × Int)) : List D := zs.map fun z => .int z.2
def putI (c w : Int) (zs : List (Int × Int)) : List (Int × Int) := zs.map fun z => if z.1 = c then (z.1, w) else z
theorem keq_ii (a b : Int) : keq (.int a) (.int b) = some (a == b) := rfl
theorem kf_ints (c : Int) : ∀ zs : List (Int × Int), ∃ o, kfind (.int c) (kI zs) = some o
  | [] => ⟨none, rfl⟩
  | z :: zs => by
    obtain ⟨o, h⟩ := kf_ints c zs
    show ∃ o, kfind (.int c) (.int z.1 :: kI zs) = some o
    unfold kfind
    rw [keq_ii]
    cases e : (z.1 == c) with
    | true => exact ⟨_, rfl⟩
    | false => dsimp only; rw [h]; exact ⟨_, rfl⟩
theorem put_ints (c w : Int) : ∀ zs : List (Int × Int), putD (.int c) (.int w) (kI zs) (vI zs) = vI (putI c w zs) ∧ kI (putI c w zs) = kI zs
  | [] => ⟨rfl, rfl⟩
  | z :: zs => by
    obtain ⟨h1, h2⟩ := put_ints c w zs
    have e1 : putD (.int c) (.int w) (kI (z :: zs)) (vI (z :: zs)) = (if keq (.int z.1) (.int c) = some true then D.int w else .int z.2) :: putD (.int c) (.int w) (kI zs) (vI zs) := rfl
    rw [e1, h1, keq_ii]
    by_cases e : z.1 = c
    · have e' : (z.1 == c) = true := by rw [e]; exact beq_self_eq_true _
      rw [e', if_pos rfl]
      constructor
      · show _ = vI ((if z.1 = c then (z.1, w) else z) :: putI c w zs)
        rw [if_pos e]; rfl
      · show kI ((if z.1 = c then (z.1, w) else z) :: putI c w zs) = _
        rw [if_pos e]
        show D.int z.1 :: kI (putI c w zs) = D.int z.1 :: kI zs
        rw [h2]
    · have e' : (z.1 == c) = false := beq_eq_false_iff_ne.mpr e
      rw [e', if_neg (by decide)]
      constructor
      · show _ = vI ((if z.1 = c then (z.1, w) else z) :: putI c w zs)
        rw [if_neg e]; rfl
      · show kI ((if z.1 = c then (z.1, w) else z) :: putI c w zs) = _
        rw [if_neg e]
        show D.int z.1 :: kI (putI c w zs) = D.int z.1 :: kI zs
        rw [h2]
theorem set_ints (c w : Int) (zs : List (Int × Int)) (hz : zs.length < 1000000) (p : Int → Prop) (hp : ∀ z ∈ zs, p z.1) (hc : p c) : ∃ zs', setD (.dic (kI zs) (vI zs)) (.int c) (.int w) = some (.dic (kI zs') (vI zs')) ∧ zs'.length ≤ zs.length + 1 ∧ ∀ z ∈ zs', p z.1 := by
  obtain ⟨o, ho⟩ := kf_ints c zs
  have kl : (kI zs).length < line := by unfold kI line; rw [List.length_map]; omega
  have sd : setD (.dic (kI zs) (vI zs)) (.int c) (.int w) = (match kfind (.int c) (kI zs) with
    | some none => if (kI zs).length < line then some (.dic (kI zs ++ [.int c]) (vI zs ++ [.int w])) else none
    | some (some _) => if (kI zs).length < line then some (.dic (kI zs) (putD (.int c) (.int w) (kI zs) (vI zs))) else none
    | none => none) := rfl
  rw [sd, ho]
  cases o with
  | none =>
    refine ⟨zs ++ [(c, w)], ?_, by rw [List.length_append]; exact Nat.le_refl _, fun z hz => ?_⟩
    · dsimp only
      rw [if_pos kl]
      unfold kI vI
      rw [List.map_append, List.map_append]
      rfl
    · rcases List.mem_append.mp hz with h | h
      · exact hp z h
      · rw [List.mem_singleton.mp h]; exact hc
  | some j =>
    obtain ⟨h1, h2⟩ := put_ints c w zs
    refine ⟨putI c w zs, ?_, by unfold putI; rw [List.length_map]; omega, fun z hz => ?_⟩
    · dsimp only
      rw [if_pos kl, h1, h2]
    · unfold putI at hz
      obtain ⟨y, hy, rfl⟩ := List.mem_map.mp hz
      have := hp y hy
      split <;> exact this
theorem ip_ints : ∀ zs : List (Int × Int), intPairs (kI zs) (vI zs) = some zs
  | [] => rfl
  | z :: zs => by
    show (intPairs (kI zs) (vI zs)).map ((z.1, z.2) :: ·) = _
    rw [ip_ints zs]; rfl
theorem sit_ints (zs : List (Int × Int)) : sitD (kI zs) (vI zs) = some (.lst ((sortP zs).map dC)) := by
  unfold sitD
  rw [ip_ints]
  rfl
theorem text10 (cs fs : List Int) (hcl : 0 < cs.length) (hfl : (fs.length : Int) = 21) (h1000 : cs.length ≤ 1000) (S : Sto) : ∃ ps : List (Int × Int), Fd con fuel tab 2 [.br (.lst (cs.map D.int)), .fz (.lst (fs.map D.int))] S = some (.ok (.own (.lst (ps.map dC))), S) ∧ ps.length ≤ 40 ∧ ∀ p ∈ ps, 0 ≤ p.1 := by
  have clp : (0 : Int) < (cs.length : Int) := by omega
  have cl2 : (cs.length : Int) < 1073741824 := by omega
  have g0 := ix_get (sp := fs) (i := 0) (by decide) (by omega)
  rw [show ((0 : Int)).toNat = 0 from rfl] at g0
  obtain ⟨n, hn⟩ : ∃ n, ix fs 0 % 31 = n := ⟨_, rfl⟩
  have n0 : 0 ≤ n := by omega
  have n31 : n < 31 := by omega
  let F := fun (zs : List (Int × Int)) (c3 c4 : Option Cell) => (⟨[some (.br (.lst (cs.map D.int))), some (.fz (.lst (fs.map D.int))), some (.own (.dic (kI zs) (vI zs))), c3, c4], S⟩ : Stt)
  obtain ⟨s', e, zs, c3, c4, rfl, hzl, hz⟩ := for_rng0 (P := PGn con fuel tab 2) (n := fuel) (i := 3) (b := n) (src := [.bin .mod (.idx (.var 1) (.int 0)) (.int 31)]) (body := lb2_0)
    (fun k s => ∃ zs c3 c4, s = F zs c3 c4 ∧ zs.length ≤ k ∧ ∀ z ∈ zs, 0 ≤ z.1) (s := F [] none none) (s1 := F [] none none) (by push_cast [F, List.length_map, hfl, Int.cast_ofNat_Int, Int.ofNat_eq_natCast, cst, Int.reduceLT, Int.reduceLE, Nat.reduceAdd, Nat.zero_add, g0, hn]) n0 (by omega) ⟨[], none, none, rfl, Nat.le_refl _, fun _ h => nomatch h⟩ (by
      rintro k s hk ⟨zs, c3, c4, rfl, hzl, hz⟩
      have k1 : (0 : Int) ≤ 1 + (k : Int) % 20 := by omega
      have k2 : 1 + (k : Int) % 20 < 21 := by omega
      have gk := ix_get (sp := fs) k1 (by omega)
      have d1 : (0 : Int) < 1 + (k : Int) := by omega
      have d2 : 1 + (k : Int) < 1073741824 := by omega
      obtain ⟨c, hc⟩ : ∃ c, ix fs (1 + (k : Int) % 20) / (1 + (k : Int)) % (cs.length : Int) = c := ⟨_, rfl⟩
      have c0 : 0 ≤ c := by rw [← hc]; exact Int.emod_nonneg _ (by omega)
      have c1 : c < (cs.length : Int) := by rw [← hc]; exact Int.emod_lt_of_pos _ clp
      have gc := ix_get (sp := cs) c0 c1
      obtain ⟨zs', st, hl', hz'⟩ := set_ints c (ix cs c) zs (by omega) (fun x => 0 ≤ x) hz c0
      refine ⟨F zs' (some (.fz (.int k))) (some (.fz (.int c))), ?_, zs', _, _, rfl, by omega, hz'⟩
      unfold lb2_0
      refine nx (F zs (some (.fz (.int k))) (some (.fz (.int c)))) (by push_cast [F, List.length_map, hfl, k1, k2, gk, d1, d2, clp, cl2, hc]) ?_
      refine nx (F zs' (some (.fz (.int k))) (some (.fz (.int c)))) ?_ run_nil
      unfold setD at st
      push_cast [F, gc, c0, c1, List.length_map, st])
  have si := sit_ints zs
  refine ⟨sortP zs, ?_, by rw [(sortP_perm zs).length_eq]; omega, fun p hp => hz p ((sortP_perm zs).mem_iff.mp hp)⟩
  rw [in2]; unfold body2
  refine seqF (F [] none none) (by push_cast [F]; try rfl) ?_
  refine seqF _ e ?_
  push_cast [F, fin_ret, fin_nx, rep_0, rep_s, List.cons_append, List.nil_append, Nat.reduceSub, List.length_cons, List.length_nil, dicAt, si]
def cutP (xs : List (Int × Int)) (lo hi : Option Int) : List (Int × Int) := (xs.drop (sliX xs.length 0 lo)).take (sliX xs.length xs.length hi - sliX xs.length 0 lo)
theorem cut_pl (xs : List (Int × Int)) (lo hi : Option Int) : cutL (xs.map dC) lo hi = (cutP xs lo hi).map dC := by
  unfold cutL cutP
  rw [List.length_map, ← List.map_drop, ← List.map_take]
theorem cutP_mem {xs : List (Int × Int)} {lo hi : Option Int} {x : Int × Int} (h : x ∈ cutP xs lo hi) : x ∈ xs := List.mem_of_mem_drop (List.mem_of_mem_take h)
theorem cutP_len (xs : List (Int × Int)) (lo hi : Option Int) : (cutP xs lo hi).length ≤ xs.length := by
  unfold cutP
  rw [List.length_take, List.length_drop]
  omega
theorem cat_pl {xs ys : List (Int × Int)} (h : xs.length + ys.length ≤ 4000000) : binD .add (.lst (xs.map dC)) (.lst (ys.map dC)) = some (.lst ((xs ++ ys).map dC)) := by
  rw [b_cat4 (by rw [List.length_map, List.length_map]; exact h), List.map_append]
theorem turned10 (ps : List (Int × Int)) (hl : ps.length ≤ 40) (h0 : ∀ p ∈ ps, 0 ≤ p.1) (size : Int) (hs : 0 ≤ size) (hs2 : size ≤ 1000) (gs : List Int) (gl : (gs.length : Int) = 4) (gn : ∀ x ∈ gs, sixD x) (S : Sto) :
    ∃ (m : Bool) (qs : List (Int × Int)), Fd con fuel tab 1 [.fz (.lst (ps.map dC)), .fz (.int size), .fz (.lst (gs.map D.int))] S = some (.ok (if m then .own (.lst (qs.map dC)) else .fz (.lst (qs.map dC))), S) ∧ qs.length ≤ 1000 ∧ ∀ p ∈ qs, 0 ≤ p.1 := by
  have g0 := ix_get (sp := gs) (i := 0) (by decide) (by omega)
  have g1 := ix_get (sp := gs) (i := 1) (by decide) (by omega)
  have g2 := ix_get (sp := gs) (i := 2) (by decide) (by omega)
  have g3 := ix_get (sp := gs) (i := 3) (by decide) (by omega)
  rw [show ((0 : Int)).toNat = 0 from rfl] at g0
  rw [show ((1 : Int)).toNat = 1 from rfl] at g1
  rw [show ((2 : Int)).toNat = 2 from rfl] at g2
  rw [show ((3 : Int)).toNat = 3 from rfl] at g3
  have mem : ∀ i : Int, 0 ≤ i → i < 4 → sixD (ix gs i) := fun i a b => gn _ (by
    unfold ix
    rw [List.getD_eq_getElem?_getD, List.getElem?_eq_getElem (by omega)]
    exact List.getElem_mem _)
  have n1 := mem 1 (by decide) (by decide)
  have n2 := mem 2 (by decide) (by decide)
  generalize ix gs 0 = q0 at *
  generalize ix gs 1 = q1 at *
  generalize ix gs 2 = q2 at *
  generalize ix gs 3 = q3 at *
  have pl : ((ps.map dC).length : Int) = (ps.length : Int) := by rw [List.length_map]
  rw [in1]; unfold body1
  have four : q0 % 4 = 0 ∨ q0 % 4 = 1 ∨ q0 % 4 = 2 ∨ q0 % 4 = 3 := by omega
  rcases four with e | e | e | e
  · refine ⟨false, ps, ?_, by omega, h0⟩
    push_cast [fin_ret, fin_nx, rep_0, rep_s, List.cons_append, List.nil_append, Nat.reduceSub, List.length_cons, List.length_nil, asC_sl, asC_fl, Int.cast_ofNat_Int, Int.ofNat_eq_natCast, cst, Int.reduceLT, Int.reduceLE, Nat.reduceAdd, Nat.zero_add, List.length_map, gl, g0, e]
    try rfl
  · by_cases c : ps.length = 0
    · have c' : (ps.length : Int) = 0 := by omega
      refine ⟨false, ps, ?_, by omega, h0⟩
      push_cast [fin_ret, fin_nx, rep_0, rep_s, List.cons_append, List.nil_append, Nat.reduceSub, List.length_cons, List.length_nil, asC_sl, asC_fl, Int.cast_ofNat_Int, Int.ofNat_eq_natCast, cst, Int.reduceLT, Int.reduceLE, Nat.reduceAdd, Nat.zero_add, List.length_map, gl, g0, e, c']
      try rfl
    · have c' : (0 : Int) < (ps.length : Int) := by omega
      have cz : (ps.length : Int) < 1073741824 := by omega
      obtain ⟨a, ha⟩ : ∃ a, q1 % (ps.length : Int) = a := ⟨_, rfl⟩
      have a0 : 0 ≤ a := by rw [← ha]; exact Int.emod_nonneg _ (by omega)
      have a1 : a < (ps.length : Int) := by rw [← ha]; exact Int.emod_lt_of_pos _ c'
      have alt : a.toNat < ps.length := by omega
      obtain ⟨pr, hpr⟩ : ∃ pr, ps[a.toNat]? = some pr := ⟨ps[a.toNat], List.getElem?_eq_getElem alt⟩
      have hpm := List.mem_of_getElem? hpr
      have ga : (ps.map dC)[a.toNat]? = some (dC pr) := by rw [List.getElem?_map, hpr]; rfl
      obtain ⟨x, y⟩ := pr
      obtain ⟨w, hw⟩ : ∃ w, ([D.int (Builtin.bitXor y 1), D.int ((y + 1 + q2 % 4095) % 4096)] : List D)[(q3 % 2).toNat]? = some (.int w) := by
        have : q3 % 2 = 0 ∨ q3 % 2 = 1 := by omega
        rcases this with e | e <;> rw [e]
        · exact ⟨_, rfl⟩
        · exact ⟨_, rfl⟩
      have i0 : 0 ≤ q3 % 2 := by omega
      have i1 : q3 % 2 < 2 := by omega
      have l1 := cutP_len ps none (some a)
      have l2 := cutP_len ps (some (a + 1)) none
      refine ⟨true, cutP ps none (some a) ++ [(x, w)] ++ cutP ps (some (a + 1)) none, ?_, by rw [List.length_append, List.length_append, List.length_singleton]; omega, fun p hp => ?_⟩
      · have k1 := cat_pl (xs := cutP ps none (some a)) (ys := [(x, w)]) (by rw [List.length_singleton]; omega)
        have k2 := cat_pl (xs := cutP ps none (some a) ++ [(x, w)]) (ys := cutP ps (some (a + 1)) none) (by rw [List.length_append, List.length_singleton]; omega)
        rw [List.map_cons, List.map_nil] at k1
        have c1 := cut_pl ps none (some a)
        have c2 := cut_pl ps (some (a + 1)) none
        rw [show dC (x, w) = .tup [.int x, .int w] from rfl] at k1
        rw [show dC (x, y) = .tup [.int x, .int y] from rfl] at ga
        have bx : binD .bxor (.int y) (.int 1) = some (.int (Builtin.bitXor y 1)) := rfl
        generalize Builtin.bitXor y 1 = yx at *
        generalize ps.map dC = pd at *
        generalize (cutP ps none (some a)).map dC = l1 at *
        generalize (cutP ps (some (a + 1)) none).map dC = l2 at *
        generalize (cutP ps none (some a) ++ [(x, w)]).map dC = l3 at *
        push_cast [fin_ret, fin_nx, rep_0, rep_s, List.cons_append, List.nil_append, Nat.reduceSub, List.length_cons, List.length_nil, asC_sl, asC_fl, Int.cast_ofNat_Int, Int.ofNat_eq_natCast, cst, Int.reduceLT, Int.reduceLE, Nat.reduceAdd, Nat.zero_add, List.length_map, pl, gl, g0, g1, g2, g3, e, c', cz, ha, a0, a1, ga, hw, i0, i1, s_lst, c1, c2, k1, k2, bx]
      · rcases List.mem_append.mp hp with h | h
        · rcases List.mem_append.mp h with h | h
          · exact h0 p (cutP_mem h)
          · rw [List.mem_singleton.mp h]; exact (h0 (x, y) hpm : 0 ≤ x)
        · exact h0 p (cutP_mem h)
  · refine ⟨true, ps ++ [(size + q1 % 3, q2 % 4096)], ?_, by rw [List.length_append, List.length_singleton]; omega, fun p hp => ?_⟩
    · have k1 := cat_pl (xs := ps) (ys := [(size + q1 % 3, q2 % 4096)]) (by rw [List.length_singleton]; omega)
      rw [List.map_cons, List.map_nil] at k1
      unfold dC at k1 ⊢
      push_cast [fin_ret, fin_nx, rep_0, rep_s, List.cons_append, List.nil_append, Nat.reduceSub, List.length_cons, List.length_nil, asC_sl, asC_fl, Int.cast_ofNat_Int, Int.ofNat_eq_natCast, cst, Int.reduceLT, Int.reduceLE, Nat.reduceAdd, Nat.zero_add, List.length_map, gl, g0, g1, g2, e, k1]
    · rcases List.mem_append.mp hp with h | h
      · exact h0 p h
      · rw [List.mem_singleton.mp h]; show 0 ≤ size + q1 % 3; omega
  · have mu : okMul q1 100000000000000000000000000000000000000000000 = true := okMul_l (by have := n1.1; omega) (by have := n1.2; omega)
    refine ⟨true, ps ++ [(size + q1 * 100000000000000000000000000000000000000000000, 0)], ?_, by rw [List.length_append, List.length_singleton]; omega, fun p hp => ?_⟩
    · have k1 := cat_pl (xs := ps) (ys := [(size + q1 * 100000000000000000000000000000000000000000000, 0)]) (by rw [List.length_singleton]; omega)
      rw [List.map_cons, List.map_nil] at k1
      unfold dC at k1 ⊢
      generalize hz : q1 * 100000000000000000000000000000000000000000000 = z at k1
      push_cast [fin_ret, fin_nx, rep_0, rep_s, List.cons_append, List.nil_append, Nat.reduceSub, List.length_cons, List.length_nil, asC_sl, asC_fl, Int.cast_ofNat_Int, Int.ofNat_eq_natCast, cst, Int.reduceLT, Int.reduceLE, Nat.reduceAdd, Nat.zero_add, List.length_map, gl, g0, g1, g2, e, mu, b_mul, hz, k1]
    · rcases List.mem_append.mp hp with h | h
      · exact h0 p h
      · rw [List.mem_singleton.mp h]
        have := n1.1
        show 0 ≤ size + q1 * 100000000000000000000000000000000000000000000
        omega

def okP (cs : List Int) (p : Int × Int) : Bool := decide (p.1 < (cs.length : Int)) && decide (ix cs p.1 = p.2)
theorem fm_bad (cs : List Int) (g : D → Option D) (e : ∀ p, g (dC p) = if okP cs p then none else some (dC p)) : ∀ ps : List (Int × Int), (ps.map dC).filterMap g = (ps.filter fun p => !okP cs p).map dC
  | [] => rfl
  | p :: ps => by
    rw [List.map_cons]
    cases c : okP cs p with
    | true => rw [List.filterMap_cons_none (by rw [e, c]; rfl), List.filter_cons_of_neg (by rw [c]; decide), fm_bad cs g e ps]
    | false => rw [List.filterMap_cons_some (b := dC p) (by rw [e, c]; rfl), List.filter_cons_of_pos (by rw [c]; decide), List.map_cons, fm_bad cs g e ps]
theorem bad_len (cs : List Int) (ps : List (Int × Int)) : (((ps.filter fun p => !okP cs p).length : Int) == 0) = ps.all (okP cs) := by
  rw [Bool.eq_iff_iff, beq_iff_eq, List.all_eq_true]
  constructor
  · intro h c hc
    have : ps.filter (fun p => !okP cs p) = [] := List.eq_nil_of_length_eq_zero (by omega)
    rw [List.filter_eq_nil_iff] at this
    have := this c hc
    simpa using this
  · intro h
    have : ps.filter (fun p => !okP cs p) = [] := by
      rw [List.filter_eq_nil_iff]
      intro c hc
      rw [h c hc]; decide
    rw [this]; rfl
abbrev F10 (c0 : Option Cell) (fs cs : List Int) (c3 c4 c5 c6 c7 : Option Cell) (S : Sto) : Stt := ⟨[c0, some (.own (.lst (fs.map D.int))), some (.own (.lst (cs.map D.int))), c3, c4, c5, c6, c7, none, none], S⟩
theorem due10 (c0 : Option Cell) (fs cs : List Int) (ps : List (Int × Int)) (hl : ps.length ≤ 1000) (h0 : ∀ p ∈ ps, 0 ≤ p.1) (c3 c5 c6 c7 : Option Cell) (S : Sto) :
    evV (PGn con fuel tab 4) false cx4_1 (F10 c0 fs cs c3 (some (.fz (.tup (ps.map dC)))) c5 c6 c7 S) = some (.ok (.nw (.own (.lst ((ps.filter fun p => !okP cs p).map dC)))), F10 c0 fs cs c3 (some (.fz (.tup (ps.map dC)))) c5 c6 c7 S) := by
  unfold cx4_1
  have key := comp_gen (P := PGn con fuel tab 4) (f := false) (cond := [.or [.cmp .ge (.idx (.var 9) (.int 0)) (.bi .len [.var 2]), .cmp .ne (.idx (.var 2) (.idx (.var 9) (.int 0))) (.idx (.var 9) (.int 1))]]) (e := .var 9) (p := .nm 9) (own := [9]) (it := .seq) (src := [.var 4]) (s1 := F10 c0 fs cs c3 (some (.fz (.tup (ps.map dC)))) c5 c6 c7 S) (vs := [(.fz, .tup (ps.map dC))]) (items := ps.map dC) false
    (fun d => match d with | .tup [.int x, .int y] => if okP cs (x, y) then none else some d | _ => none) (F10 c0 fs cs c3 (some (.fz (.tup (ps.map dC)))) c5 c6 c7 S).r (s := F10 c0 fs cs c3 (some (.fz (.tup (ps.map dC)))) c5 c6 c7 S)
    (by push_cast [F10]) rfl (by rw [List.length_map]; unfold line; omega) (by simp [isFl]) rfl rfl fun d hd => by
      obtain ⟨⟨x, y⟩, hx, rfl⟩ := List.mem_map.mp hd
      have x0 : 0 ≤ x := h0 _ hx
      generalize hT : (D.tup (ps.map dC)) = T
      refine ⟨[c0, some (.own (.lst (fs.map D.int))), some (.own (.lst (cs.map D.int))), c3, some (.fz T), c5, c6, c7, none, some (.fz (.tup [.int x, .int y]))], !okP cs (x, y), [c0, some (.own (.lst (fs.map D.int))), some (.own (.lst (cs.map D.int))), c3, some (.fz T), c5, c6, c7, none, some (.fz (.tup [.int x, .int y]))], ?_, ?_, ?_⟩
      · rfl
      · have T1 : ((evV (PGn con fuel tab 4) true (.or [.cmp .ge (.idx (.var 9) (.int 0)) (.bi .len [.var 2]), .cmp .ne (.idx (.var 2) (.idx (.var 9) (.int 0))) (.idx (.var 9) (.int 1))])).bind asT) ⟨[c0, some (.own (.lst (fs.map D.int))), some (.own (.lst (cs.map D.int))), c3, some (.fz T), c5, c6, c7, none, some (.fz (.tup [.int x, .int y]))], S⟩ = some (.ok (!okP cs (x, y)), ⟨[c0, some (.own (.lst (fs.map D.int))), some (.own (.lst (cs.map D.int))), c3, some (.fz T), c5, c6, c7, none, some (.fz (.tup [.int x, .int y]))], S⟩) := by
          unfold okP
          dsimp only
          by_cases c1 : x < (cs.length : Int)
          · have g := ix_get (sp := cs) x0 c1
            have ng : ¬ (cs.length : Int) ≤ x := by omega
            by_cases c2 : ix cs x = y
            · subst c2
              push_cast [Int.cast_ofNat_Int, Int.ofNat_eq_natCast, cst, Int.reduceLT, Int.reduceLE, Nat.reduceAdd, Nat.zero_add, List.length_map, x0, c1, ng, g]
              try rfl
            · have c2' : (ix cs x == y) = false := beq_eq_false_iff_ne.mpr c2
              push_cast [Int.cast_ofNat_Int, Int.ofNat_eq_natCast, cst, Int.reduceLT, Int.reduceLE, Nat.reduceAdd, Nat.zero_add, List.length_map, x0, c1, ng, g, c2, c2']
              try rfl
          · have ng : (cs.length : Int) ≤ x := by omega
            push_cast [Int.cast_ofNat_Int, Int.ofNat_eq_natCast, cst, Int.reduceLT, Int.reduceLE, Nat.reduceAdd, Nat.zero_add, List.length_map, x0, c1, ng]
            try rfl
        have T2 : evTA0 (PGn con fuel tab 4) [.or [.cmp .ge (.idx (.var 9) (.int 0)) (.bi .len [.var 2]), .cmp .ne (.idx (.var 2) (.idx (.var 9) (.int 0))) (.idx (.var 9) (.int 1))]] ⟨[c0, some (.own (.lst (fs.map D.int))), some (.own (.lst (cs.map D.int))), c3, some (.fz T), c5, c6, c7, none, some (.fz (.tup [.int x, .int y]))], S⟩ = some (.ok (!okP cs (x, y)), ⟨[c0, some (.own (.lst (fs.map D.int))), some (.own (.lst (cs.map D.int))), c3, some (.fz T), c5, c6, c7, none, some (.fz (.tup [.int x, .int y]))], S⟩) := by
          rw [evTA0, bind_eq, T1]
          cases okP cs (x, y) <;> rfl
        exact T2
      · cases e : okP cs (x, y) with
        | true => exact .inr ⟨rfl, by show (if okP cs (x, y) then none else some (dC (x, y))) = none; rw [e]; rfl, by show _ = _; rw [← hT]; rfl⟩
        | false => exact .inl ⟨rfl, .fz (dC (x, y)), dC (x, y), [c0, some (.own (.lst (fs.map D.int))), some (.own (.lst (cs.map D.int))), c3, some (.fz T), c5, c6, c7, none, some (.fz (.tup [.int x, .int y]))], by push_cast [dC, fin_ret, fin_nx, rep_0, rep_s, List.cons_append, List.nil_append, Nat.reduceSub, List.length_cons, List.length_nil]; try rfl, by show (if okP cs (x, y) then none else some (dC (x, y))) = _; rw [e]; rfl, .inl rfl, by show _ = _; rw [← hT]; rfl⟩
  rw [fm_bad cs _ (fun p => rfl)] at key
  exact key

theorem asg_own {P : Pg} {n i : Nat} {e : Ex} {d : D} {s s1 : Stt} (h : evV P false e s = some (.ok (.nw (.own d)), s1)) : exec P n (.asg i e) s = some (.ok .next, { s1 with r := s1.r.set i (some (.own d)) }) := by
  push_cast [h]
theorem turn10 (c0 : Option Cell) (fs cs : List Int) (fl : (fs.length : Int) = 60) (fn : ∀ x ∈ fs, sixD x) (cp : 0 < cs.length) (c128 : cs.length ≤ 128) (k : Nat) (hk : k < 8) (c4 c5 c6 c7 : Option Cell) (S : Sto) :
    ∃ c4' c5' c6' c7', execs (PGn con fuel tab 4) fuel lb4_0 (F10 c0 fs cs (some (.fz (.int k))) c4 c5 c6 c7 S) = some (.ok .next, F10 c0 fs cs (some (.fz (.int k))) c4' c5' c6' c7' S) := by
  have l1 := cutI_len (xs := fs) (a := (k : Int)) (b := (k : Int) + 21) (by omega) (by omega) (by omega)
  have l2 := cutI_len (xs := fs) (a := 30 + (k : Int)) (b := 34 + (k : Int)) (by omega) (by omega) (by omega)
  have f1 := cut_il fs (some (k : Int)) (some ((k : Int) + 21))
  have f2 := cut_il fs (some (30 + (k : Int))) (some (34 + (k : Int)))
  obtain ⟨ps, t1, pl, p0⟩ := text10 cs (cutI fs (some (k : Int)) (some ((k : Int) + 21))) cp (by omega) (by omega) S
  obtain ⟨m, qs, t2, ql, q0⟩ := turned10 ps pl p0 (cs.length : Int) (by omega) (by omega) (cutI fs (some (30 + (k : Int))) (some (34 + (k : Int)))) (by omega) (fun x hx => fn x (cutI_mem hx)) S
  have t3 := text_stands_ok true cs qs (by omega) q0 S
  rw [ar_t] at t3
  have t3 : Fd con fuel tab 3 [.br (.lst (cs.map D.int)), .fz (.tup (qs.map dC))] S = some (.ok (.fz (.bl (qs.all (okP cs)))), S) := t3
  have d1 := due10 c0 fs cs qs ql q0 (some (.fz (.int k))) (some (.own (.lst (cs.map D.int)))) (some (.fz (.bl (qs.all (okP cs))))) c7 S
  have bl := bad_len cs qs
  obtain ⟨z, hz⟩ : ∃ z, qs.all (okP cs) = z := ⟨_, rfl⟩
  rw [hz] at t3 d1 bl
  have dq := deqT_refl (ints_sane cs)
  generalize cutI fs (some (k : Int)) (some ((k : Int) + 21)) = g1 at *
  generalize cutI fs (some (30 + (k : Int))) (some (34 + (k : Int))) = g2 at *
  refine ⟨some (.fz (.tup (qs.map dC))), some (.own (.lst (cs.map D.int))), some (.fz (.bl z)), some (.fz (.bl z)), ?_⟩
  unfold lb4_0
  refine nx (F10 c0 fs cs (some (.fz (.int k))) (some (.fz (.tup (qs.map dC)))) c5 c6 c7 S) (by cases m <;> (simp only [Bool.false_eq_true, if_false, if_true] at t2; push_cast [F10, s_lst, f1, f2, t1, t2, List.length_map, i_tuple]; try rfl)) ?_
  refine nx (F10 c0 fs cs (some (.fz (.int k))) (some (.fz (.tup (qs.map dC)))) (some (.own (.lst (cs.map D.int)))) c6 c7 S) (by push_cast [F10]; try rfl) ?_
  refine nx (F10 c0 fs cs (some (.fz (.int k))) (some (.fz (.tup (qs.map dC)))) (some (.own (.lst (cs.map D.int)))) (some (.fz (.bl z))) c7 S) (by push_cast [F10, t3]; try rfl) ?_
  refine nx (F10 c0 fs cs (some (.fz (.int k))) (some (.fz (.tup (qs.map dC)))) (some (.own (.lst (cs.map D.int)))) (some (.fz (.bl z))) (some (.fz (.bl z))) S) (by push_cast [d1, List.length_map, bl]; try rfl) ?_
  refine nx (F10 c0 fs cs (some (.fz (.int k))) (some (.fz (.tup (qs.map dC)))) (some (.own (.lst (cs.map D.int)))) (some (.fz (.bl z))) (some (.fz (.bl z))) S) ?_ run_nil
  have ib : isiD .bl (.bl z) = some true := rfl
  cases z <;> (push_cast [F10, ib, dq]; try rfl)
theorem plain (ns : List Int) (h : ns.length ≤ 63) : ∃ S', Fd con fuel tab 4 [.fz (.lst (ns.map D.int))] [] = some (.ok (.fz (.bl true)), S') := by
  obtain ⟨fs, e2, hf, hs⟩ := numbers ns h false 0 60 (by decide) [] rfl
  rw [ar_f] at e2
  have e2 : Fd con fuel tab 0 [.fz (.lst (ns.map D.int)), .fz (.int 0), .fz (.int 60)] [] = _ := e2
  have fl : (fs.length : Int) = 60 := by omega
  have g0 := ix_get (sp := fs) (i := 0) (by decide) (by omega)
  rw [show ((0 : Int)).toNat = 0 from rfl] at g0
  obtain ⟨t, ht⟩ : ∃ t, 1 + ix fs 0 % 8 = t := ⟨_, rfl⟩
  have t1 : 1 ≤ t := by omega
  have t8 : t ≤ 8 := by omega
  obtain ⟨N, hN⟩ : ∃ N : Int, 16 * t = N := ⟨_, rfl⟩
  have np : 0 < N := by omega
  have n128 : N ≤ 128 := by omega
  have mu : okMul 16 t = true := okMul_r (by omega) (by omega)
  let c0 : Option Cell := some (.fz (.lst (ns.map D.int)))
  obtain ⟨cs, hcs⟩ : ∃ cs : List Int, cs = (List.range N.toNat).map fun (k : Nat) => ix fs ((k : Int) % 60) / (1 + (k : Int) / 60) % 4096 := ⟨_, rfl⟩
  have cl : (cs.length : Int) = N := by rw [hcs, List.length_map, List.length_range]; omega
  let E1 : Stt := ⟨[c0, some (.own (.lst (fs.map D.int))), none, none, none, none, none, none, none, none], []⟩
  have cx : evV (PGn con fuel tab 4) false cx4_0 E1 = some (.ok (.nw (.own (.lst (cs.map D.int)))), E1) := by
    unfold cx4_0
    have key := comp_rngW (P := PGn con fuel tab 4) (env := E1.r) (S := []) (f := false) (e := (.bin .mod (.bin .fdiv (.idx (.var 1) (.bin .mod (.var 8) (.int 60))) (.bin .add (.int 1) (.bin .fdiv (.var 8) (.int 60)))) (.int 4096))) (i := 8) (src := [.bin .mul (.int 16) (.bin .add (.int 1) (.bin .mod (.idx (.var 1) (.int 0)) (.int 8)))]) (n := N)
      (fun k => .int (ix fs ((k : Int) % 60) / (1 + (k : Int) / 60) % 4096)) (by push_cast [E1, c0, List.length_map, fl, Int.cast_ofNat_Int, Int.ofNat_eq_natCast, cst, Int.reduceLT, Int.reduceLE, Nat.reduceAdd, Nat.zero_add, g0, ht, mu, b_mul, hN]) (by omega) (by omega) E1.r rfl (by
        intro k hk
        have k1 : (0 : Int) ≤ (k : Int) % 60 := by omega
        have k2 : (k : Int) % 60 < 60 := by omega
        have d1 : (0 : Int) < 1 + (k : Int) / 60 := by omega
        have d2 : 1 + (k : Int) / 60 < 1073741824 := by omega
        have gk := ix_get (sp := fs) k1 (by omega)
        exact ⟨_, by push_cast [E1, c0, List.length_map, fl, k1, k2, gk, d1, d2], .inl rfl⟩)
    have e3 : (List.range N.toNat).map (fun (k : Nat) => D.int (ix fs ((k : Int) % 60) / (1 + (k : Int) / 60) % 4096)) = cs.map D.int := by
      rw [hcs, List.map_map]; rfl
    rw [e3] at key
    exact key
  obtain ⟨s', e, c3, c4, c5, c6, c7, rfl⟩ := for_rng0 (P := PGn con fuel tab 4) (n := fuel) (i := 3) (b := 8) (src := [.int 8]) (body := lb4_0)
    (fun k s => ∃ (c3 c4 c5 c6 c7 : Option Cell), s = F10 c0 fs cs c3 c4 c5 c6 c7 []) (s := F10 c0 fs cs none none none none none []) (s1 := F10 c0 fs cs none none none none none []) (by push_cast [F10]) (by decide) (by decide) ⟨_, _, _, _, _, rfl⟩ (by
      rintro k s hk ⟨c3, c4, c5, c6, c7, rfl⟩
      obtain ⟨d4, d5, d6, d7, e⟩ := turn10 c0 fs cs fl hs (by omega) (by omega) k (by omega) c4 c5 c6 c7 []
      exact ⟨_, e, _, _, _, _, _, rfl⟩)
  refine ⟨[], ?_⟩
  rw [in4]; unfold body4
  refine seqF E1 (by push_cast [c0, e2]; try rfl) ?_
  refine seqF (F10 c0 fs cs none none none none none []) (by rw [asg_own cx]; rfl) ?_
  refine seqF _ e ?_
  push_cast [F10, fin_ret, fin_nx, rep_0, rep_s, List.cons_append, List.nil_append, Nat.reduceSub, List.length_cons, List.length_nil]

end Law
open PySem PySem.W PyProof.Rows Lk
set_option maxRecDepth 100000 in
set_option maxHeartbeats 0 in
theorem PySem.Challenge.cw_likewise_k10_texts_stand_holds : PySem.Challenge.rw_likewise_k10_texts_stand.Holds := by
  w_on; o_law; k_head; (case hw => w_witness2)
  k_fill
  refine Lk.walk_lk (l := PySem.Challenge.rw_likewise_k10_texts_stand) (tab := Law.tab) (T := Law.tbl) (con := Law.con) (n := Law.fuel) (iL := 4) rfl rfl (by constructor <;> decide) (fun w h Y => PySem.W.kIn_of Y) Law.tab_sc Law.tab_ok rfl rfl rfl Law.plain ?F
  case F =>
    intro w mg fa h KX Gn hmg
    refine' top_mk (C := nthA ([])) (ks := Law.ks) (T := Law.tbl) (tab := Law.tab) (con := Law.con) hmg rfl
      (.cons (fnAt_mk ?l0 ?c0 ?k0 fun _ _ _ _ _ _ us hl => match us, hl with | [_, _, _], _ => rfl) (kd_fn (PySem.W.mg_of KX Gn ?a0)) <|
        .cons (fnAt_mk ?l1 ?c1 ?k1 fun _ _ _ _ _ _ us hl => match us, hl with | [_, _, _], _ => rfl) (kd_fn (PySem.W.mg_of KX Gn ?a1)) <|
        .cons (fnAt_mk ?l2 ?c2 ?k2 fun _ _ _ _ _ _ us hl => match us, hl with | [_, _], _ => rfl) (kd_fn (PySem.W.mg_of KX Gn ?a2)) <|
        .cons (fnAt_mk ?l3 ?c3 ?k3 fun _ _ _ _ _ _ us hl => match us, hl with | [_, _], _ => rfl) (kd_fn (PySem.W.mg_of KX Gn ?a3)) <|
        .cons (fnAt_mk ?l4 ?c4 ?k4 fun _ _ _ _ _ _ us hl => match us, hl with | [_], _ => rfl) (kd_fn (PySem.W.mg_of KX Gn ?a4)) <| .nil) Law.ks_ok
      (xtop_no rfl rfl rfl rfl)
      ( fa_nil)
      (fa_cons (PySem.W.mg_none_of KX Gn ?b0) <|
        fa_cons (PySem.W.mg_none_of KX Gn ?b1) <|
        fa_cons (PySem.W.mg_none_of KX Gn ?b2) <|
        fa_cons (PySem.W.mg_none_of KX Gn ?b3) <|
        fa_cons (PySem.W.mg_none_of KX Gn ?b4) <|
        fa_cons (PySem.W.mg_none_of KX Gn ?b5) <|
        fa_cons (PySem.W.mg_none_of KX Gn ?b6) <|
        fa_cons (PySem.W.mg_none_of KX Gn ?b7) <|
        fa_cons (PySem.W.mg_none_of KX Gn ?b8) <|
        fa_cons (PySem.W.mg_none_of KX Gn ?b9) <|
        fa_cons (PySem.W.mg_none_of KX Gn ?b10) <|
        fa_cons (PySem.W.mg_none_of KX Gn ?b11) <|
        fa_cons (PySem.W.mg_none_of KX Gn ?b12) <|
        fa_cons (PySem.W.mg_none_of KX Gn ?b13) <|
        fa_cons (PySem.W.mg_none_of KX Gn ?b14) <|
        fa_cons (PySem.W.mg_none_of KX Gn ?b15) <|
        fa_cons (PySem.W.mg_none_of KX Gn ?b16) <|
        fa_cons (PySem.W.mg_none_of KX Gn ?b17) <|
        fa_cons (PySem.W.mg_none_of KX Gn ?b18) <| fa_nil)
      ( lt_nil)
    (case a0 => k_is)
    (case l0 => k_is)
    (case c0 => k_is)
    (case k0 => k_is)
    (case a1 => k_is)
    (case l1 => k_is)
    (case c1 => k_is)
    (case k1 => k_is)
    (case a2 => k_is)
    (case l2 => k_is)
    (case c2 => k_is)
    (case k2 => k_is)
    (case a3 => k_is)
    (case l3 => k_is)
    (case c3 => k_is)
    (case k3 => k_is)
    (case a4 => k_is)
    (case l4 => k_is)
    (case c4 => k_is)
    (case k4 => k_is)
    (case b0 => k_is)
    (case b1 => k_is)
    (case b2 => k_is)
    (case b3 => k_is)
    (case b4 => k_is)
    (case b5 => k_is)
    (case b6 => k_is)
    (case b7 => k_is)
    (case b8 => k_is)
    (case b9 => k_is)
    (case b10 => k_is)
    (case b11 => k_is)
    (case b12 => k_is)
    (case b13 => k_is)
    (case b14 => k_is)
    (case b15 => k_is)
    (case b16 => k_is)
    (case b17 => k_is)
    (case b18 => k_is)

